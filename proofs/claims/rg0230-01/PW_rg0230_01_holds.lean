import PyProof.Rows.All
import Wide.All
import OpenK.AllK
import Wide.FinOn
import Lean
import PySem.Challenge.RW_rg0230_01
open PySem PySem.W PyProof.Rows
set_option Elab.async false
set_option maxRecDepth 100000
set_option linter.all false
namespace Mine
namespace Hd
noncomputable section
noncomputable abbrev pw : Program := PySem.Challenge.pw_rg0230_01
noncomputable def bd : List Stmt := pw.main.body
noncomputable def st (k : Nat) : Stmt := bd.getD k (.Pass ⟨0, 0, 0, 0⟩)
noncomputable def sc (k j : Nat) : Stmt := match st k with
  | .ClassDef _ _ _ b _ _ _ _ _ _ _ => b.getD j (.Pass ⟨0, 0, 0, 0⟩)
  | x => x
noncomputable def r (n : Nat) : Value := .ref n
noncomputable def s (x : String) (t : Nat) : Value := .str (.ofString x) t
noncomputable def ob (c : Value) (dd : Option Addr) (d : Data) (sl : List (Option Value)) : Obj := ⟨c, dd, d, ⟨sl⟩⟩
noncomputable def tu (l : List Value) : Obj := ob (.type "tuple") none (.seq ⟨l⟩ 0) []
noncomputable def i0 (n : Nat) : Value := .int n 0
noncomputable def co (a b : String) (t line argc fl x : Nat) (bb : Bool) (y : Nat) (v12 v13 v14 v15 : Value) (t3 : Nat) : Obj :=
  ob (.type "code") none (.fields ⟨[s a t, s b (t + 1), s "/claim/cut.py" (t + 2), i0 line, i0 argc, i0 0, i0 0, i0 fl, r x, .bool bb, i0 181, r y, v12, v13, v14, v15, i0 t3, i0 line, s "/claim/cut.py" (t3 + 1)]⟩) []
noncomputable def dk (P : Params) (l : List (String × Nat × Value)) : Array DictEntry := ⟨l.map fun x => ⟨PyData.keyHash P (.ofString x.1), s x.1 x.2.1, x.2.2⟩⟩
noncomputable def fd (x : Stmt) (qn : String) (g : Addr) (df kd doc pm : Value) (an : Option Addr) (cd ct : Value) (bi : Addr) : FuncData := match x with
  | .FunctionDef n a b _ _ _ sc _ _ _ => ⟨n, .ofString qn, a, .stmts b, sc, g, [], df, kd, doc, pm, an, cd, ct, bi⟩
  | _ => default
noncomputable abbrev N := BT.node
noncomputable abbrev E := BT.nil
noncomputable def life0 : Life := {}
noncomputable def o2 (P : Params) : Obj := ob .none none (.dict (dk P [("type.__subclasses__.Exception.0", 223, (.int 38 0)), ("type.__subclasses__.Exception.n", 224, (.int 1 0))]) 2) []
noncomputable def o3 (P : Params) : Obj := ob (.type "dict") none (.dict (dk P [("__name__", 165, (s "law_rg0230_01" 1077)), ("__doc__", 166, .none), ("__package__", 167, .none), ("__loader__", 168, (.builtin "__main__.__loader__#opaque")), ("__spec__", 169, .none), ("__annotations__", 170, (r 6)), ("__builtins__", 171, (r 4)), ("__file__", 173, (s "/claim/cut.py" 172)), ("__cached__", 174, .none), ("truth", 195, (r 21)), ("PerlError", 226, (r 38)), ("Die", 251, (r 58)), ("BadOps", 267, (r 70)), ("SHAPES", 880, (r 73)), ("LEAVING", 889, (r 203)), ("shape_of", 897, (r 210)), ("jumps_of", 903, (r 215)), ("with_jumps", 915, (r 222)), ("goes_on", 922, (r 229)), ("PUSHES", 929, (r 230)), ("IDLE_PAIRS", 936, (r 234)), ("BRANCHES", 943, (r 235)), ("goal_marks", 953, (r 242)), ("squeezed_rows", 959, (r 247)), ("taken_consts", 966, (r 254)), ("folded_value", 975, (r 261)), ("fold_rows", 981, (r 266)), ("is_taken", 989, (r 273)), ("branch_rows", 
  1001, (r 280)), ("is_idle", 1009, (r 287)), ("pair_rows", 1019, (r 294)), ("landing_row", 1029, (r 301)), ("chained", 1043, (r 308)), ("thread_rows", 1049, (r 313)), ("reached_rows", 1059, (r 320)), ("live_rows", 1065, (r 325)), ("improved_rows", 1076, (r 332)), ("_law_draw", 1087, (r 339)), ("_law_number", 1094, (r 346)), ("_law_text", 1101, (r 353)), ("_law_compute", 1112, (r 360)), ("_law_jump", 1122, (r 367)), ("_law_run", 1142, (r 374)), ("_law_expr", 1154, (r 381)), ("_law_statement", 1164, (r 388)), ("_law_rows", 1177, (r 395)), ("_law_passed", 1185, (r 402)), ("law", 1201, (r 409))]) 48) []
noncomputable def o11 : Obj := tu []
noncomputable def o12 : Obj := ob .none none (.fields ⟨[(.int 2 0), (.int 0 0), (r 20), (.int 5 0), (.int 0 0), (r 27), (.int 10 0), (.int 0 0), (r 47), (.int 15 0), (.int 0 0), (r 66), (.int 20 0), (.int 0 0), (r 209), (.int 27 0), (.int 0 0), (r 214), (.int 30 0), (.int 0 0), (r 221), (.int 41 0), (.int 0 0), (r 228), (.int 47 0), (.int 0 0), (r 241), (.int 53 0), (.int 0 0), (r 246), (.int 61 0), (.int 0 0), (r 253), (.int 65 0), (.int 0 0), (r 260), (.int 70 0), (.int 0 0), (r 265), (.int 93 0), (.int 0 0), (r 272), (.int 97 0), (.int 0 0), (r 279), (.int 109 0), (.int 0 0), (r 286), (.int 113 0), (.int 0 0), (r 293), (.int 126 0), (.int 0 0), (r 300), (.int 133 0), (.int 0 0), (r 307), (.int 151 0), (.int 0 0), (r 312), (.int 163 0), (.int 0 0), (r 319), (.int 175 0), (.int 0 0), (r 324), (.int 178 0), (.int 0 0), (r 331), (.int 187 0), (.int 0 0), (r 338), (.int 193 0), (.int 0 0), (r 345), (.int 197 0), (.int 0 
  0), (r 352), (.int 199 0), (.int 0 0), (r 359), (.int 213 0), (.int 0 0), (r 366), (.int 223 0), (.int 0 0), (r 373), (.int 260 0), (.int 0 0), (r 380), (.int 297 0), (.int 0 0), (r 387), (.int 314 0), (.int 0 0), (r 394), (.int 328 0), (.int 0 0), (r 401), (.int 338 0), (.int 0 0), (r 408)]⟩) []
noncomputable def o13 : Obj := co "<module>" "<module>" 182 1 0 0 11 false 12 .none .none .none .none 185
noncomputable def o14 : Obj := ob (.type "frame") none .plain [some (r 13), some (r 3), some (r 3), none, some (s "__main__" 164), none, some (r 0)]
noncomputable def o15 : Obj := tu []
noncomputable def o16 : Obj := ob .none none (.fields ⟨[]⟩) []
noncomputable def o17 : Obj := tu [(s "value" 192)]
noncomputable def o18 : Obj := tu []
noncomputable def o19 : Obj := ob .none none (.func (fd (st 1) "truth" 0 .none .none .none .none none .none .none 0)) []
noncomputable def o20 : Obj := co "truth" "truth" 189 2 1 3 15 true 16 .none (r 17) (r 18) (r 19) 193
noncomputable def o21 : Obj := ob (.type "function") none (.func (fd (st 1) "truth" 3 .none .none .none (s "perlcore.convert" 187) none (r 20) .none 0)) []
noncomputable def o22 : Obj := tu [(.type "Exception")]
noncomputable def o23 : Obj := ob (.type "builtin_function_or_method") none (.fields ⟨[(.builtin "type.__prepare__"), (.type "type")]⟩) []
noncomputable def o24 (P : Params) : Obj := ob (.type "dict") none (.dict (dk P [("__module__", 205, (s "perlcore.errors" 196)), ("__qualname__", 207, (s "PerlError" 206)), ("__firstlineno__", 209, (.int 5 208)), ("__init__", 217, (r 35)), ("__static_attributes__", 219, (r 36))]) 5) []
noncomputable def o25 : Obj := tu []
noncomputable def o26 : Obj := ob .none none (.fields ⟨[(.int 7 0), (.int 4 0), (r 34)]⟩) []
noncomputable def o27 : Obj := co "PerlError" "PerlError" 200 5 0 0 25 false 26 .none .none .none .none 203
noncomputable def o28 : Obj := ob (.type "frame") none .plain [some (r 27), some (r 3), some (r 24), none, some (s "perlcore.errors" 196), none, some (r 0)]
noncomputable def o29 : Obj := tu []
noncomputable def o30 : Obj := ob .none none (.fields ⟨[]⟩) []
noncomputable def o31 : Obj := tu [(s "self" 213), (s "text" 214)]
noncomputable def o32 : Obj := tu []
noncomputable def o33 : Obj := ob .none none (.func (fd (sc 3 0) "PerlError.__init__" 0 .none .none .none .none none .none .none 0)) []
noncomputable def o34 : Obj := co "__init__" "PerlError.__init__" 210 7 2 3 29 true 30 .none (r 31) (r 32) (r 33) 215
noncomputable def o35 : Obj := ob (.type "function") none (.func (fd (sc 3 0) "PerlError.__init__" 3 .none .none .none (s "perlcore.errors" 196) none (r 34) .none 0)) []
noncomputable def o36 : Obj := tu [(s "text" 218)]
noncomputable def o37 (P : Params) : Obj := ob (.type "dict") none (.dict (dk P [("__module__", 205, (s "perlcore.errors" 196)), ("__firstlineno__", 209, (.int 5 208)), ("__init__", 217, (r 35)), ("__static_attributes__", 219, (r 36)), ("__weakref__", 221, (r 39)), ("__doc__", 222, .none)]) 3) []
noncomputable def o38 : Obj := ob (.type "type") none (.cls ⟨"PerlError", [(.type "Exception")], [(r 38), (.type "Exception"), (.type "BaseException"), (.type "object")], 37, "PerlError", true, [], [(r 58), (r 70)], false, none, false⟩) [some (r 22), none, some (s "PerlError" 198), some (s "PerlError" 206), some (.builtin "Exception.__new__"), some (.bool true)]
noncomputable def o39 : Obj := ob (.type "getset_descriptor") none (.fields ⟨[(s "__weakref__" 220), (r 38), (.builtin "ExceptionGroup.__weakref__"), .none]⟩) []
noncomputable def o40 : Obj := ob (.type "super") none (.fields ⟨[(r 38), (r 38), (r 38)]⟩) []
noncomputable def o41 : Obj := ob (.type "builtin_function_or_method") none (.fields ⟨[(.builtin "object.__init_subclass__"), (r 38)]⟩) []
noncomputable def o42 : Obj := tu [(r 38)]
noncomputable def o43 : Obj := ob (.type "builtin_function_or_method") none (.fields ⟨[(.builtin "type.__prepare__"), (.type "type")]⟩) []
noncomputable def o44 (P : Params) : Obj := ob (.type "dict") none (.dict (dk P [("__module__", 234, (s "perlcore.errors" 196)), ("__qualname__", 236, (s "Die" 235)), ("__firstlineno__", 238, (.int 10 237)), ("__init__", 246, (r 55)), ("__static_attributes__", 248, (r 56))]) 5) []
noncomputable def o45 : Obj := tu []
noncomputable def o46 : Obj := ob .none none (.fields ⟨[(.int 12 0), (.int 4 0), (r 54)]⟩) []
noncomputable def o47 : Obj := co "Die" "Die" 229 10 0 0 45 false 46 .none .none .none .none 232
noncomputable def o48 : Obj := ob (.type "frame") none .plain [some (r 47), some (r 3), some (r 44), none, some (s "perlcore.errors" 196), none, some (r 0)]
noncomputable def o49 : Obj := tu []
noncomputable def o50 : Obj := ob .none none (.fields ⟨[]⟩) []
noncomputable def o51 : Obj := tu [(s "self" 242), (s "value" 243)]
noncomputable def o52 : Obj := tu []
noncomputable def o53 : Obj := ob .none none (.func (fd (sc 4 0) "Die.__init__" 0 .none .none .none .none none .none .none 0)) []
noncomputable def o54 : Obj := co "__init__" "Die.__init__" 239 12 2 3 49 true 50 .none (r 51) (r 52) (r 53) 244
noncomputable def o55 : Obj := ob (.type "function") none (.func (fd (sc 4 0) "Die.__init__" 3 .none .none .none (s "perlcore.errors" 196) none (r 54) .none 0)) []
noncomputable def o56 : Obj := tu [(s "value" 247)]
noncomputable def o57 (P : Params) : Obj := ob (.type "dict") none (.dict (dk P [("__module__", 234, (s "perlcore.errors" 196)), ("__firstlineno__", 238, (.int 10 237)), ("__init__", 246, (r 55)), ("__static_attributes__", 248, (r 56)), ("__doc__", 249, .none)]) 2) []
noncomputable def o58 : Obj := ob (.type "type") none (.cls ⟨"Die", [(r 38)], [(r 58), (r 38), (.type "Exception"), (.type "BaseException"), (.type "object")], 57, "Die", true, [], [], false, none, false⟩) [some (r 42), none, some (s "Die" 227), some (s "Die" 235), some (.builtin "Exception.__new__"), some (.bool true)]
noncomputable def o59 : Obj := ob (.type "super") none (.fields ⟨[(r 58), (r 58), (r 58)]⟩) []
noncomputable def o60 : Obj := ob (.type "builtin_function_or_method") none (.fields ⟨[(.builtin "object.__init_subclass__"), (r 58)]⟩) []
noncomputable def o61 : Obj := tu [(r 38)]
noncomputable def o62 : Obj := ob (.type "builtin_function_or_method") none (.fields ⟨[(.builtin "type.__prepare__"), (.type "type")]⟩) []
noncomputable def o63 (P : Params) : Obj := ob (.type "dict") none (.dict (dk P [("__module__", 259, (s "perlcore.errors" 196)), ("__qualname__", 261, (s "BadOps" 260)), ("__firstlineno__", 263, (.int 15 262)), ("__static_attributes__", 264, (r 68))]) 4) []
noncomputable def o64 : Obj := tu []
noncomputable def o65 : Obj := ob .none none (.fields ⟨[]⟩) []
noncomputable def o66 : Obj := co "BadOps" "BadOps" 254 15 0 0 64 false 65 .none .none .none .none 257
noncomputable def o67 : Obj := ob (.type "frame") none .plain [some (r 66), some (r 3), some (r 63), none, some (s "perlcore.errors" 196), none, some (r 0)]
noncomputable def o68 : Obj := tu []
noncomputable def o69 (P : Params) : Obj := ob (.type "dict") none (.dict (dk P [("__module__", 259, (s "perlcore.errors" 196)), ("__firstlineno__", 263, (.int 15 262)), ("__static_attributes__", 264, (r 68)), ("__doc__", 265, .none)]) 2) []
noncomputable def o70 : Obj := ob (.type "type") none (.cls ⟨"BadOps", [(r 38)], [(r 70), (r 38), (.type "Exception"), (.type "BaseException"), (.type "object")], 69, "BadOps", true, [], [], false, none, false⟩) [some (r 61), none, some (s "BadOps" 252), some (s "BadOps" 260), some (.builtin "Exception.__new__"), some (.bool true)]
noncomputable def o71 : Obj := ob (.type "super") none (.fields ⟨[(r 70), (r 70), (r 70)]⟩) []
noncomputable def o72 : Obj := ob (.type "builtin_function_or_method") none (.fields ⟨[(.builtin "object.__init_subclass__"), (r 70)]⟩) []
noncomputable def o73 (P : Params) : Obj := ob (.type "dict") none (.dict (dk P [("const", 270, (r 74)), ("empty", 275, (r 75)), ("drop", 280, (r 76)), ("dup", 285, (r 77)), ("swap", 290, (r 78)), ("wrap", 295, (r 79)), ("append", 300, (r 80)), ("copy", 305, (r 81)), ("count", 310, (r 82)), ("final", 315, (r 83)), ("keep", 320, (r 84)), ("refcode", 325, (r 85)), ("codetold", 330, (r 86)), ("refuse", 335, (r 87)), ("pad", 340, (r 88)), ("my", 345, (r 89)), ("glob", 350, (r 90)), ("matchvar", 355, (r 92)), ("fetch", 360, (r 93)), ("ascalar", 365, (r 94)), ("newscalar", 370, (r 95)), ("vivify", 375, (r 96)), ("deref", 380, (r 97)), ("items", 385, (r 98)), ("size", 390, (r 99)), ("pairs", 395, (r 100)), ("keycount", 400, (r 101)), ("lastidx", 405, (r 102)), ("elem", 410, (r 103)), ("helem", 415, (r 104)), ("elemat", 420, (r 105)), ("helemat", 425, (r 106)), ("elemlv", 430, (r 107)), ("helemlv", 435, (r 108)), ("aslice", 440, (r 110)), 
  ("hslice", 445, (r 111)), ("aslicelv", 450, (r 112)), ("hslicelv", 455, (r 113)), ("lslice", 460, (r 114)), ("substrlv", 465, (r 115)), ("veclv", 470, (r 116)), ("poslv", 475, (r 117)), ("lastlv", 480, (r 118)), ("ref", 485, (r 119)), ("refvalue", 490, (r 120)), ("elemrefs", 495, (r 121)), ("refeach", 500, (r 122)), ("anona", 505, (r 123)), ("anonh", 510, (r 124)), ("closure", 515, (r 125)), ("definesub", 520, (r 126)), ("code", 525, (r 128)), ("codefor", 530, (r 129)), ("assign", 535, (r 130)), ("opassign", 540, (r 131)), ("aassign", 545, (r 132)), ("members", 550, (r 133)), ("lasttarget", 555, (r 134)), ("preinc", 560, (r 135)), ("predec", 565, (r 136)), ("postinc", 570, (r 137)), ("postdec", 575, (r 138)), ("localglob", 580, (r 139)), ("localelem", 585, (r 140)), ("localhelem", 590, (r 141)), ("localaslice", 595, (r 142)), ("localhslice", 600, (r 143)), ("bin", 605, (r 144)), ("xor", 610, 
  (r 146)), ("un", 615, (r 147)), ("joinlist", 620, (r 148)), ("text", 625, (r 149)), ("wanted", 630, (r 150)), ("repeat", 635, (r 151)), ("range", 640, (r 152)), ("jump", 645, (r 153)), ("iffalse", 650, (r 154)), ("iftrue", 655, (r 155)), ("ifdef", 660, (r 156)), ("orjump", 665, (r 157)), ("andjump", 670, (r 158)), ("dorjump", 675, (r 159)), ("bywant", 680, (r 160)), ("iter", 685, (r 161)), ("next", 690, (r 162)), ("bindpad", 695, (r 164)), ("bindglob", 700, (r 165)), ("return0", 705, (r 166)), ("return1", 710, (r 167)), ("return2", 715, (r 168)), ("subreturn", 720, (r 169)), ("enter", 725, (r 170)), ("leave", 730, (r 171)), ("leavetest", 735, (r 172)), ("begin", 740, (r 173)), ("settle", 745, (r 174)), ("resettle", 750, (r 175)), ("forget", 755, (r 176)), ("line", 760, (r 177)), ("package", 765, (r 178)), ("loop", 770, (r 179)), ("endloop", 775, (r 180)), ("unwind", 780, (r 182)), ("loopleave", 
  785, (r 183)), ("call", 790, (r 184)), ("callsame", 795, (r 185)), ("method", 800, (r 186)), ("func", 805, (r 187)), ("map", 810, (r 188)), ("grep", 815, (r 189)), ("sort", 820, (r 190)), ("sortby", 825, (r 191)), ("match", 830, (r 192)), ("subst", 835, (r 193)), ("trans", 840, (r 194)), ("split", 845, (r 195)), ("delete", 850, (r 196)), ("exists", 855, (r 197)), ("isdef", 860, (r 198)), ("codethere", 865, (r 200)), ("evalblock", 869, (r 201)), ("evalstr", 873, (r 202))]) 122) []
noncomputable def o74 : Obj := tu [(.int 0 271), (.int 1 272), (s "-" 273)]
noncomputable def o75 : Obj := tu [(.int 0 276), (.int 1 277), (s "" 278)]
noncomputable def o76 : Obj := tu [(.int 1 281), (.int 0 282), (s "" 283)]
noncomputable def o77 : Obj := tu [(.int 1 286), (.int 2 287), (s "" 288)]
noncomputable def o78 : Obj := tu [(.int 2 291), (.int 2 292), (s "" 293)]
noncomputable def o79 : Obj := tu [(.int 1 296), (.int 1 297), (s "" 298)]
noncomputable def o80 : Obj := tu [(.int 0 301), (.int 1 302), (s "n" 303)]
noncomputable def o81 : Obj := tu [(.int 1 306), (.int 1 307), (s "" 308)]
noncomputable def o82 : Obj := tu [(.int 1 311), (.int 1 312), (s "" 313)]
noncomputable def o83 : Obj := tu [(.int 1 316), (.int 1 317), (s "" 318)]
noncomputable def o84 : Obj := tu [(.int 1 321), (.int 1 322), (s "" 323)]
noncomputable def o85 : Obj := tu [(.int 1 326), (.int 1 327), (s "" 328)]
noncomputable def o86 : Obj := tu [(.int 1 331), (.int 1 332), (s "" 333)]
noncomputable def o87 : Obj := tu [(.int 0 336), (.int 1 337), (s "-" 338)]
noncomputable def o88 : Obj := tu [(.int 0 341), (.int 1 342), (s "--" 343)]
noncomputable def o89 : Obj := tu [(.int 0 346), (.int 1 347), (s "--" 348)]
noncomputable def o90 : Obj := tu [(.int 0 351), (.int 1 352), (s "--" 353)]
noncomputable def o91 (P : Params) : Obj := ob (.type "dict") none (.dict (dk P [("matchvar", 355, (r 92)), ("fetch", 360, (r 93)), ("ascalar", 365, (r 94)), ("newscalar", 370, (r 95)), ("vivify", 375, (r 96)), ("deref", 380, (r 97)), ("items", 385, (r 98)), ("size", 390, (r 99)), ("pairs", 395, (r 100)), ("keycount", 400, (r 101)), ("lastidx", 405, (r 102)), ("elem", 410, (r 103)), ("helem", 415, (r 104)), ("elemat", 420, (r 105)), ("helemat", 425, (r 106)), ("elemlv", 430, (r 107)), ("helemlv", 435, (r 108))]) 17) []
noncomputable def o92 : Obj := tu [(.int 0 356), (.int 1 357), (s "-" 358)]
noncomputable def o93 : Obj := tu [(.int 1 361), (.int 1 362), (s "" 363)]
noncomputable def o94 : Obj := tu [(.int 1 366), (.int 1 367), (s "" 368)]
noncomputable def o95 : Obj := tu [(.int 1 371), (.int 1 372), (s "" 373)]
noncomputable def o96 : Obj := tu [(.int 1 376), (.int 1 377), (s "-" 378)]
noncomputable def o97 : Obj := tu [(.int 1 381), (.int 1 382), (s "-" 383)]
noncomputable def o98 : Obj := tu [(.int 1 386), (.int 1 387), (s "" 388)]
noncomputable def o99 : Obj := tu [(.int 1 391), (.int 1 392), (s "" 393)]
noncomputable def o100 : Obj := tu [(.int 1 396), (.int 1 397), (s "" 398)]
noncomputable def o101 : Obj := tu [(.int 1 401), (.int 1 402), (s "" 403)]
noncomputable def o102 : Obj := tu [(.int 1 406), (.int 1 407), (s "" 408)]
noncomputable def o103 : Obj := tu [(.int 2 411), (.int 1 412), (s "" 413)]
noncomputable def o104 : Obj := tu [(.int 2 416), (.int 1 417), (s "" 418)]
noncomputable def o105 : Obj := tu [(.int 2 421), (.int 1 422), (s "" 423)]
noncomputable def o106 : Obj := tu [(.int 2 426), (.int 1 427), (s "" 428)]
noncomputable def o107 : Obj := tu [(.int 2 431), (.int 1 432), (s "" 433)]
noncomputable def o108 : Obj := tu [(.int 2 436), (.int 1 437), (s "" 438)]
noncomputable def o109 (P : Params) : Obj := ob (.type "dict") none (.dict (dk P [("aslice", 440, (r 110)), ("hslice", 445, (r 111)), ("aslicelv", 450, (r 112)), ("hslicelv", 455, (r 113)), ("lslice", 460, (r 114)), ("substrlv", 465, (r 115)), ("veclv", 470, (r 116)), ("poslv", 475, (r 117)), ("lastlv", 480, (r 118)), ("ref", 485, (r 119)), ("refvalue", 490, (r 120)), ("elemrefs", 495, (r 121)), ("refeach", 500, (r 122)), ("anona", 505, (r 123)), ("anonh", 510, (r 124)), ("closure", 515, (r 125)), ("definesub", 520, (r 126))]) 17) []
noncomputable def o110 : Obj := tu [(.int 2 441), (.int 1 442), (s "" 443)]
noncomputable def o111 : Obj := tu [(.int 2 446), (.int 1 447), (s "" 448)]
noncomputable def o112 : Obj := tu [(.int 2 451), (.int 1 452), (s "" 453)]
noncomputable def o113 : Obj := tu [(.int 2 456), (.int 1 457), (s "" 458)]
noncomputable def o114 : Obj := tu [(.int 2 461), (.int 1 462), (s "" 463)]
noncomputable def o115 : Obj := tu [(.int 0 466), (.int 1 467), (s "n" 468)]
noncomputable def o116 : Obj := tu [(.int 3 471), (.int 1 472), (s "" 473)]
noncomputable def o117 : Obj := tu [(.int 1 476), (.int 1 477), (s "" 478)]
noncomputable def o118 : Obj := tu [(.int 1 481), (.int 1 482), (s "" 483)]
noncomputable def o119 : Obj := tu [(.int 1 486), (.int 1 487), (s "" 488)]
noncomputable def o120 : Obj := tu [(.int 1 491), (.int 1 492), (s "" 493)]
noncomputable def o121 : Obj := tu [(.int 1 496), (.int 1 497), (s "" 498)]
noncomputable def o122 : Obj := tu [(.int 1 501), (.int 1 502), (s "" 503)]
noncomputable def o123 : Obj := tu [(.int 1 506), (.int 1 507), (s "" 508)]
noncomputable def o124 : Obj := tu [(.int 1 511), (.int 1 512), (s "" 513)]
noncomputable def o125 : Obj := tu [(.int 0 516), (.int 1 517), (s "-" 518)]
noncomputable def o126 : Obj := tu [(.int 0 521), (.int 0 522), (s "-" 523)]
noncomputable def o127 (P : Params) : Obj := ob (.type "dict") none (.dict (dk P [("code", 525, (r 128)), ("codefor", 530, (r 129)), ("assign", 535, (r 130)), ("opassign", 540, (r 131)), ("aassign", 545, (r 132)), ("members", 550, (r 133)), ("lasttarget", 555, (r 134)), ("preinc", 560, (r 135)), ("predec", 565, (r 136)), ("postinc", 570, (r 137)), ("postdec", 575, (r 138)), ("localglob", 580, (r 139)), ("localelem", 585, (r 140)), ("localhelem", 590, (r 141)), ("localaslice", 595, (r 142)), ("localhslice", 600, (r 143)), ("bin", 605, (r 144))]) 17) []
noncomputable def o128 : Obj := tu [(.int 0 526), (.int 1 527), (s "-" 528)]
noncomputable def o129 : Obj := tu [(.int 0 531), (.int 1 532), (s "-" 533)]
noncomputable def o130 : Obj := tu [(.int 2 536), (.int 1 537), (s "" 538)]
noncomputable def o131 : Obj := tu [(.int 2 541), (.int 1 542), (s "-" 543)]
noncomputable def o132 : Obj := tu [(.int 2 546), (.int 1 547), (s "w" 548)]
noncomputable def o133 : Obj := tu [(.int 1 551), (.int 1 552), (s "" 553)]
noncomputable def o134 : Obj := tu [(.int 1 556), (.int 1 557), (s "" 558)]
noncomputable def o135 : Obj := tu [(.int 1 561), (.int 1 562), (s "" 563)]
noncomputable def o136 : Obj := tu [(.int 1 566), (.int 1 567), (s "" 568)]
noncomputable def o137 : Obj := tu [(.int 1 571), (.int 1 572), (s "" 573)]
noncomputable def o138 : Obj := tu [(.int 1 576), (.int 1 577), (s "" 578)]
noncomputable def o139 : Obj := tu [(.int 0 581), (.int 1 582), (s "--" 583)]
noncomputable def o140 : Obj := tu [(.int 2 586), (.int 1 587), (s "" 588)]
noncomputable def o141 : Obj := tu [(.int 2 591), (.int 1 592), (s "" 593)]
noncomputable def o142 : Obj := tu [(.int 2 596), (.int 1 597), (s "" 598)]
noncomputable def o143 : Obj := tu [(.int 2 601), (.int 1 602), (s "" 603)]
noncomputable def o144 : Obj := tu [(.int 2 606), (.int 1 607), (s "-" 608)]
noncomputable def o145 (P : Params) : Obj := ob (.type "dict") none (.dict (dk P [("xor", 610, (r 146)), ("un", 615, (r 147)), ("joinlist", 620, (r 148)), ("text", 625, (r 149)), ("wanted", 630, (r 150)), ("repeat", 635, (r 151)), ("range", 640, (r 152)), ("jump", 645, (r 153)), ("iffalse", 650, (r 154)), ("iftrue", 655, (r 155)), ("ifdef", 660, (r 156)), ("orjump", 665, (r 157)), ("andjump", 670, (r 158)), ("dorjump", 675, (r 159)), ("bywant", 680, (r 160)), ("iter", 685, (r 161)), ("next", 690, (r 162))]) 17) []
noncomputable def o146 : Obj := tu [(.int 2 611), (.int 1 612), (s "" 613)]
noncomputable def o147 : Obj := tu [(.int 1 616), (.int 1 617), (s "-" 618)]
noncomputable def o148 : Obj := tu [(.int 1 621), (.int 1 622), (s "" 623)]
noncomputable def o149 : Obj := tu [(.int 1 626), (.int 1 627), (s "" 628)]
noncomputable def o150 : Obj := tu [(.int 0 631), (.int 1 632), (s "" 633)]
noncomputable def o151 : Obj := tu [(.int 2 636), (.int 1 637), (s "" 638)]
noncomputable def o152 : Obj := tu [(.int 2 641), (.int 1 642), (s "" 643)]
noncomputable def o153 : Obj := tu [(.int 0 646), (.int 0 647), (s "j" 648)]
noncomputable def o154 : Obj := tu [(.int 1 651), (.int 0 652), (s "j" 653)]
noncomputable def o155 : Obj := tu [(.int 1 656), (.int 0 657), (s "j" 658)]
noncomputable def o156 : Obj := tu [(.int 1 661), (.int 0 662), (s "j" 663)]
noncomputable def o157 : Obj := tu [(.int 1 666), (.int 0 667), (s "j" 668)]
noncomputable def o158 : Obj := tu [(.int 1 671), (.int 0 672), (s "j" 673)]
noncomputable def o159 : Obj := tu [(.int 1 676), (.int 0 677), (s "j" 678)]
noncomputable def o160 : Obj := tu [(.int 0 681), (.int 0 682), (s "jjj" 683)]
noncomputable def o161 : Obj := tu [(.int 1 686), (.int 1 687), (s "" 688)]
noncomputable def o162 : Obj := tu [(.int 1 691), (.int 2 692), (s "j" 693)]
noncomputable def o163 (P : Params) : Obj := ob (.type "dict") none (.dict (dk P [("bindpad", 695, (r 164)), ("bindglob", 700, (r 165)), ("return0", 705, (r 166)), ("return1", 710, (r 167)), ("return2", 715, (r 168)), ("subreturn", 720, (r 169)), ("enter", 725, (r 170)), ("leave", 730, (r 171)), ("leavetest", 735, (r 172)), ("begin", 740, (r 173)), ("settle", 745, (r 174)), ("resettle", 750, (r 175)), ("forget", 755, (r 176)), ("line", 760, (r 177)), ("package", 765, (r 178)), ("loop", 770, (r 179)), ("endloop", 775, (r 180))]) 17) []
noncomputable def o164 : Obj := tu [(.int 1 696), (.int 0 697), (s "-" 698)]
noncomputable def o165 : Obj := tu [(.int 1 701), (.int 0 702), (s "-" 703)]
noncomputable def o166 : Obj := tu [(.int 0 706), (.int 0 707), (s "" 708)]
noncomputable def o167 : Obj := tu [(.int 1 711), (.int 0 712), (s "" 713)]
noncomputable def o168 : Obj := tu [(.int 1 716), (.int 0 717), (s "" 718)]
noncomputable def o169 : Obj := tu [(.int 0 721), (.int 0 722), (s "s" 723)]
noncomputable def o170 : Obj := tu [(.int 0 726), (.int 0 727), (s "" 728)]
noncomputable def o171 : Obj := tu [(.int 0 731), (.int 0 732), (s "" 733)]
noncomputable def o172 : Obj := tu [(.int 0 736), (.int 0 737), (s "" 738)]
noncomputable def o173 : Obj := tu [(.int 0 741), (.int 0 742), (s "" 743)]
noncomputable def o174 : Obj := tu [(.int 0 746), (.int 0 747), (s "" 748)]
noncomputable def o175 : Obj := tu [(.int 0 751), (.int 0 752), (s "" 753)]
noncomputable def o176 : Obj := tu [(.int 0 756), (.int 0 757), (s "" 758)]
noncomputable def o177 : Obj := tu [(.int 0 761), (.int 0 762), (s "-" 763)]
noncomputable def o178 : Obj := tu [(.int 0 766), (.int 0 767), (s "-" 768)]
noncomputable def o179 : Obj := tu [(.int 0 771), (.int 0 772), (s "-jjj" 773)]
noncomputable def o180 : Obj := tu [(.int 0 776), (.int 0 777), (s "" 778)]
noncomputable def o181 (P : Params) : Obj := ob (.type "dict") none (.dict (dk P [("unwind", 780, (r 182)), ("loopleave", 785, (r 183)), ("call", 790, (r 184)), ("callsame", 795, (r 185)), ("method", 800, (r 186)), ("func", 805, (r 187)), ("map", 810, (r 188)), ("grep", 815, (r 189)), ("sort", 820, (r 190)), ("sortby", 825, (r 191)), ("match", 830, (r 192)), ("subst", 835, (r 193)), ("trans", 840, (r 194)), ("split", 845, (r 195)), ("delete", 850, (r 196)), ("exists", 855, (r 197)), ("isdef", 860, (r 198))]) 17) []
noncomputable def o182 : Obj := tu [(.int 0 781), (.int 0 782), (s "---" 783)]
noncomputable def o183 : Obj := tu [(.int 0 786), (.int 0 787), (s "--" 788)]
noncomputable def o184 : Obj := tu [(.int 2 791), (.int 1 792), (s "w" 793)]
noncomputable def o185 : Obj := tu [(.int 1 796), (.int 1 797), (s "w" 798)]
noncomputable def o186 : Obj := tu [(.int 2 801), (.int 1 802), (s "-w" 803)]
noncomputable def o187 : Obj := tu [(.int 0 806), (.int 1 807), (s "-nw" 808)]
noncomputable def o188 : Obj := tu [(.int 1 811), (.int 1 812), (s "-" 813)]
noncomputable def o189 : Obj := tu [(.int 1 816), (.int 1 817), (s "-" 818)]
noncomputable def o190 : Obj := tu [(.int 1 821), (.int 1 822), (s "--" 823)]
noncomputable def o191 : Obj := tu [(.int 2 826), (.int 1 827), (s "-" 828)]
noncomputable def o192 : Obj := tu [(.int 2 831), (.int 1 832), (s "--w" 833)]
noncomputable def o193 : Obj := tu [(.int 2 836), (.int 1 837), (s "--" 838)]
noncomputable def o194 : Obj := tu [(.int 1 841), (.int 1 842), (s "---" 843)]
noncomputable def o195 : Obj := tu [(.int 3 846), (.int 1 847), (s "-w" 848)]
noncomputable def o196 : Obj := tu [(.int 2 851), (.int 1 852), (s "-" 853)]
noncomputable def o197 : Obj := tu [(.int 2 856), (.int 1 857), (s "-" 858)]
noncomputable def o198 : Obj := tu [(.int 1 861), (.int 1 862), (s "" 863)]
noncomputable def o199 (P : Params) : Obj := ob (.type "dict") none (.dict (dk P [("codethere", 865, (r 200)), ("evalblock", 869, (r 201)), ("evalstr", 873, (r 202))]) 3) []
noncomputable def o200 : Obj := tu [(.int 0 866), (.int 1 867), (s "-" 868)]
noncomputable def o201 : Obj := tu [(.int 0 870), (.int 1 871), (s "-w" 872)]
noncomputable def o202 : Obj := tu [(.int 1 874), (.int 1 875), (s "--w" 876)]
noncomputable def o203 : Obj := tu [(s "jump" 881), (s "bywant" 882), (s "return0" 883), (s "return1" 884), (s "return2" 885), (s "subreturn" 886), (s "loopleave" 887), (s "refuse" 888)]
noncomputable def o204 : Obj := tu []
noncomputable def o205 : Obj := ob .none none (.fields ⟨[]⟩) []
noncomputable def o206 : Obj := tu [(s "op" 893), (s "shape" 894)]
noncomputable def o207 : Obj := tu []
noncomputable def o208 : Obj := ob .none none (.func (fd (st 9) "shape_of" 0 .none .none .none .none none .none .none 0)) []
noncomputable def o209 : Obj := co "shape_of" "shape_of" 890 20 1 3 204 true 205 .none (r 206) (r 207) (r 208) 895
noncomputable def o210 : Obj := ob (.type "function") none (.func (fd (st 9) "shape_of" 3 .none .none .none (s "perlcore.ops" 268) none (r 209) .none 0)) []
noncomputable def o211 : Obj := tu []
noncomputable def o212 : Obj := ob .none none (.fields ⟨[]⟩) []
noncomputable def o213 : Obj := ob .none none (.func (fd (st 10) "jumps_of" 0 .none .none .none .none none .none .none 0)) []
noncomputable def o214 : Obj := co "jumps_of" "jumps_of" 898 27 1 3 211 true 212 .none .none .none (r 213) 901
noncomputable def o215 : Obj := ob (.type "function") none (.func (fd (st 10) "jumps_of" 3 .none .none .none (s "perlcore.ops" 268) none (r 214) .none 0)) []
noncomputable def o216 : Obj := tu []
noncomputable def o217 : Obj := ob .none none (.fields ⟨[]⟩) []
noncomputable def o218 : Obj := tu [(s "op" 907), (s "places" 908), (s "parts" 909), (s "made" 910), (s "used" 911), (s "at" 912)]
noncomputable def o219 : Obj := tu []
noncomputable def o220 : Obj := ob .none none (.func (fd (st 11) "with_jumps" 0 .none .none .none .none none .none .none 0)) []
noncomputable def o221 : Obj := co "with_jumps" "with_jumps" 904 30 2 3 216 true 217 .none (r 218) (r 219) (r 220) 913
noncomputable def o222 : Obj := ob (.type "function") none (.func (fd (st 11) "with_jumps" 3 .none .none .none (s "perlcore.ops" 268) none (r 221) .none 0)) []
noncomputable def o223 : Obj := tu []
noncomputable def o224 : Obj := ob .none none (.fields ⟨[]⟩) []
noncomputable def o225 : Obj := tu [(s "op" 919)]
noncomputable def o226 : Obj := tu []
noncomputable def o227 : Obj := ob .none none (.func (fd (st 12) "goes_on" 0 .none .none .none .none none .none .none 0)) []
noncomputable def o228 : Obj := co "goes_on" "goes_on" 916 41 1 3 223 true 224 .none (r 225) (r 226) (r 227) 920
noncomputable def o229 : Obj := ob (.type "function") none (.func (fd (st 12) "goes_on" 3 .none .none .none (s "perlcore.ops" 268) none (r 228) .none 0)) []
noncomputable def o230 : Obj := tu [(s "const" 925), (s "empty" 926), (s "dup" 927), (s "wanted" 928)]
noncomputable def o231 : Obj := tu [(s "swap" 930), (s "swap" 931)]
noncomputable def o232 : Obj := tu [(s "begin" 932), (s "settle" 933)]
noncomputable def o233 : Obj := tu [(s "enter" 934), (s "leave" 935)]
noncomputable def o234 : Obj := tu [(r 231), (r 232), (r 233)]
noncomputable def o235 : Obj := tu [(s "iffalse" 937), (s "iftrue" 938), (s "ifdef" 939), (s "orjump" 940), (s "andjump" 941), (s "dorjump" 942)]
noncomputable def o236 : Obj := tu []
noncomputable def o237 : Obj := ob .none none (.fields ⟨[]⟩) []
noncomputable def o238 : Obj := tu [(s "rows" 947), (s "marks" 948), (s "op" 949), (s "place" 950)]
noncomputable def o239 : Obj := tu []
noncomputable def o240 : Obj := ob .none none (.func (fd (st 17) "goal_marks" 0 .none .none .none .none none .none .none 0)) []
noncomputable def o241 : Obj := co "goal_marks" "goal_marks" 944 47 1 3 236 true 237 .none (r 238) (r 239) (r 240) 951
noncomputable def o242 : Obj := ob (.type "function") none (.func (fd (st 17) "goal_marks" 3 .none .none .none (s "perlcore.peep" 923) none (r 241) .none 0)) []
noncomputable def o243 : Obj := tu []
noncomputable def o244 : Obj := ob .none none (.fields ⟨[]⟩) []
noncomputable def o245 : Obj := ob .none none (.func (fd (st 18) "squeezed_rows" 0 .none .none .none .none none .none .none 0)) []
noncomputable def o246 : Obj := co "squeezed_rows" "squeezed_rows" 954 53 1 3 243 true 244 .none .none .none (r 245) 957
noncomputable def o247 : Obj := ob (.type "function") none (.func (fd (st 18) "squeezed_rows" 3 .none .none .none (s "perlcore.peep" 923) none (r 246) .none 0)) []
noncomputable def o248 : Obj := tu []
noncomputable def o249 : Obj := ob .none none (.fields ⟨[]⟩) []
noncomputable def o250 : Obj := tu [(s "op" 963)]
noncomputable def o251 : Obj := tu []
noncomputable def o252 : Obj := ob .none none (.func (fd (st 19) "taken_consts" 0 .none .none .none .none none .none .none 0)) []
noncomputable def o253 : Obj := co "taken_consts" "taken_consts" 960 61 1 3 248 true 249 .none (r 250) (r 251) (r 252) 964
noncomputable def o254 : Obj := ob (.type "function") none (.func (fd (st 19) "taken_consts" 3 .none .none .none (s "perlcore.peep" 923) none (r 253) .none 0)) []
noncomputable def o255 : Obj := tu []
noncomputable def o256 : Obj := ob .none none (.fields ⟨[]⟩) []
noncomputable def o257 : Obj := tu [(s "op" 970), (s "values" 971), (s "compute" 972)]
noncomputable def o258 : Obj := tu []
noncomputable def o259 : Obj := ob .none none (.func (fd (st 20) "folded_value" 0 .none .none .none .none none .none .none 0)) []
noncomputable def o260 : Obj := co "folded_value" "folded_value" 967 65 3 3 255 true 256 .none (r 257) (r 258) (r 259) 973
noncomputable def o261 : Obj := ob (.type "function") none (.func (fd (st 20) "folded_value" 3 .none .none .none (s "perlcore.peep" 923) none (r 260) .none 0)) []
noncomputable def o262 : Obj := tu []
noncomputable def o263 : Obj := ob .none none (.fields ⟨[]⟩) []
noncomputable def o264 : Obj := ob .none none (.func (fd (st 21) "fold_rows" 0 .none .none .none .none none .none .none 0)) []
noncomputable def o265 : Obj := co "fold_rows" "fold_rows" 976 70 2 3 262 true 263 .none .none .none (r 264) 979
noncomputable def o266 : Obj := ob (.type "function") none (.func (fd (st 21) "fold_rows" 3 .none .none .none (s "perlcore.peep" 923) none (r 265) .none 0)) []
noncomputable def o267 : Obj := tu []
noncomputable def o268 : Obj := ob .none none (.fields ⟨[]⟩) []
noncomputable def o269 : Obj := tu [(s "word" 985), (s "value" 986)]
noncomputable def o270 : Obj := tu []
noncomputable def o271 : Obj := ob .none none (.func (fd (st 22) "is_taken" 0 .none .none .none .none none .none .none 0)) []
noncomputable def o272 : Obj := co "is_taken" "is_taken" 982 93 2 3 267 true 268 .none (r 269) (r 270) (r 271) 987
noncomputable def o273 : Obj := ob (.type "function") none (.func (fd (st 22) "is_taken" 3 .none .none .none (s "perlcore.peep" 923) none (r 272) .none 0)) []
noncomputable def o274 : Obj := tu []
noncomputable def o275 : Obj := ob .none none (.fields ⟨[]⟩) []
noncomputable def o276 : Obj := tu [(s "rows" 993), (s "marks" 994), (s "out" 995), (s "at" 996), (s "op" 997), (s "is_jump" 998)]
noncomputable def o277 : Obj := tu []
noncomputable def o278 : Obj := ob .none none (.func (fd (st 23) "branch_rows" 0 .none .none .none .none none .none .none 0)) []
noncomputable def o279 : Obj := co "branch_rows" "branch_rows" 990 97 1 3 274 true 275 .none (r 276) (r 277) (r 278) 999
noncomputable def o280 : Obj := ob (.type "function") none (.func (fd (st 23) "branch_rows" 3 .none .none .none (s "perlcore.peep" 923) none (r 279) .none 0)) []
noncomputable def o281 : Obj := tu []
noncomputable def o282 : Obj := ob .none none (.fields ⟨[]⟩) []
noncomputable def o283 : Obj := tu [(s "first" 1005), (s "second" 1006)]
noncomputable def o284 : Obj := tu []
noncomputable def o285 : Obj := ob .none none (.func (fd (st 24) "is_idle" 0 .none .none .none .none none .none .none 0)) []
noncomputable def o286 : Obj := co "is_idle" "is_idle" 1002 109 2 3 281 true 282 .none (r 283) (r 284) (r 285) 1007
noncomputable def o287 : Obj := ob (.type "function") none (.func (fd (st 24) "is_idle" 3 .none .none .none (s "perlcore.peep" 923) none (r 286) .none 0)) []
noncomputable def o288 : Obj := tu []
noncomputable def o289 : Obj := ob .none none (.fields ⟨[]⟩) []
noncomputable def o290 : Obj := tu [(s "rows" 1013), (s "marks" 1014), (s "out" 1015), (s "at" 1016)]
noncomputable def o291 : Obj := tu []
noncomputable def o292 : Obj := ob .none none (.func (fd (st 25) "pair_rows" 0 .none .none .none .none none .none .none 0)) []
noncomputable def o293 : Obj := co "pair_rows" "pair_rows" 1010 113 1 3 288 true 289 .none (r 290) (r 291) (r 292) 1017
noncomputable def o294 : Obj := ob (.type "function") none (.func (fd (st 25) "pair_rows" 3 .none .none .none (s "perlcore.peep" 923) none (r 293) .none 0)) []
noncomputable def o295 : Obj := tu []
noncomputable def o296 : Obj := ob .none none (.fields ⟨[]⟩) []
noncomputable def o297 : Obj := tu [(s "rows" 1023), (s "at" 1024), (s "here" 1025), (s "turn" 1026)]
noncomputable def o298 : Obj := tu []
noncomputable def o299 : Obj := ob .none none (.func (fd (st 26) "landing_row" 0 .none .none .none .none none .none .none 0)) []
noncomputable def o300 : Obj := co "landing_row" "landing_row" 1020 126 2 3 295 true 296 .none (r 297) (r 298) (r 299) 1027
noncomputable def o301 : Obj := ob (.type "function") none (.func (fd (st 26) "landing_row" 3 .none .none .none (s "perlcore.peep" 923) none (r 300) .none 0)) []
noncomputable def o302 : Obj := tu []
noncomputable def o303 : Obj := ob .none none (.fields ⟨[]⟩) []
noncomputable def o304 : Obj := tu [(s "op" 1033), (s "rows" 1034), (s "goal" 1035), (s "word" 1036), (s "there" 1037), (s "keeps" 1038), (s "leaves" 1039), (s "passes" 1040)]
noncomputable def o305 : Obj := tu []
noncomputable def o306 : Obj := ob .none none (.func (fd (st 27) "chained" 0 .none .none .none .none none .none .none 0)) []
noncomputable def o307 : Obj := co "chained" "chained" 1030 133 2 3 302 true 303 .none (r 304) (r 305) (r 306) 1041
noncomputable def o308 : Obj := ob (.type "function") none (.func (fd (st 27) "chained" 3 .none .none .none (s "perlcore.peep" 923) none (r 307) .none 0)) []
noncomputable def o309 : Obj := tu []
noncomputable def o310 : Obj := ob .none none (.fields ⟨[]⟩) []
noncomputable def o311 : Obj := ob .none none (.func (fd (st 28) "thread_rows" 0 .none .none .none .none none .none .none 0)) []
noncomputable def o312 : Obj := co "thread_rows" "thread_rows" 1044 151 1 3 309 true 310 .none .none .none (r 311) 1047
noncomputable def o313 : Obj := ob (.type "function") none (.func (fd (st 28) "thread_rows" 3 .none .none .none (s "perlcore.peep" 923) none (r 312) .none 0)) []
noncomputable def o314 : Obj := tu []
noncomputable def o315 : Obj := ob .none none (.fields ⟨[]⟩) []
noncomputable def o316 : Obj := tu [(s "rows" 1053), (s "marks" 1054), (s "line" 1055), (s "at" 1056)]
noncomputable def o317 : Obj := tu []
noncomputable def o318 : Obj := ob .none none (.func (fd (st 29) "reached_rows" 0 .none .none .none .none none .none .none 0)) []
noncomputable def o319 : Obj := co "reached_rows" "reached_rows" 1050 163 1 3 314 true 315 .none (r 316) (r 317) (r 318) 1057
noncomputable def o320 : Obj := ob (.type "function") none (.func (fd (st 29) "reached_rows" 3 .none .none .none (s "perlcore.peep" 923) none (r 319) .none 0)) []
noncomputable def o321 : Obj := tu []
noncomputable def o322 : Obj := ob .none none (.fields ⟨[]⟩) []
noncomputable def o323 : Obj := ob .none none (.func (fd (st 30) "live_rows" 0 .none .none .none .none none .none .none 0)) []
noncomputable def o324 : Obj := co "live_rows" "live_rows" 1060 175 1 3 321 true 322 .none .none .none (r 323) 1063
noncomputable def o325 : Obj := ob (.type "function") none (.func (fd (st 30) "live_rows" 3 .none .none .none (s "perlcore.peep" 923) none (r 324) .none 0)) []
noncomputable def o326 : Obj := tu []
noncomputable def o327 : Obj := ob .none none (.fields ⟨[]⟩) []
noncomputable def o328 : Obj := tu [(s "rows" 1069), (s "compute" 1070), (s "rounds" 1071), (s "turn" 1072), (s "later" 1073)]
noncomputable def o329 : Obj := tu []
noncomputable def o330 : Obj := ob .none none (.func (fd (st 31) "improved_rows" 0 .none .none .none .none none .none .none 0)) []
noncomputable def o331 : Obj := co "improved_rows" "improved_rows" 1066 178 3 3 326 true 327 .none (r 328) (r 329) (r 330) 1074
noncomputable def o332 : Obj := ob (.type "function") none (.func (fd (st 31) "improved_rows" 3 .none .none .none (s "perlcore.peep" 923) none (r 331) .none 0)) []
noncomputable def o333 : Obj := tu []
noncomputable def o334 : Obj := ob .none none (.fields ⟨[]⟩) []
noncomputable def o335 : Obj := tu [(s "pen" 1082), (s "many" 1083), (s "k" 1084)]
noncomputable def o336 : Obj := tu []
noncomputable def o337 : Obj := ob .none none (.func (fd (st 33) "_law_draw" 0 .none .none .none .none none .none .none 0)) []
noncomputable def o338 : Obj := co "_law_draw" "_law_draw" 1079 187 2 3 333 true 334 .none (r 335) (r 336) (r 337) 1085
noncomputable def o339 : Obj := ob (.type "function") none (.func (fd (st 33) "_law_draw" 3 .none .none .none (s "law_rg0230_01" 1077) none (r 338) .none 0)) []
noncomputable def o340 : Obj := tu []
noncomputable def o341 : Obj := ob .none none (.fields ⟨[]⟩) []
noncomputable def o342 : Obj := tu [(s "value" 1091)]
noncomputable def o343 : Obj := tu []
noncomputable def o344 : Obj := ob .none none (.func (fd (st 34) "_law_number" 0 .none .none .none .none none .none .none 0)) []
noncomputable def o345 : Obj := co "_law_number" "_law_number" 1088 193 1 3 340 true 341 .none (r 342) (r 343) (r 344) 1092
noncomputable def o346 : Obj := ob (.type "function") none (.func (fd (st 34) "_law_number" 3 .none .none .none (s "law_rg0230_01" 1077) none (r 345) .none 0)) []
noncomputable def o347 : Obj := tu []
noncomputable def o348 : Obj := ob .none none (.fields ⟨[]⟩) []
noncomputable def o349 : Obj := tu [(s "value" 1098)]
noncomputable def o350 : Obj := tu []
noncomputable def o351 : Obj := ob .none none (.func (fd (st 35) "_law_text" 0 .none .none .none .none none .none .none 0)) []
noncomputable def o352 : Obj := co "_law_text" "_law_text" 1095 197 1 3 347 true 348 .none (r 349) (r 350) (r 351) 1099
noncomputable def o353 : Obj := ob (.type "function") none (.func (fd (st 35) "_law_text" 3 .none .none .none (s "law_rg0230_01" 1077) none (r 352) .none 0)) []
noncomputable def o354 : Obj := tu []
noncomputable def o355 : Obj := ob .none none (.fields ⟨[]⟩) []
noncomputable def o356 : Obj := tu [(s "op" 1105), (s "values" 1106), (s "is_true" 1107), (s "x" 1108), (s "y" 1109)]
noncomputable def o357 : Obj := tu []
noncomputable def o358 : Obj := ob .none none (.func (fd (st 36) "_law_compute" 0 .none .none .none .none none .none .none 0)) []
noncomputable def o359 : Obj := co "_law_compute" "_law_compute" 1102 199 2 3 354 true 355 .none (r 356) (r 357) (r 358) 1110
noncomputable def o360 : Obj := ob (.type "function") none (.func (fd (st 36) "_law_compute" 3 .none .none .none (s "law_rg0230_01" 1077) none (r 359) .none 0)) []
noncomputable def o361 : Obj := tu []
noncomputable def o362 : Obj := ob .none none (.fields ⟨[]⟩) []
noncomputable def o363 : Obj := tu [(s "op" 1116), (s "stack" 1117), (s "value" 1118), (s "is_so" 1119)]
noncomputable def o364 : Obj := tu []
noncomputable def o365 : Obj := ob .none none (.func (fd (st 37) "_law_jump" 0 .none .none .none .none none .none .none 0)) []
noncomputable def o366 : Obj := co "_law_jump" "_law_jump" 1113 213 2 3 361 true 362 .none (r 363) (r 364) (r 365) 1120
noncomputable def o367 : Obj := ob (.type "function") none (.func (fd (st 37) "_law_jump" 3 .none .none .none (s "law_rg0230_01" 1077) none (r 366) .none 0)) []
noncomputable def o368 : Obj := tu []
noncomputable def o369 : Obj := ob .none none (.fields ⟨[]⟩) []
noncomputable def o370 : Obj := tu [(s "rows" 1126), (s "fuel" 1127), (s "stack" 1128), (s "told" 1129), (s "at" 1130), (s "line" 1131), (s "scopes" 1132), (s "begun" 1133), (s "turn" 1134), (s "op" 1135), (s "count" 1136), (s "values" 1137), (s "value" 1138), (s "goal" 1139)]
noncomputable def o371 : Obj := tu []
noncomputable def o372 : Obj := ob .none none (.func (fd (st 38) "_law_run" 0 .none .none .none .none none .none .none 0)) []
noncomputable def o373 : Obj := co "_law_run" "_law_run" 1123 223 2 3 368 true 369 .none (r 370) (r 371) (r 372) 1140
noncomputable def o374 : Obj := ob (.type "function") none (.func (fd (st 38) "_law_run" 3 .none .none .none (s "law_rg0230_01" 1077) none (r 373) .none 0)) []
noncomputable def o375 : Obj := tu []
noncomputable def o376 : Obj := ob .none none (.fields ⟨[]⟩) []
noncomputable def o377 : Obj := tu [(s "pen" 1146), (s "rows" 1147), (s "deep" 1148), (s "way" 1149), (s "at" 1150), (s "middle" 1151)]
noncomputable def o378 : Obj := tu []
noncomputable def o379 : Obj := ob .none none (.func (fd (st 39) "_law_expr" 0 .none .none .none .none none .none .none 0)) []
noncomputable def o380 : Obj := co "_law_expr" "_law_expr" 1143 260 3 3 375 true 376 .none (r 377) (r 378) (r 379) 1152
noncomputable def o381 : Obj := ob (.type "function") none (.func (fd (st 39) "_law_expr" 3 .none .none .none (s "law_rg0230_01" 1077) none (r 380) .none 0)) []
noncomputable def o382 : Obj := tu []
noncomputable def o383 : Obj := ob .none none (.fields ⟨[]⟩) []
noncomputable def o384 : Obj := tu [(s "pen" 1158), (s "rows" 1159), (s "many" 1160), (s "way" 1161)]
noncomputable def o385 : Obj := tu []
noncomputable def o386 : Obj := ob .none none (.func (fd (st 40) "_law_statement" 0 .none .none .none .none none .none .none 0)) []
noncomputable def o387 : Obj := co "_law_statement" "_law_statement" 1155 297 3 3 382 true 383 .none (r 384) (r 385) (r 386) 1162
noncomputable def o388 : Obj := ob (.type "function") none (.func (fd (st 40) "_law_statement" 3 .none .none .none (s "law_rg0230_01" 1077) none (r 387) .none 0)) []
noncomputable def o389 : Obj := tu []
noncomputable def o390 : Obj := ob .none none (.fields ⟨[]⟩) []
noncomputable def o391 : Obj := tu [(s "pen" 1168), (s "many" 1169), (s "rows" 1170), (s "starts" 1171), (s "turn" 1172), (s "out" 1173), (s "op" 1174)]
noncomputable def o392 : Obj := tu []
noncomputable def o393 : Obj := ob .none none (.func (fd (st 41) "_law_rows" 0 .none .none .none .none none .none .none 0)) []
noncomputable def o394 : Obj := co "_law_rows" "_law_rows" 1165 314 2 3 389 true 390 .none (r 391) (r 392) (r 393) 1175
noncomputable def o395 : Obj := ob (.type "function") none (.func (fd (st 41) "_law_rows" 3 .none .none .none (s "law_rg0230_01" 1077) none (r 394) .none 0)) []
noncomputable def o396 : Obj := tu []
noncomputable def o397 : Obj := ob .none none (.fields ⟨[]⟩) []
noncomputable def o398 : Obj := tu [(s "rows" 1181), (s "way" 1182)]
noncomputable def o399 : Obj := tu []
noncomputable def o400 : Obj := ob .none none (.func (fd (st 42) "_law_passed" 0 .none .none .none .none none .none .none 0)) []
noncomputable def o401 : Obj := co "_law_passed" "_law_passed" 1178 328 2 3 396 true 397 .none (r 398) (r 399) (r 400) 1183
noncomputable def o402 : Obj := ob (.type "function") none (.func (fd (st 42) "_law_passed" 3 .none .none .none (s "law_rg0230_01" 1077) none (r 401) .none 0)) []
noncomputable def o403 : Obj := tu []
noncomputable def o404 : Obj := ob .none none (.fields ⟨[]⟩) []
noncomputable def o405 : Obj := tu [(s "script" 1189), (s "pen" 1190), (s "way" 1191), (s "rows" 1192), (s "before" 1193), (s "told" 1194), (s "end" 1195), (s "later" 1196), (s "told_later" 1197), (s "end_later" 1198)]
noncomputable def o406 : Obj := tu []
noncomputable def o407 : Obj := ob .none none (.func (fd (st 43) "law" 0 .none .none .none .none none .none .none 0)) []
noncomputable def o408 : Obj := co "law" "law" 1186 338 1 3 403 true 404 .none (r 405) (r 406) (r 407) 1199
noncomputable def o409 : Obj := ob (.type "function") none (.func (fd (st 43) "law" 3 .none .none .none (s "law_rg0230_01" 1077) none (r 408) .none 0)) []
noncomputable def o12_1 : Obj := ob .none none (.fields ⟨[]⟩) []
noncomputable def o3_1 (P : Params) : Obj := ob (.type "dict") none (.dict (dk P [("__name__", 165, (s "perlcore.ops" 268)), ("__doc__", 166, .none), ("__package__", 167, .none), ("__loader__", 168, (.builtin "__main__.__loader__#opaque")), ("__spec__", 169, .none), ("__annotations__", 170, (r 6)), ("__builtins__", 171, (r 4)), ("__file__", 173, (s "/claim/cut.py" 172)), ("__cached__", 174, .none), ("truth", 195, (r 21)), ("PerlError", 226, (r 38)), ("Die", 251, (r 58)), ("BadOps", 267, (r 70))]) 13) []
noncomputable def o12_2 : Obj := ob .none none (.fields ⟨[(.int 2 0), (.int 0 0), (r 20), (.int 5 0), (.int 0 0), (r 27), (.int 10 0), (.int 0 0), (r 47), (.int 15 0), (.int 0 0), (r 66)]⟩) []
noncomputable def o73_1 (P : Params) : Obj := ob (.type "dict") none (.dict (dk P [("const", 270, (r 74)), ("empty", 275, (r 75)), ("drop", 280, (r 76)), ("dup", 285, (r 77)), ("swap", 290, (r 78)), ("wrap", 295, (r 79)), ("append", 300, (r 80)), ("copy", 305, (r 81)), ("count", 310, (r 82)), ("final", 315, (r 83)), ("keep", 320, (r 84)), ("refcode", 325, (r 85)), ("codetold", 330, (r 86)), ("refuse", 335, (r 87)), ("pad", 340, (r 88)), ("my", 345, (r 89)), ("glob", 350, (r 90))]) 17) []
noncomputable def o73_2 (P : Params) : Obj := ob (.type "dict") none (.dict (dk P [("const", 270, (r 74)), ("empty", 275, (r 75)), ("drop", 280, (r 76)), ("dup", 285, (r 77)), ("swap", 290, (r 78)), ("wrap", 295, (r 79)), ("append", 300, (r 80)), ("copy", 305, (r 81)), ("count", 310, (r 82)), ("final", 315, (r 83)), ("keep", 320, (r 84)), ("refcode", 325, (r 85)), ("codetold", 330, (r 86)), ("refuse", 335, (r 87)), ("pad", 340, (r 88)), ("my", 345, (r 89)), ("glob", 350, (r 90)), ("matchvar", 355, (r 92)), ("fetch", 360, (r 93)), ("ascalar", 365, (r 94)), ("newscalar", 370, (r 95)), ("vivify", 375, (r 96)), ("deref", 380, (r 97)), ("items", 385, (r 98)), ("size", 390, (r 99)), ("pairs", 395, (r 100)), ("keycount", 400, (r 101)), ("lastidx", 405, (r 102)), ("elem", 410, (r 103)), ("helem", 415, (r 104)), ("elemat", 420, (r 105)), ("helemat", 425, (r 106)), ("elemlv", 430, (r 107)), ("helemlv", 435, (r 108))]) 34) []
noncomputable def o73_3 (P : Params) : Obj := ob (.type "dict") none (.dict (dk P [("const", 270, (r 74)), ("empty", 275, (r 75)), ("drop", 280, (r 76)), ("dup", 285, (r 77)), ("swap", 290, (r 78)), ("wrap", 295, (r 79)), ("append", 300, (r 80)), ("copy", 305, (r 81)), ("count", 310, (r 82)), ("final", 315, (r 83)), ("keep", 320, (r 84)), ("refcode", 325, (r 85)), ("codetold", 330, (r 86)), ("refuse", 335, (r 87)), ("pad", 340, (r 88)), ("my", 345, (r 89)), ("glob", 350, (r 90)), ("matchvar", 355, (r 92)), ("fetch", 360, (r 93)), ("ascalar", 365, (r 94)), ("newscalar", 370, (r 95)), ("vivify", 375, (r 96)), ("deref", 380, (r 97)), ("items", 385, (r 98)), ("size", 390, (r 99)), ("pairs", 395, (r 100)), ("keycount", 400, (r 101)), ("lastidx", 405, (r 102)), ("elem", 410, (r 103)), ("helem", 415, (r 104)), ("elemat", 420, (r 105)), ("helemat", 425, (r 106)), ("elemlv", 430, (r 107)), ("helemlv", 435, (r 108)), ("aslice", 440, (r 110)), 
  ("hslice", 445, (r 111)), ("aslicelv", 450, (r 112)), ("hslicelv", 455, (r 113)), ("lslice", 460, (r 114)), ("substrlv", 465, (r 115)), ("veclv", 470, (r 116)), ("poslv", 475, (r 117)), ("lastlv", 480, (r 118)), ("ref", 485, (r 119)), ("refvalue", 490, (r 120)), ("elemrefs", 495, (r 121)), ("refeach", 500, (r 122)), ("anona", 505, (r 123)), ("anonh", 510, (r 124)), ("closure", 515, (r 125)), ("definesub", 520, (r 126))]) 51) []
noncomputable def o73_4 (P : Params) : Obj := ob (.type "dict") none (.dict (dk P [("const", 270, (r 74)), ("empty", 275, (r 75)), ("drop", 280, (r 76)), ("dup", 285, (r 77)), ("swap", 290, (r 78)), ("wrap", 295, (r 79)), ("append", 300, (r 80)), ("copy", 305, (r 81)), ("count", 310, (r 82)), ("final", 315, (r 83)), ("keep", 320, (r 84)), ("refcode", 325, (r 85)), ("codetold", 330, (r 86)), ("refuse", 335, (r 87)), ("pad", 340, (r 88)), ("my", 345, (r 89)), ("glob", 350, (r 90)), ("matchvar", 355, (r 92)), ("fetch", 360, (r 93)), ("ascalar", 365, (r 94)), ("newscalar", 370, (r 95)), ("vivify", 375, (r 96)), ("deref", 380, (r 97)), ("items", 385, (r 98)), ("size", 390, (r 99)), ("pairs", 395, (r 100)), ("keycount", 400, (r 101)), ("lastidx", 405, (r 102)), ("elem", 410, (r 103)), ("helem", 415, (r 104)), ("elemat", 420, (r 105)), ("helemat", 425, (r 106)), ("elemlv", 430, (r 107)), ("helemlv", 435, (r 108)), ("aslice", 440, (r 110)), 
  ("hslice", 445, (r 111)), ("aslicelv", 450, (r 112)), ("hslicelv", 455, (r 113)), ("lslice", 460, (r 114)), ("substrlv", 465, (r 115)), ("veclv", 470, (r 116)), ("poslv", 475, (r 117)), ("lastlv", 480, (r 118)), ("ref", 485, (r 119)), ("refvalue", 490, (r 120)), ("elemrefs", 495, (r 121)), ("refeach", 500, (r 122)), ("anona", 505, (r 123)), ("anonh", 510, (r 124)), ("closure", 515, (r 125)), ("definesub", 520, (r 126)), ("code", 525, (r 128)), ("codefor", 530, (r 129)), ("assign", 535, (r 130)), ("opassign", 540, (r 131)), ("aassign", 545, (r 132)), ("members", 550, (r 133)), ("lasttarget", 555, (r 134)), ("preinc", 560, (r 135)), ("predec", 565, (r 136)), ("postinc", 570, (r 137)), ("postdec", 575, (r 138)), ("localglob", 580, (r 139)), ("localelem", 585, (r 140)), ("localhelem", 590, (r 141)), ("localaslice", 595, (r 142)), ("localhslice", 600, (r 143)), ("bin", 605, (r 144))]) 68) []
noncomputable def o73_5 (P : Params) : Obj := ob (.type "dict") none (.dict (dk P [("const", 270, (r 74)), ("empty", 275, (r 75)), ("drop", 280, (r 76)), ("dup", 285, (r 77)), ("swap", 290, (r 78)), ("wrap", 295, (r 79)), ("append", 300, (r 80)), ("copy", 305, (r 81)), ("count", 310, (r 82)), ("final", 315, (r 83)), ("keep", 320, (r 84)), ("refcode", 325, (r 85)), ("codetold", 330, (r 86)), ("refuse", 335, (r 87)), ("pad", 340, (r 88)), ("my", 345, (r 89)), ("glob", 350, (r 90)), ("matchvar", 355, (r 92)), ("fetch", 360, (r 93)), ("ascalar", 365, (r 94)), ("newscalar", 370, (r 95)), ("vivify", 375, (r 96)), ("deref", 380, (r 97)), ("items", 385, (r 98)), ("size", 390, (r 99)), ("pairs", 395, (r 100)), ("keycount", 400, (r 101)), ("lastidx", 405, (r 102)), ("elem", 410, (r 103)), ("helem", 415, (r 104)), ("elemat", 420, (r 105)), ("helemat", 425, (r 106)), ("elemlv", 430, (r 107)), ("helemlv", 435, (r 108)), ("aslice", 440, (r 110)), 
  ("hslice", 445, (r 111)), ("aslicelv", 450, (r 112)), ("hslicelv", 455, (r 113)), ("lslice", 460, (r 114)), ("substrlv", 465, (r 115)), ("veclv", 470, (r 116)), ("poslv", 475, (r 117)), ("lastlv", 480, (r 118)), ("ref", 485, (r 119)), ("refvalue", 490, (r 120)), ("elemrefs", 495, (r 121)), ("refeach", 500, (r 122)), ("anona", 505, (r 123)), ("anonh", 510, (r 124)), ("closure", 515, (r 125)), ("definesub", 520, (r 126)), ("code", 525, (r 128)), ("codefor", 530, (r 129)), ("assign", 535, (r 130)), ("opassign", 540, (r 131)), ("aassign", 545, (r 132)), ("members", 550, (r 133)), ("lasttarget", 555, (r 134)), ("preinc", 560, (r 135)), ("predec", 565, (r 136)), ("postinc", 570, (r 137)), ("postdec", 575, (r 138)), ("localglob", 580, (r 139)), ("localelem", 585, (r 140)), ("localhelem", 590, (r 141)), ("localaslice", 595, (r 142)), ("localhslice", 600, (r 143)), ("bin", 605, (r 144)), ("xor", 610, 
  (r 146)), ("un", 615, (r 147)), ("joinlist", 620, (r 148)), ("text", 625, (r 149)), ("wanted", 630, (r 150)), ("repeat", 635, (r 151)), ("range", 640, (r 152)), ("jump", 645, (r 153)), ("iffalse", 650, (r 154)), ("iftrue", 655, (r 155)), ("ifdef", 660, (r 156)), ("orjump", 665, (r 157)), ("andjump", 670, (r 158)), ("dorjump", 675, (r 159)), ("bywant", 680, (r 160)), ("iter", 685, (r 161)), ("next", 690, (r 162))]) 85) []
noncomputable def o73_6 (P : Params) : Obj := ob (.type "dict") none (.dict (dk P [("const", 270, (r 74)), ("empty", 275, (r 75)), ("drop", 280, (r 76)), ("dup", 285, (r 77)), ("swap", 290, (r 78)), ("wrap", 295, (r 79)), ("append", 300, (r 80)), ("copy", 305, (r 81)), ("count", 310, (r 82)), ("final", 315, (r 83)), ("keep", 320, (r 84)), ("refcode", 325, (r 85)), ("codetold", 330, (r 86)), ("refuse", 335, (r 87)), ("pad", 340, (r 88)), ("my", 345, (r 89)), ("glob", 350, (r 90)), ("matchvar", 355, (r 92)), ("fetch", 360, (r 93)), ("ascalar", 365, (r 94)), ("newscalar", 370, (r 95)), ("vivify", 375, (r 96)), ("deref", 380, (r 97)), ("items", 385, (r 98)), ("size", 390, (r 99)), ("pairs", 395, (r 100)), ("keycount", 400, (r 101)), ("lastidx", 405, (r 102)), ("elem", 410, (r 103)), ("helem", 415, (r 104)), ("elemat", 420, (r 105)), ("helemat", 425, (r 106)), ("elemlv", 430, (r 107)), ("helemlv", 435, (r 108)), ("aslice", 440, (r 110)), 
  ("hslice", 445, (r 111)), ("aslicelv", 450, (r 112)), ("hslicelv", 455, (r 113)), ("lslice", 460, (r 114)), ("substrlv", 465, (r 115)), ("veclv", 470, (r 116)), ("poslv", 475, (r 117)), ("lastlv", 480, (r 118)), ("ref", 485, (r 119)), ("refvalue", 490, (r 120)), ("elemrefs", 495, (r 121)), ("refeach", 500, (r 122)), ("anona", 505, (r 123)), ("anonh", 510, (r 124)), ("closure", 515, (r 125)), ("definesub", 520, (r 126)), ("code", 525, (r 128)), ("codefor", 530, (r 129)), ("assign", 535, (r 130)), ("opassign", 540, (r 131)), ("aassign", 545, (r 132)), ("members", 550, (r 133)), ("lasttarget", 555, (r 134)), ("preinc", 560, (r 135)), ("predec", 565, (r 136)), ("postinc", 570, (r 137)), ("postdec", 575, (r 138)), ("localglob", 580, (r 139)), ("localelem", 585, (r 140)), ("localhelem", 590, (r 141)), ("localaslice", 595, (r 142)), ("localhslice", 600, (r 143)), ("bin", 605, (r 144)), ("xor", 610, 
  (r 146)), ("un", 615, (r 147)), ("joinlist", 620, (r 148)), ("text", 625, (r 149)), ("wanted", 630, (r 150)), ("repeat", 635, (r 151)), ("range", 640, (r 152)), ("jump", 645, (r 153)), ("iffalse", 650, (r 154)), ("iftrue", 655, (r 155)), ("ifdef", 660, (r 156)), ("orjump", 665, (r 157)), ("andjump", 670, (r 158)), ("dorjump", 675, (r 159)), ("bywant", 680, (r 160)), ("iter", 685, (r 161)), ("next", 690, (r 162)), ("bindpad", 695, (r 164)), ("bindglob", 700, (r 165)), ("return0", 705, (r 166)), ("return1", 710, (r 167)), ("return2", 715, (r 168)), ("subreturn", 720, (r 169)), ("enter", 725, (r 170)), ("leave", 730, (r 171)), ("leavetest", 735, (r 172)), ("begin", 740, (r 173)), ("settle", 745, (r 174)), ("resettle", 750, (r 175)), ("forget", 755, (r 176)), ("line", 760, (r 177)), ("package", 765, (r 178)), ("loop", 770, (r 179)), ("endloop", 775, (r 180))]) 102) []
noncomputable def o73_7 (P : Params) : Obj := ob (.type "dict") none (.dict (dk P [("const", 270, (r 74)), ("empty", 275, (r 75)), ("drop", 280, (r 76)), ("dup", 285, (r 77)), ("swap", 290, (r 78)), ("wrap", 295, (r 79)), ("append", 300, (r 80)), ("copy", 305, (r 81)), ("count", 310, (r 82)), ("final", 315, (r 83)), ("keep", 320, (r 84)), ("refcode", 325, (r 85)), ("codetold", 330, (r 86)), ("refuse", 335, (r 87)), ("pad", 340, (r 88)), ("my", 345, (r 89)), ("glob", 350, (r 90)), ("matchvar", 355, (r 92)), ("fetch", 360, (r 93)), ("ascalar", 365, (r 94)), ("newscalar", 370, (r 95)), ("vivify", 375, (r 96)), ("deref", 380, (r 97)), ("items", 385, (r 98)), ("size", 390, (r 99)), ("pairs", 395, (r 100)), ("keycount", 400, (r 101)), ("lastidx", 405, (r 102)), ("elem", 410, (r 103)), ("helem", 415, (r 104)), ("elemat", 420, (r 105)), ("helemat", 425, (r 106)), ("elemlv", 430, (r 107)), ("helemlv", 435, (r 108)), ("aslice", 440, (r 110)), 
  ("hslice", 445, (r 111)), ("aslicelv", 450, (r 112)), ("hslicelv", 455, (r 113)), ("lslice", 460, (r 114)), ("substrlv", 465, (r 115)), ("veclv", 470, (r 116)), ("poslv", 475, (r 117)), ("lastlv", 480, (r 118)), ("ref", 485, (r 119)), ("refvalue", 490, (r 120)), ("elemrefs", 495, (r 121)), ("refeach", 500, (r 122)), ("anona", 505, (r 123)), ("anonh", 510, (r 124)), ("closure", 515, (r 125)), ("definesub", 520, (r 126)), ("code", 525, (r 128)), ("codefor", 530, (r 129)), ("assign", 535, (r 130)), ("opassign", 540, (r 131)), ("aassign", 545, (r 132)), ("members", 550, (r 133)), ("lasttarget", 555, (r 134)), ("preinc", 560, (r 135)), ("predec", 565, (r 136)), ("postinc", 570, (r 137)), ("postdec", 575, (r 138)), ("localglob", 580, (r 139)), ("localelem", 585, (r 140)), ("localhelem", 590, (r 141)), ("localaslice", 595, (r 142)), ("localhslice", 600, (r 143)), ("bin", 605, (r 144)), ("xor", 610, 
  (r 146)), ("un", 615, (r 147)), ("joinlist", 620, (r 148)), ("text", 625, (r 149)), ("wanted", 630, (r 150)), ("repeat", 635, (r 151)), ("range", 640, (r 152)), ("jump", 645, (r 153)), ("iffalse", 650, (r 154)), ("iftrue", 655, (r 155)), ("ifdef", 660, (r 156)), ("orjump", 665, (r 157)), ("andjump", 670, (r 158)), ("dorjump", 675, (r 159)), ("bywant", 680, (r 160)), ("iter", 685, (r 161)), ("next", 690, (r 162)), ("bindpad", 695, (r 164)), ("bindglob", 700, (r 165)), ("return0", 705, (r 166)), ("return1", 710, (r 167)), ("return2", 715, (r 168)), ("subreturn", 720, (r 169)), ("enter", 725, (r 170)), ("leave", 730, (r 171)), ("leavetest", 735, (r 172)), ("begin", 740, (r 173)), ("settle", 745, (r 174)), ("resettle", 750, (r 175)), ("forget", 755, (r 176)), ("line", 760, (r 177)), ("package", 765, (r 178)), ("loop", 770, (r 179)), ("endloop", 775, (r 180)), ("unwind", 780, (r 182)), ("loopleave", 
  785, (r 183)), ("call", 790, (r 184)), ("callsame", 795, (r 185)), ("method", 800, (r 186)), ("func", 805, (r 187)), ("map", 810, (r 188)), ("grep", 815, (r 189)), ("sort", 820, (r 190)), ("sortby", 825, (r 191)), ("match", 830, (r 192)), ("subst", 835, (r 193)), ("trans", 840, (r 194)), ("split", 845, (r 195)), ("delete", 850, (r 196)), ("exists", 855, (r 197)), ("isdef", 860, (r 198))]) 119) []
noncomputable def o3_2 (P : Params) : Obj := ob (.type "dict") none (.dict (dk P [("__name__", 165, (s "perlcore.ops" 268)), ("__doc__", 166, .none), ("__package__", 167, .none), ("__loader__", 168, (.builtin "__main__.__loader__#opaque")), ("__spec__", 169, .none), ("__annotations__", 170, (r 6)), ("__builtins__", 171, (r 4)), ("__file__", 173, (s "/claim/cut.py" 172)), ("__cached__", 174, .none), ("truth", 195, (r 21)), ("PerlError", 226, (r 38)), ("Die", 251, (r 58)), ("BadOps", 267, (r 70)), ("SHAPES", 880, (r 73))]) 14) []
noncomputable def heap_fin (P : Params) : Heap := ⟨⟨[(boot_o_0 P), (boot_o_1 P), (o2 P), (o3 P), (boot_o_4 P), (boot_o_5 P), (boot_o_6 P), (boot_o_7 P), (boot_o_8 P), (boot_o_9 P), (boot_o_10 P), o11, o12, o13, o14, o15, o16, o17, o18, o19, o20, o21, o22, o23, (o24 P), o25, o26, o27, o28, o29, o30, o31, o32, o33, o34, o35, o36, (o37 P), o38, o39, o40, o41, o42, o43, (o44 P), o45, o46, o47, o48, o49, o50, o51, o52, o53, o54, o55, o56, (o57 P), o58, o59, o60, o61, o62, (o63 P), o64, o65, o66, o67, o68, (o69 P), o70, o71, o72, (o73 P), o74, o75, o76, o77, o78, o79, o80, o81, o82, o83, o84, o85, o86, o87, o88, o89, o90, (o91 P), o92, o93, o94, o95, o96, o97, o98, o99, o100, o101, o102, o103, o104, o105, o106, o107, o108, (o109 P), o110, o111, o112, o113, o114, o115, o116, o117, o118, o119, o120, o121, o122, o123, o124, o125, o126, (o127 P), o128, o129, o130, o131, o132, o133, o134, o135, o136, o137, o138, o139, o140, o141, o142, o143, o144, (o145 
  P), o146, o147, o148, o149, o150, o151, o152, o153, o154, o155, o156, o157, o158, o159, o160, o161, o162, (o163 P), o164, o165, o166, o167, o168, o169, o170, o171, o172, o173, o174, o175, o176, o177, o178, o179, o180, (o181 P), o182, o183, o184, o185, o186, o187, o188, o189, o190, o191, o192, o193, o194, o195, o196, o197, o198, (o199 P), o200, o201, o202, o203, o204, o205, o206, o207, o208, o209, o210, o211, o212, o213, o214, o215, o216, o217, o218, o219, o220, o221, o222, o223, o224, o225, o226, o227, o228, o229, o230, o231, o232, o233, o234, o235, o236, o237, o238, o239, o240, o241, o242, o243, o244, o245, o246, o247, o248, o249, o250, o251, o252, o253, o254, o255, o256, o257, o258, o259, o260, o261, o262, o263, o264, o265, o266, o267, o268, o269, o270, o271, o272, o273, o274, o275, o276, o277, o278, o279, o280, o281, o282, o283, o284, o285, o286, o287, o288, o289, o290, o291, o292, o293, 
  o294, o295, o296, o297, o298, o299, o300, o301, o302, o303, o304, o305, o306, o307, o308, o309, o310, o311, o312, o313, o314, o315, o316, o317, o318, o319, o320, o321, o322, o323, o324, o325, o326, o327, o328, o329, o330, o331, o332, o333, o334, o335, o336, o337, o338, o339, o340, o341, o342, o343, o344, o345, o346, o347, o348, o349, o350, o351, o352, o353, o354, o355, o356, o357, o358, o359, o360, o361, o362, o363, o364, o365, o366, o367, o368, o369, o370, o371, o372, o373, o374, o375, o376, o377, o378, o379, o380, o381, o382, o383, o384, o385, o386, o387, o388, o389, o390, o391, o392, o393, o394, o395, o396, o397, o398, o399, o400, o401, o402, o403, o404, o405, o406, o407, o408, o409]⟩, life0⟩
noncomputable def heap_a (P : Params) : Heap := ⟨⟨[(boot_o_0 P), (boot_o_1 P), (boot_o_2 P), (boot_o_3 P), (boot_o_4 P), (boot_o_5 P), (boot_o_6 P), (boot_o_7 P), (boot_o_8 P), (boot_o_9 P), (boot_o_10 P), o11, o12_1, o13, o14]⟩, life0⟩
noncomputable def tree_b (P : Params) : BT := (N (boot_o_0 P) (N (boot_o_1 P) (N (boot_o_3 P) (N (boot_o_7 P) E E) (N o11 E E)) (N (boot_o_5 P) (N (boot_o_9 P) E E) (N o13 E E))) (N (boot_o_2 P) (N (boot_o_4 P) (N (boot_o_8 P) E E) (N o12_1 E E)) (N (boot_o_6 P) (N (boot_o_10 P) E E) (N o14 E E))))
noncomputable def tree_7 (P : Params) : BT := (N (boot_o_0 P) (N (boot_o_1 P) (N (o3_1 P) (N (boot_o_7 P) (N o15 (N o31 (N (o63 P) E E) E) (N o47 E E)) (N o23 (N o39 (N o71 E E) E) (N o55 E E))) (N o11 (N o19 (N o35 (N o67 E E) E) (N o51 E E)) (N o27 (N o43 E E) (N o59 E E)))) (N (boot_o_5 P) (N (boot_o_9 P) (N o17 (N o33 (N o65 E E) E) (N o49 E E)) (N o25 (N o41 E E) (N (o57 P) E E))) (N o13 (N o21 (N (o37 P) (N (o69 P) E E) E) (N o53 E E)) (N o29 (N o45 E E) (N o61 E E))))) (N (o2 P) (N (boot_o_4 P) (N (boot_o_8 P) (N o16 (N o32 (N o64 E E) E) (N o48 E E)) (N (o24 P) (N o40 (N o72 E E) E) (N o56 E E))) (N o12_2 (N o20 (N o36 (N o68 E E) E) (N o52 E E)) (N o28 (N (o44 P) E E) (N o60 E E)))) (N (boot_o_6 P) (N (boot_o_10 P) (N o18 (N o34 (N o66 E E) E) (N o50 E E)) (N o26 (N o42 E E) (N o58 E E))) (N o14 (N o22 (N o38 (N o70 E E) E) (N o54 E E)) (N o30 (N o46 E E) (N o62 E E))))))
noncomputable def tree_7a (P : Params) : BT := (N (boot_o_0 P) (N (boot_o_1 P) (N (o3_1 P) (N (boot_o_7 P) (N o15 (N o31 (N (o63 P) E E) E) (N o47 (N o79 E E) E)) (N o23 (N o39 (N o71 E E) E) (N o55 (N o87 E E) E))) (N o11 (N o19 (N o35 (N o67 E E) E) (N o51 (N o83 E E) E)) (N o27 (N o43 (N o75 E E) E) (N o59 E E)))) (N (boot_o_5 P) (N (boot_o_9 P) (N o17 (N o33 (N o65 E E) E) (N o49 (N o81 E E) E)) (N o25 (N o41 (N (o73_1 P) E E) E) (N (o57 P) (N o89 E E) E))) (N o13 (N o21 (N (o37 P) (N (o69 P) E E) E) (N o53 (N o85 E E) E)) (N o29 (N o45 (N o77 E E) E) (N o61 E E))))) (N (o2 P) (N (boot_o_4 P) (N (boot_o_8 P) (N o16 (N o32 (N o64 E E) E) (N o48 (N o80 E E) E)) (N (o24 P) (N o40 (N o72 E E) E) (N o56 (N o88 E E) E))) (N o12_2 (N o20 (N o36 (N o68 E E) E) (N o52 (N o84 E E) E)) (N o28 (N (o44 P) (N o76 E E) E) (N o60 E E)))) (N (boot_o_6 P) (N (boot_o_10 P) (N o18 (N o34 (N o66 E E) E) (N o50 (N o82 E E) E)) (N o26 (N o42 (N o74 E E) 
  E) (N o58 (N o90 E E) E))) (N o14 (N o22 (N o38 (N o70 E E) E) (N o54 (N o86 E E) E)) (N o30 (N o46 (N o78 E E) E) (N o62 E E))))))
noncomputable def tree_7b (P : Params) : BT := (N (boot_o_0 P) (N (boot_o_1 P) (N (o3_1 P) (N (boot_o_7 P) (N o15 (N o31 (N (o63 P) E E) (N o95 E E)) (N o47 (N o79 E E) E)) (N o23 (N o39 (N o71 E E) (N o103 E E)) (N o55 (N o87 E E) E))) (N o11 (N o19 (N o35 (N o67 E E) (N o99 E E)) (N o51 (N o83 E E) E)) (N o27 (N o43 (N o75 E E) (N o107 E E)) (N o59 (N (o91 P) E E) E)))) (N (boot_o_5 P) (N (boot_o_9 P) (N o17 (N o33 (N o65 E E) (N o97 E E)) (N o49 (N o81 E E) E)) (N o25 (N o41 (N (o73_2 P) E E) (N o105 E E)) (N (o57 P) (N o89 E E) E))) (N o13 (N o21 (N (o37 P) (N (o69 P) E E) (N o101 E E)) (N o53 (N o85 E E) E)) (N o29 (N o45 (N o77 E E) E) (N o61 (N o93 E E) E))))) (N (o2 P) (N (boot_o_4 P) (N (boot_o_8 P) (N o16 (N o32 (N o64 E E) (N o96 E E)) (N o48 (N o80 E E) E)) (N (o24 P) (N o40 (N o72 E E) (N o104 E E)) (N o56 (N o88 E E) E))) (N o12_2 (N o20 (N o36 (N o68 E E) (N o100 E E)) (N o52 (N o84 E E) E)) (N o28 (N (o44 P) (N o76 E E) 
  (N o108 E E)) (N o60 (N o92 E E) E)))) (N (boot_o_6 P) (N (boot_o_10 P) (N o18 (N o34 (N o66 E E) (N o98 E E)) (N o50 (N o82 E E) E)) (N o26 (N o42 (N o74 E E) (N o106 E E)) (N o58 (N o90 E E) E))) (N o14 (N o22 (N o38 (N o70 E E) (N o102 E E)) (N o54 (N o86 E E) E)) (N o30 (N o46 (N o78 E E) E) (N o62 (N o94 E E) E))))))
noncomputable def tree_7c (P : Params) : BT := (N (boot_o_0 P) (N (boot_o_1 P) (N (o3_1 P) (N (boot_o_7 P) (N o15 (N o31 (N (o63 P) E E) (N o95 E E)) (N o47 (N o79 E E) (N o111 E E))) (N o23 (N o39 (N o71 E E) (N o103 E E)) (N o55 (N o87 E E) (N o119 E E)))) (N o11 (N o19 (N o35 (N o67 E E) (N o99 E E)) (N o51 (N o83 E E) (N o115 E E))) (N o27 (N o43 (N o75 E E) (N o107 E E)) (N o59 (N (o91 P) E E) (N o123 E E))))) (N (boot_o_5 P) (N (boot_o_9 P) (N o17 (N o33 (N o65 E E) (N o97 E E)) (N o49 (N o81 E E) (N o113 E E))) (N o25 (N o41 (N (o73_3 P) E E) (N o105 E E)) (N (o57 P) (N o89 E E) (N o121 E E)))) (N o13 (N o21 (N (o37 P) (N (o69 P) E E) (N o101 E E)) (N o53 (N o85 E E) (N o117 E E))) (N o29 (N o45 (N o77 E E) (N (o109 P) E E)) (N o61 (N o93 E E) (N o125 E E)))))) (N (o2 P) (N (boot_o_4 P) (N (boot_o_8 P) (N o16 (N o32 (N o64 E E) (N o96 E E)) (N o48 (N o80 E E) (N o112 E E))) (N (o24 P) (N o40 (N o72 E E) (N o104 E E)) (N o56 (N 
  o88 E E) (N o120 E E)))) (N o12_2 (N o20 (N o36 (N o68 E E) (N o100 E E)) (N o52 (N o84 E E) (N o116 E E))) (N o28 (N (o44 P) (N o76 E E) (N o108 E E)) (N o60 (N o92 E E) (N o124 E E))))) (N (boot_o_6 P) (N (boot_o_10 P) (N o18 (N o34 (N o66 E E) (N o98 E E)) (N o50 (N o82 E E) (N o114 E E))) (N o26 (N o42 (N o74 E E) (N o106 E E)) (N o58 (N o90 E E) (N o122 E E)))) (N o14 (N o22 (N o38 (N o70 E E) (N o102 E E)) (N o54 (N o86 E E) (N o118 E E))) (N o30 (N o46 (N o78 E E) (N o110 E E)) (N o62 (N o94 E E) (N o126 E E)))))))
noncomputable def tree_7d (P : Params) : BT := (N (boot_o_0 P) (N (boot_o_1 P) (N (o3_1 P) (N (boot_o_7 P) (N o15 (N o31 (N (o63 P) (N (o127 P) E E) E) (N o95 E E)) (N o47 (N o79 (N o143 E E) E) (N o111 E E))) (N o23 (N o39 (N o71 (N o135 E E) E) (N o103 E E)) (N o55 (N o87 E E) (N o119 E E)))) (N o11 (N o19 (N o35 (N o67 (N o131 E E) E) (N o99 E E)) (N o51 (N o83 E E) (N o115 E E))) (N o27 (N o43 (N o75 (N o139 E E) E) (N o107 E E)) (N o59 (N (o91 P) E E) (N o123 E E))))) (N (boot_o_5 P) (N (boot_o_9 P) (N o17 (N o33 (N o65 (N o129 E E) E) (N o97 E E)) (N o49 (N o81 E E) (N o113 E E))) (N o25 (N o41 (N (o73_4 P) (N o137 E E) E) (N o105 E E)) (N (o57 P) (N o89 E E) (N o121 E E)))) (N o13 (N o21 (N (o37 P) (N (o69 P) (N o133 E E) E) (N o101 E E)) (N o53 (N o85 E E) (N o117 E E))) (N o29 (N o45 (N o77 (N o141 E E) E) (N (o109 P) E E)) (N o61 (N o93 E E) (N o125 E E)))))) (N (o2 P) (N (boot_o_4 P) (N (boot_o_8 P) (N o16 (N o32 (N o64 (N 
  o128 E E) E) (N o96 E E)) (N o48 (N o80 (N o144 E E) E) (N o112 E E))) (N (o24 P) (N o40 (N o72 (N o136 E E) E) (N o104 E E)) (N o56 (N o88 E E) (N o120 E E)))) (N o12_2 (N o20 (N o36 (N o68 (N o132 E E) E) (N o100 E E)) (N o52 (N o84 E E) (N o116 E E))) (N o28 (N (o44 P) (N o76 (N o140 E E) E) (N o108 E E)) (N o60 (N o92 E E) (N o124 E E))))) (N (boot_o_6 P) (N (boot_o_10 P) (N o18 (N o34 (N o66 (N o130 E E) E) (N o98 E E)) (N o50 (N o82 E E) (N o114 E E))) (N o26 (N o42 (N o74 (N o138 E E) E) (N o106 E E)) (N o58 (N o90 E E) (N o122 E E)))) (N o14 (N o22 (N o38 (N o70 (N o134 E E) E) (N o102 E E)) (N o54 (N o86 E E) (N o118 E E))) (N o30 (N o46 (N o78 (N o142 E E) E) (N o110 E E)) (N o62 (N o94 E E) (N o126 E E)))))))
noncomputable def tree_7e (P : Params) : BT := (N (boot_o_0 P) (N (boot_o_1 P) (N (o3_1 P) (N (boot_o_7 P) (N o15 (N o31 (N (o63 P) (N (o127 P) E E) E) (N o95 (N o159 E E) E)) (N o47 (N o79 (N o143 E E) E) (N o111 E E))) (N o23 (N o39 (N o71 (N o135 E E) E) (N o103 E E)) (N o55 (N o87 (N o151 E E) E) (N o119 E E)))) (N o11 (N o19 (N o35 (N o67 (N o131 E E) E) (N o99 E E)) (N o51 (N o83 (N o147 E E) E) (N o115 E E))) (N o27 (N o43 (N o75 (N o139 E E) E) (N o107 E E)) (N o59 (N (o91 P) (N o155 E E) E) (N o123 E E))))) (N (boot_o_5 P) (N (boot_o_9 P) (N o17 (N o33 (N o65 (N o129 E E) E) (N o97 (N o161 E E) E)) (N o49 (N o81 (N (o145 P) E E) E) (N o113 E E))) (N o25 (N o41 (N (o73_5 P) (N o137 E E) E) (N o105 E E)) (N (o57 P) (N o89 (N o153 E E) E) (N o121 E E)))) (N o13 (N o21 (N (o37 P) (N (o69 P) (N o133 E E) E) (N o101 E E)) (N o53 (N o85 (N o149 E E) E) (N o117 E E))) (N o29 (N o45 (N o77 (N o141 E E) E) (N (o109 P) E E)) (N o61 (N o93 
  (N o157 E E) E) (N o125 E E)))))) (N (o2 P) (N (boot_o_4 P) (N (boot_o_8 P) (N o16 (N o32 (N o64 (N o128 E E) E) (N o96 (N o160 E E) E)) (N o48 (N o80 (N o144 E E) E) (N o112 E E))) (N (o24 P) (N o40 (N o72 (N o136 E E) E) (N o104 E E)) (N o56 (N o88 (N o152 E E) E) (N o120 E E)))) (N o12_2 (N o20 (N o36 (N o68 (N o132 E E) E) (N o100 E E)) (N o52 (N o84 (N o148 E E) E) (N o116 E E))) (N o28 (N (o44 P) (N o76 (N o140 E E) E) (N o108 E E)) (N o60 (N o92 (N o156 E E) E) (N o124 E E))))) (N (boot_o_6 P) (N (boot_o_10 P) (N o18 (N o34 (N o66 (N o130 E E) E) (N o98 (N o162 E E) E)) (N o50 (N o82 (N o146 E E) E) (N o114 E E))) (N o26 (N o42 (N o74 (N o138 E E) E) (N o106 E E)) (N o58 (N o90 (N o154 E E) E) (N o122 E E)))) (N o14 (N o22 (N o38 (N o70 (N o134 E E) E) (N o102 E E)) (N o54 (N o86 (N o150 E E) E) (N o118 E E))) (N o30 (N o46 (N o78 (N o142 E E) E) (N o110 E E)) (N o62 (N o94 (N o158 
  E E) E) (N o126 E E)))))))
noncomputable def tree_7f (P : Params) : BT := (N (boot_o_0 P) (N (boot_o_1 P) (N (o3_1 P) (N (boot_o_7 P) (N o15 (N o31 (N (o63 P) (N (o127 P) E E) E) (N o95 (N o159 E E) E)) (N o47 (N o79 (N o143 E E) E) (N o111 (N o175 E E) E))) (N o23 (N o39 (N o71 (N o135 E E) E) (N o103 (N o167 E E) E)) (N o55 (N o87 (N o151 E E) E) (N o119 E E)))) (N o11 (N o19 (N o35 (N o67 (N o131 E E) E) (N o99 (N (o163 P) E E) E)) (N o51 (N o83 (N o147 E E) E) (N o115 (N o179 E E) E))) (N o27 (N o43 (N o75 (N o139 E E) E) (N o107 (N o171 E E) E)) (N o59 (N (o91 P) (N o155 E E) E) (N o123 E E))))) (N (boot_o_5 P) (N (boot_o_9 P) (N o17 (N o33 (N o65 (N o129 E E) E) (N o97 (N o161 E E) E)) (N o49 (N o81 (N (o145 P) E E) E) (N o113 (N o177 E E) E))) (N o25 (N o41 (N (o73_6 P) (N o137 E E) E) (N o105 (N o169 E E) E)) (N (o57 P) (N o89 (N o153 E E) E) (N o121 E E)))) (N o13 (N o21 (N (o37 P) (N (o69 P) (N o133 E E) E) (N o101 (N o165 E E) E)) (N o53 (N o85 (N o149 
  E E) E) (N o117 E E))) (N o29 (N o45 (N o77 (N o141 E E) E) (N (o109 P) (N o173 E E) E)) (N o61 (N o93 (N o157 E E) E) (N o125 E E)))))) (N (o2 P) (N (boot_o_4 P) (N (boot_o_8 P) (N o16 (N o32 (N o64 (N o128 E E) E) (N o96 (N o160 E E) E)) (N o48 (N o80 (N o144 E E) E) (N o112 (N o176 E E) E))) (N (o24 P) (N o40 (N o72 (N o136 E E) E) (N o104 (N o168 E E) E)) (N o56 (N o88 (N o152 E E) E) (N o120 E E)))) (N o12_2 (N o20 (N o36 (N o68 (N o132 E E) E) (N o100 (N o164 E E) E)) (N o52 (N o84 (N o148 E E) E) (N o116 (N o180 E E) E))) (N o28 (N (o44 P) (N o76 (N o140 E E) E) (N o108 (N o172 E E) E)) (N o60 (N o92 (N o156 E E) E) (N o124 E E))))) (N (boot_o_6 P) (N (boot_o_10 P) (N o18 (N o34 (N o66 (N o130 E E) E) (N o98 (N o162 E E) E)) (N o50 (N o82 (N o146 E E) E) (N o114 (N o178 E E) E))) (N o26 (N o42 (N o74 (N o138 E E) E) (N o106 (N o170 E E) E)) (N o58 (N o90 (N o154 E E) E) (N o122 E E)))) 
  (N o14 (N o22 (N o38 (N o70 (N o134 E E) E) (N o102 (N o166 E E) E)) (N o54 (N o86 (N o150 E E) E) (N o118 E E))) (N o30 (N o46 (N o78 (N o142 E E) E) (N o110 (N o174 E E) E)) (N o62 (N o94 (N o158 E E) E) (N o126 E E)))))))
noncomputable def tree_7g (P : Params) : BT := (N (boot_o_0 P) (N (boot_o_1 P) (N (o3_1 P) (N (boot_o_7 P) (N o15 (N o31 (N (o63 P) (N (o127 P) E E) (N o191 E E)) (N o95 (N o159 E E) E)) (N o47 (N o79 (N o143 E E) E) (N o111 (N o175 E E) E))) (N o23 (N o39 (N o71 (N o135 E E) E) (N o103 (N o167 E E) E)) (N o55 (N o87 (N o151 E E) E) (N o119 (N o183 E E) E)))) (N o11 (N o19 (N o35 (N o67 (N o131 E E) (N o195 E E)) (N o99 (N (o163 P) E E) E)) (N o51 (N o83 (N o147 E E) E) (N o115 (N o179 E E) E))) (N o27 (N o43 (N o75 (N o139 E E) E) (N o107 (N o171 E E) E)) (N o59 (N (o91 P) (N o155 E E) E) (N o123 (N o187 E E) E))))) (N (boot_o_5 P) (N (boot_o_9 P) (N o17 (N o33 (N o65 (N o129 E E) (N o193 E E)) (N o97 (N o161 E E) E)) (N o49 (N o81 (N (o145 P) E E) E) (N o113 (N o177 E E) E))) (N o25 (N o41 (N (o73_7 P) (N o137 E E) E) (N o105 (N o169 E E) E)) (N (o57 P) (N o89 (N o153 E E) E) (N o121 (N o185 E E) E)))) (N o13 (N o21 (N (o37 P) (N (o69 
  P) (N o133 E E) (N o197 E E)) (N o101 (N o165 E E) E)) (N o53 (N o85 (N o149 E E) E) (N o117 (N (o181 P) E E) E))) (N o29 (N o45 (N o77 (N o141 E E) E) (N (o109 P) (N o173 E E) E)) (N o61 (N o93 (N o157 E E) E) (N o125 (N o189 E E) E)))))) (N (o2 P) (N (boot_o_4 P) (N (boot_o_8 P) (N o16 (N o32 (N o64 (N o128 E E) (N o192 E E)) (N o96 (N o160 E E) E)) (N o48 (N o80 (N o144 E E) E) (N o112 (N o176 E E) E))) (N (o24 P) (N o40 (N o72 (N o136 E E) E) (N o104 (N o168 E E) E)) (N o56 (N o88 (N o152 E E) E) (N o120 (N o184 E E) E)))) (N o12_2 (N o20 (N o36 (N o68 (N o132 E E) (N o196 E E)) (N o100 (N o164 E E) E)) (N o52 (N o84 (N o148 E E) E) (N o116 (N o180 E E) E))) (N o28 (N (o44 P) (N o76 (N o140 E E) E) (N o108 (N o172 E E) E)) (N o60 (N o92 (N o156 E E) E) (N o124 (N o188 E E) E))))) (N (boot_o_6 P) (N (boot_o_10 P) (N o18 (N o34 (N o66 (N o130 E E) (N o194 E E)) (N o98 (N o162 E E) E)) (N 
  o50 (N o82 (N o146 E E) E) (N o114 (N o178 E E) E))) (N o26 (N o42 (N o74 (N o138 E E) E) (N o106 (N o170 E E) E)) (N o58 (N o90 (N o154 E E) E) (N o122 (N o186 E E) E)))) (N o14 (N o22 (N o38 (N o70 (N o134 E E) (N o198 E E)) (N o102 (N o166 E E) E)) (N o54 (N o86 (N o150 E E) E) (N o118 (N o182 E E) E))) (N o30 (N o46 (N o78 (N o142 E E) E) (N o110 (N o174 E E) E)) (N o62 (N o94 (N o158 E E) E) (N o126 (N o190 E E) E)))))))
noncomputable def tree_8 (P : Params) : BT := (N (boot_o_0 P) (N (boot_o_1 P) (N (o3_2 P) (N (boot_o_7 P) (N o15 (N o31 (N (o63 P) (N (o127 P) E E) (N o191 E E)) (N o95 (N o159 E E) E)) (N o47 (N o79 (N o143 E E) E) (N o111 (N o175 E E) E))) (N o23 (N o39 (N o71 (N o135 E E) (N (o199 P) E E)) (N o103 (N o167 E E) E)) (N o55 (N o87 (N o151 E E) E) (N o119 (N o183 E E) E)))) (N o11 (N o19 (N o35 (N o67 (N o131 E E) (N o195 E E)) (N o99 (N (o163 P) E E) E)) (N o51 (N o83 (N o147 E E) E) (N o115 (N o179 E E) E))) (N o27 (N o43 (N o75 (N o139 E E) E) (N o107 (N o171 E E) E)) (N o59 (N (o91 P) (N o155 E E) E) (N o123 (N o187 E E) E))))) (N (boot_o_5 P) (N (boot_o_9 P) (N o17 (N o33 (N o65 (N o129 E E) (N o193 E E)) (N o97 (N o161 E E) E)) (N o49 (N o81 (N (o145 P) E E) E) (N o113 (N o177 E E) E))) (N o25 (N o41 (N (o73 P) (N o137 E E) (N o201 E E)) (N o105 (N o169 E E) E)) (N (o57 P) (N o89 (N o153 E E) E) (N o121 (N o185 E E) E)))) (N o13 
  (N o21 (N (o37 P) (N (o69 P) (N o133 E E) (N o197 E E)) (N o101 (N o165 E E) E)) (N o53 (N o85 (N o149 E E) E) (N o117 (N (o181 P) E E) E))) (N o29 (N o45 (N o77 (N o141 E E) E) (N (o109 P) (N o173 E E) E)) (N o61 (N o93 (N o157 E E) E) (N o125 (N o189 E E) E)))))) (N (o2 P) (N (boot_o_4 P) (N (boot_o_8 P) (N o16 (N o32 (N o64 (N o128 E E) (N o192 E E)) (N o96 (N o160 E E) E)) (N o48 (N o80 (N o144 E E) E) (N o112 (N o176 E E) E))) (N (o24 P) (N o40 (N o72 (N o136 E E) (N o200 E E)) (N o104 (N o168 E E) E)) (N o56 (N o88 (N o152 E E) E) (N o120 (N o184 E E) E)))) (N o12_2 (N o20 (N o36 (N o68 (N o132 E E) (N o196 E E)) (N o100 (N o164 E E) E)) (N o52 (N o84 (N o148 E E) E) (N o116 (N o180 E E) E))) (N o28 (N (o44 P) (N o76 (N o140 E E) E) (N o108 (N o172 E E) E)) (N o60 (N o92 (N o156 E E) E) (N o124 (N o188 E E) E))))) (N (boot_o_6 P) (N (boot_o_10 P) (N o18 (N o34 (N o66 (N o130 E E) (N 
  o194 E E)) (N o98 (N o162 E E) E)) (N o50 (N o82 (N o146 E E) E) (N o114 (N o178 E E) E))) (N o26 (N o42 (N o74 (N o138 E E) (N o202 E E)) (N o106 (N o170 E E) E)) (N o58 (N o90 (N o154 E E) E) (N o122 (N o186 E E) E)))) (N o14 (N o22 (N o38 (N o70 (N o134 E E) (N o198 E E)) (N o102 (N o166 E E) E)) (N o54 (N o86 (N o150 E E) E) (N o118 (N o182 E E) E))) (N o30 (N o46 (N o78 (N o142 E E) E) (N o110 (N o174 E E) E)) (N o62 (N o94 (N o158 E E) E) (N o126 (N o190 E E) E)))))))
noncomputable def tree_44 (P : Params) : BT := (N (boot_o_0 P) (N (boot_o_1 P) (N (o3 P) (N (boot_o_7 P) (N o15 (N o31 (N (o63 P) (N (o127 P) (N o255 E E) (N o383 E E)) (N o191 (N o319 E E) E)) (N o95 (N o159 (N o287 E E) E) (N o223 (N o351 E E) E))) (N o47 (N o79 (N o143 (N o271 E E) (N o399 E E)) (N o207 (N o335 E E) E)) (N o111 (N o175 (N o303 E E) E) (N o239 (N o367 E E) E)))) (N o23 (N o39 (N o71 (N o135 (N o263 E E) (N o391 E E)) (N (o199 P) (N o327 E E) E)) (N o103 (N o167 (N o295 E E) E) (N o231 (N o359 E E) E))) (N o55 (N o87 (N o151 (N o279 E E) (N o407 E E)) (N o215 (N o343 E E) E)) (N o119 (N o183 (N o311 E E) E) (N o247 (N o375 E E) E))))) (N o11 (N o19 (N o35 (N o67 (N o131 (N o259 E E) (N o387 E E)) (N o195 (N o323 E E) E)) (N o99 (N (o163 P) (N o291 E E) E) (N o227 (N o355 E E) E))) (N o51 (N o83 (N o147 (N o275 E E) (N o403 E E)) (N o211 (N o339 E E) E)) (N o115 (N o179 (N o307 E E) E) (N o243 (N o371 E E) E)))) (N o27 
  (N o43 (N o75 (N o139 (N o267 E E) (N o395 E E)) (N o203 (N o331 E E) E)) (N o107 (N o171 (N o299 E E) E) (N o235 (N o363 E E) E))) (N o59 (N (o91 P) (N o155 (N o283 E E) E) (N o219 (N o347 E E) E)) (N o123 (N o187 (N o315 E E) E) (N o251 (N o379 E E) E)))))) (N (boot_o_5 P) (N (boot_o_9 P) (N o17 (N o33 (N o65 (N o129 (N o257 E E) (N o385 E E)) (N o193 (N o321 E E) E)) (N o97 (N o161 (N o289 E E) E) (N o225 (N o353 E E) E))) (N o49 (N o81 (N (o145 P) (N o273 E E) (N o401 E E)) (N o209 (N o337 E E) E)) (N o113 (N o177 (N o305 E E) E) (N o241 (N o369 E E) E)))) (N o25 (N o41 (N (o73 P) (N o137 (N o265 E E) (N o393 E E)) (N o201 (N o329 E E) E)) (N o105 (N o169 (N o297 E E) E) (N o233 (N o361 E E) E))) (N (o57 P) (N o89 (N o153 (N o281 E E) (N o409 E E)) (N o217 (N o345 E E) E)) (N o121 (N o185 (N o313 E E) E) (N o249 (N o377 E E) E))))) (N o13 (N o21 (N (o37 P) (N (o69 P) (N o133 (N o261 E 
  E) (N o389 E E)) (N o197 (N o325 E E) E)) (N o101 (N o165 (N o293 E E) E) (N o229 (N o357 E E) E))) (N o53 (N o85 (N o149 (N o277 E E) (N o405 E E)) (N o213 (N o341 E E) E)) (N o117 (N (o181 P) (N o309 E E) E) (N o245 (N o373 E E) E)))) (N o29 (N o45 (N o77 (N o141 (N o269 E E) (N o397 E E)) (N o205 (N o333 E E) E)) (N (o109 P) (N o173 (N o301 E E) E) (N o237 (N o365 E E) E))) (N o61 (N o93 (N o157 (N o285 E E) E) (N o221 (N o349 E E) E)) (N o125 (N o189 (N o317 E E) E) (N o253 (N o381 E E) E))))))) (N (o2 P) (N (boot_o_4 P) (N (boot_o_8 P) (N o16 (N o32 (N o64 (N o128 (N o256 E E) (N o384 E E)) (N o192 (N o320 E E) E)) (N o96 (N o160 (N o288 E E) E) (N o224 (N o352 E E) E))) (N o48 (N o80 (N o144 (N o272 E E) (N o400 E E)) (N o208 (N o336 E E) E)) (N o112 (N o176 (N o304 E E) E) (N o240 (N o368 E E) E)))) (N (o24 P) (N o40 (N o72 (N o136 (N o264 E E) (N o392 E E)) (N o200 (N o328 E E) E)) 
  (N o104 (N o168 (N o296 E E) E) (N o232 (N o360 E E) E))) (N o56 (N o88 (N o152 (N o280 E E) (N o408 E E)) (N o216 (N o344 E E) E)) (N o120 (N o184 (N o312 E E) E) (N o248 (N o376 E E) E))))) (N o12 (N o20 (N o36 (N o68 (N o132 (N o260 E E) (N o388 E E)) (N o196 (N o324 E E) E)) (N o100 (N o164 (N o292 E E) E) (N o228 (N o356 E E) E))) (N o52 (N o84 (N o148 (N o276 E E) (N o404 E E)) (N o212 (N o340 E E) E)) (N o116 (N o180 (N o308 E E) E) (N o244 (N o372 E E) E)))) (N o28 (N (o44 P) (N o76 (N o140 (N o268 E E) (N o396 E E)) (N o204 (N o332 E E) E)) (N o108 (N o172 (N o300 E E) E) (N o236 (N o364 E E) E))) (N o60 (N o92 (N o156 (N o284 E E) E) (N o220 (N o348 E E) E)) (N o124 (N o188 (N o316 E E) E) (N o252 (N o380 E E) E)))))) (N (boot_o_6 P) (N (boot_o_10 P) (N o18 (N o34 (N o66 (N o130 (N o258 E E) (N o386 E E)) (N o194 (N o322 E E) E)) (N o98 (N o162 (N o290 E E) E) (N o226 (N o354 E 
  E) E))) (N o50 (N o82 (N o146 (N o274 E E) (N o402 E E)) (N o210 (N o338 E E) E)) (N o114 (N o178 (N o306 E E) E) (N o242 (N o370 E E) E)))) (N o26 (N o42 (N o74 (N o138 (N o266 E E) (N o394 E E)) (N o202 (N o330 E E) E)) (N o106 (N o170 (N o298 E E) E) (N o234 (N o362 E E) E))) (N o58 (N o90 (N o154 (N o282 E E) E) (N o218 (N o346 E E) E)) (N o122 (N o186 (N o314 E E) E) (N o250 (N o378 E E) E))))) (N o14 (N o22 (N o38 (N o70 (N o134 (N o262 E E) (N o390 E E)) (N o198 (N o326 E E) E)) (N o102 (N o166 (N o294 E E) E) (N o230 (N o358 E E) E))) (N o54 (N o86 (N o150 (N o278 E E) (N o406 E E)) (N o214 (N o342 E E) E)) (N o118 (N o182 (N o310 E E) E) (N o246 (N o374 E E) E)))) (N o30 (N o46 (N o78 (N o142 (N o270 E E) (N o398 E E)) (N o206 (N o334 E E) E)) (N o110 (N o174 (N o302 E E) E) (N o238 (N o366 E E) E))) (N o62 (N o94 (N o158 (N o286 E E) E) (N o222 (N o350 E E) E)) (N o126 (N o190 (N 
  o318 E E) E) (N o254 (N o382 E E) E))))))))
/-! ## the run of the top -/
noncomputable def envT : Env := { scope := pw.main.scope, locals := mainNs, globals := mainNs, cells := [], code := .ref 13, frame := some 14 }
noncomputable def cT : Code := .body (behindTheImports pw) envT
noncomputable abbrev q0 : Pos := ⟨0, 0, 0, 0⟩
noncomputable abbrev B0 : List Frame := [topFrame q0]
noncomputable abbrev ann : Option Value := some (.ref 6)
noncomputable def dr0 : Drawn := {}
noncomputable def SA (t : BT) (n k : Nat) (os : OsState) : SharedT := ⟨t, n, life0, ⟨[]⟩, dr0, k, os⟩
noncomputable abbrev tSG := PySem.W.Fast.tw10295753902157049106
noncomputable abbrev tSR := PySem.W.Fast.tw10110043849684766642
noncomputable abbrev tTB := PySem.W.Fast.tw14364793385576792824
noncomputable abbrev tEx := PySem.W.Fast.tw12563942051412417395
noncomputable abbrev tM := PySem.W.Fast.tw12456147031677567982
noncomputable def thS (l : List Stmt) (p : Pos) : Thread := ⟨Sem.wrap doneF deadEnd id id (tEx l envT), cT, p, B0⟩
theorem th_eq (l : List Stmt) (p : Pos) : piecesOf l envT cT p B0 = thS l p :=
  congrArg (fun x : List Stmt → Env → Sem Flow => (⟨Sem.wrap doneF deadEnd id id (x l envT), cT, p, B0⟩ : Thread)) PySem.W.Fast.te12563942051412417395
theorem goQ {w : World} {n : Nat} {S S' : SharedT} {th th' : Thread} (h : tSG tTB pw w 11 ann 1 n S th = some (S', th')) : segGo treeTable pw w 11 ann 1 n S.abs th = some (S'.abs, th') :=
  segGo_of (by rw [PySem.W.Fast.te10295753902157049106, PySem.W.Fast.te14364793385576792824]; exact h)
theorem runQ {w : World} {n : Nat} {S S' : SharedT} {th : Thread} {f : Flow} {c : Code} {q : Pos} (h : tSR tTB pw w 11 ann 1 n S th = some (f, S', c, q)) : segRun treeTable pw w 11 ann 1 n S.abs th = some (f, S'.abs, c, q) :=
  segRun_of (by rw [PySem.W.Fast.te10110043849684766642, PySem.W.Fast.te14364793385576792824]; exact h)
/-! the table's display, cut behind every seventeenth entry -/
noncomputable abbrev DS := Option Addr × List (Sem Value × Sem Value)
noncomputable abbrev It := Option (Sem Value) × Sem Value
noncomputable def loopI (m : Monad Sem) (l : List It) (x : DS) (f : It → DS → Sem (ForInStep DS)) : Sem DS := forIn l x f
noncomputable def dP : { bf : (It → DS → Sem (ForInStep DS)) × (DS → Sem Value) // ∀ items, PySem.W.Fast.tw11216187645035866516 items = PySem.W.R.bindR (loopI tM items (none, []) bf.1) bf.2 } := ⟨(_, _), fun _ => rfl⟩
noncomputable def asgP (x : Stmt) : List PySem.Expr × PySem.Expr := match x with
  | .Assign t v _ => (t, v)
  | _ => default
noncomputable def dicP (x : PySem.Expr) : List (Option PySem.Expr) × List PySem.Expr × Pos := match x with
  | .Dict k v p => (k, v, p)
  | _ => default
noncomputable def itm (m : Monad Sem) (p : Pos) (v : Sem Value) : Sem Value := do let x ← v; standAt p; pure x
noncomputable def tab : PySem.Expr := (asgP (st 7)).2
noncomputable def items : List It := (evalEachOpt (dicP tab).1 envT).zip (PySem.W.R.mapR (itm tM (dicP tab).2.2) (PySem.W.Fast.tw10458482166411082596 (dicP tab).2.1 envT))
noncomputable def kA (x : Value) : Sem Flow := PySem.W.R.bindR (PySem.W.Fast.tw4016559146275205325 (asgP (st 7)).1 tab envT) fun so => PySem.W.Fast.tw2470068587113613483 envT x so (PySem.W.R.mapR (fun x => x.2) (PySem.W.Fast.tw15628205474173192105 (asgP (st 7)).1 envT))
noncomputable def kE (f : Flow) : Sem Flow := match f with
  | .next => tEx [] envT
  | f => @pure Sem tM.toApplicative.toPure _ f
/-! the same loop with its looks along lists instead of arrays: what a key is sought by -/
theorem all_l {α : Type} (es : Array α) (p : α → Bool) : es.all p = es.toList.all p := (Array.all_toList).symm
theorem idx_l {α : Type} (es : Array α) (p : α → Bool) : es.findIdx? p = es.toList.findIdx? p := by
  cases es; exact List.findIdx?_toArray ..
noncomputable def fbvP : { f // PySem.W.Fast.tw16073574877836486461 = f } := ⟨_, by
  funext d key es s
  unfold PySem.W.Fast.tw16073574877836486461
  rw [idx_l]⟩
noncomputable def findP : { f // PySem.W.Fast.tw7228091826238408665 = f } := ⟨_, by
  funext d key h
  unfold PySem.W.Fast.tw7228091826238408665
  rewrite [fbvP.2]
  simp -zeta -zetaHave -failIfUnchanged only [all_l]
  rfl⟩
noncomputable def putP : { f // PySem.W.Fast.tw9652029157277244616 = f } := ⟨_, by
  unfold PySem.W.Fast.tw9652029157277244616
  rw [findP.2]⟩
noncomputable def mmP : { f // PySem.W.Fast.tw8596071696976842438 = f } := ⟨_, by
  unfold PySem.W.Fast.tw8596071696976842438
  rw [findP.2, putP.2]⟩
noncomputable def dPf : { bf : (It → DS → Sem (ForInStep DS)) × (DS → Sem Value) // dP.1 = bf } := ⟨(_, _), by
  unfold dP
  show (_, _) = _
  rw [mmP.2]⟩
noncomputable def thrW (bf : (It → DS → Sem (ForInStep DS)) × (DS → Sem Value)) (k : Nat) : Thread :=
  ⟨Sem.wrap doneF deadEnd id id (PySem.W.R.bindR (PySem.W.R.bindR (PySem.W.R.bindR (loopI tM (items.drop k) (some 73, []) bf.1) bf.2) kA) kE), cT, ⟨18, 9, 18, 2777⟩, B0⟩
noncomputable def thr (k : Nat) : Thread := thrW dPf.1 k
theorem thr_eq (k : Nat) : thrW dP.1 k = thr k := congrArg (fun b => thrW b k) dPf.2
noncomputable abbrev row : String := "special-get-raises"
noncomputable abbrev GoS (n : Nat) (t : Params → BT) (m k : Nat) (th : Thread) (t' : Params → BT) (m' k' : Nat) (th' : Thread) (w : World) : Prop :=
  ∀ os, segGo treeTable pw w 11 ann 1 n (SA (t w.params) m k os).abs th = some ((SA (t' w.params) m' k' os).abs, th')
noncomputable abbrev RunS (n : Nat) (t : Params → BT) (m k : Nat) (th : Thread) (t' : Params → BT) (m' k' : Nat) (p : Pos) (w : World) : Prop :=
  ∀ os, segRun treeTable pw w 11 ann 1 n (SA (t w.params) m k os).abs th = some (.next, (SA (t' w.params) m' k' os).abs, cT, p)
theorem g_a0 (w : World) : GoS 327 tree_7 73 270 (thS [st 7] ⟨17, 0, 17, 8⟩) tree_7a 91 355 (thrW dP.1 17) (w.withFollow row false) := fun os => goQ (by kernel_rfl)
theorem g_a1 (w : World) : GoS 327 tree_7 73 270 (thS [st 7] ⟨17, 0, 17, 8⟩) tree_7a 91 355 (thrW dP.1 17) (w.withFollow row true) := fun os => goQ (by kernel_rfl)
theorem g_a : ∀ w, GoS 327 tree_7 73 270 (thS [st 7] ⟨17, 0, 17, 8⟩) tree_7a 91 355 (thrW dP.1 17) w := byRow2 (P := GoS 327 tree_7 73 270 (thS [st 7] ⟨17, 0, 17, 8⟩) tree_7a 91 355 (thrW dP.1 17)) row g_a0 g_a1
theorem g_b0 (w : World) : GoS 432 tree_7a 91 355 (thr 17) tree_7b 109 440 (thr 34) (w.withFollow row false) := fun os => goQ (by kernel_rfl)
theorem g_b1 (w : World) : GoS 432 tree_7a 91 355 (thr 17) tree_7b 109 440 (thr 34) (w.withFollow row true) := fun os => goQ (by kernel_rfl)
theorem g_b : ∀ w, GoS 432 tree_7a 91 355 (thr 17) tree_7b 109 440 (thr 34) w := byRow2 (P := GoS 432 tree_7a 91 355 (thr 17) tree_7b 109 440 (thr 34)) row g_b0 g_b1
theorem g_c0 (w : World) : GoS 432 tree_7b 109 440 (thr 34) tree_7c 127 525 (thr 51) (w.withFollow row false) := fun os => goQ (by kernel_rfl)
theorem g_c1 (w : World) : GoS 432 tree_7b 109 440 (thr 34) tree_7c 127 525 (thr 51) (w.withFollow row true) := fun os => goQ (by kernel_rfl)
theorem g_c : ∀ w, GoS 432 tree_7b 109 440 (thr 34) tree_7c 127 525 (thr 51) w := byRow2 (P := GoS 432 tree_7b 109 440 (thr 34) tree_7c 127 525 (thr 51)) row g_c0 g_c1
theorem g_d0 (w : World) : GoS 432 tree_7c 127 525 (thr 51) tree_7d 145 610 (thr 68) (w.withFollow row false) := fun os => goQ (by kernel_rfl)
theorem g_d1 (w : World) : GoS 432 tree_7c 127 525 (thr 51) tree_7d 145 610 (thr 68) (w.withFollow row true) := fun os => goQ (by kernel_rfl)
theorem g_d : ∀ w, GoS 432 tree_7c 127 525 (thr 51) tree_7d 145 610 (thr 68) w := byRow2 (P := GoS 432 tree_7c 127 525 (thr 51) tree_7d 145 610 (thr 68)) row g_d0 g_d1
theorem g_e0 (w : World) : GoS 432 tree_7d 145 610 (thr 68) tree_7e 163 695 (thr 85) (w.withFollow row false) := fun os => goQ (by kernel_rfl)
theorem g_e1 (w : World) : GoS 432 tree_7d 145 610 (thr 68) tree_7e 163 695 (thr 85) (w.withFollow row true) := fun os => goQ (by kernel_rfl)
theorem g_e : ∀ w, GoS 432 tree_7d 145 610 (thr 68) tree_7e 163 695 (thr 85) w := byRow2 (P := GoS 432 tree_7d 145 610 (thr 68) tree_7e 163 695 (thr 85)) row g_e0 g_e1
theorem g_f0 (w : World) : GoS 432 tree_7e 163 695 (thr 85) tree_7f 181 780 (thr 102) (w.withFollow row false) := fun os => goQ (by kernel_rfl)
theorem g_f1 (w : World) : GoS 432 tree_7e 163 695 (thr 85) tree_7f 181 780 (thr 102) (w.withFollow row true) := fun os => goQ (by kernel_rfl)
theorem g_f : ∀ w, GoS 432 tree_7e 163 695 (thr 85) tree_7f 181 780 (thr 102) w := byRow2 (P := GoS 432 tree_7e 163 695 (thr 85) tree_7f 181 780 (thr 102)) row g_f0 g_f1
theorem g_g0 (w : World) : GoS 432 tree_7f 181 780 (thr 102) tree_7g 199 865 (thr 119) (w.withFollow row false) := fun os => goQ (by kernel_rfl)
theorem g_g1 (w : World) : GoS 432 tree_7f 181 780 (thr 102) tree_7g 199 865 (thr 119) (w.withFollow row true) := fun os => goQ (by kernel_rfl)
theorem g_g : ∀ w, GoS 432 tree_7f 181 780 (thr 102) tree_7g 199 865 (thr 119) w := byRow2 (P := GoS 432 tree_7f 181 780 (thr 102) tree_7g 199 865 (thr 119)) row g_g0 g_g1
theorem g_h0 (w : World) : RunS 89 tree_7g 199 865 (thr 119) tree_8 203 881 ⟨18, 0, 18, 6⟩ (w.withFollow row false) := fun os => runQ (by kernel_rfl)
theorem g_h1 (w : World) : RunS 89 tree_7g 199 865 (thr 119) tree_8 203 881 ⟨18, 0, 18, 6⟩ (w.withFollow row true) := fun os => runQ (by kernel_rfl)
theorem g_h : ∀ w, RunS 89 tree_7g 199 865 (thr 119) tree_8 203 881 ⟨18, 0, 18, 6⟩ w := byRow2 (P := RunS 89 tree_7g 199 865 (thr 119) tree_8 203 881 ⟨18, 0, 18, 6⟩) row g_h0 g_h1
noncomputable abbrev M1 : Nat := Nat.add 327 (Nat.add 432 (Nat.add 432 (Nat.add 432 (Nat.add 432 (Nat.add 432 (Nat.add 432 89))))))
theorem p_1 (w) : RunS M1 tree_7 73 270 (thS [st 7] ⟨17, 0, 17, 8⟩) tree_8 203 881 ⟨18, 0, 18, 6⟩ w := fun os => seg_go (thr_eq 17 ▸ g_a w os) (seg_go (g_b w os) (seg_go (g_c w os) (seg_go (g_d w os) (seg_go (g_e w os) (seg_go (g_f w os) (seg_go (g_g w os) (g_h w os)))))))
theorem p_0 (w) : RunS 743 tree_b 15 187 (thS (bd.take 7) q0) tree_7 73 270 ⟨17, 0, 17, 8⟩ w := fun os => runQ (by kernel_rfl)
theorem p_2 (w) : RunS 1028 tree_8 203 881 (thS (bd.drop 8) ⟨18, 0, 18, 6⟩) tree_44 410 1202 ⟨338, 0, 352, 15⟩ w := fun os => runQ (by kernel_rfl)
noncomputable def sh0 (w : World) (os : OsState) : Shared := ⟨boot_heap w.params, ⟨[]⟩, boot_drawn, boot_toks, os⟩
noncomputable def shA (w : World) (os : OsState) : Shared := ⟨heap_a w.params, ⟨[]⟩, dr0, 187, os⟩
noncomputable def shF (w : World) (os : OsState) : Shared := ⟨heap_fin w.params, ⟨[]⟩, dr0, 1202, os⟩
theorem r_pre (w os) : topGo treeTable pw w 11 ann 12 (sh0 w os) (topStub pw) = some (shA w os, ⟨denote treeTable cT, cT, q0, B0⟩) := by kernel_rfl
theorem r_block (w os) : segRun treeTable pw w 11 ann 1 1 (shA w os) (blockOf (behindTheImports pw) envT cT q0 B0) = some (.next, (SA (tree_b w.params) 15 187 os).abs, cT, q0) := by kernel_rfl
theorem r_fin (w os) : topRun treeTable pw w 11 ann 2 (SA (tree_44 w.params) 410 1202 os).abs (restOf [] envT cT ⟨338, 0, 352, 15⟩ B0) = some (shF w os) := by kernel_rfl
theorem bd_eq : behindTheImports pw = bd.take 7 ++ ([st 7] ++ (bd.drop 8 ++ [])) := by kernel_rfl
theorem toT {w : World} {n : Nat} {S : Shared} {l : List Stmt} {p : Pos} {r} (h : segRun treeTable pw w 11 ann 1 n S (thS l p) = r) : segRun treeTable pw w 11 ann 1 n S (piecesOf l envT cT p B0) = r := by rw [th_eq]; exact h
noncomputable abbrev M0 : Nat := Nat.add 12 (Nat.add 1 (Nat.add 743 (Nat.add M1 (Nat.add 1028 2))))
theorem run_ok (w : World) (os : OsState) : topRun treeTable pw w 11 ann M0 (sh0 w os) (topStub pw) = some (shF w os) := by
  refine go_top (r_pre w os) (piece_block (r_block w os) ?_)
  refine (congrArg (fun b => topRun treeTable pw w 11 ann _ (SA (tree_b w.params) 15 187 os).abs (restOf b envT cT q0 B0)) bd_eq).trans ?_
  exact piece_app (toT (p_0 w os)) (piece_app (toT (p_1 w os)) (piece_app (toT (p_2 w os)) (r_fin w os)))
end
end Hd
end Mine
open PySem PySem.W PyProof.Rows PySem.Calls PySem.Spec
namespace Mine
namespace Hd
noncomputable section
noncomputable def view : Program := { pw with main := { pw.main with body := ([1, 3, 4, 5, 7, 8, 9, 10, 11, 12, 14, 15, 16, 17, 18, 19, 20, 21, 22, 23, 24, 25, 26, 27, 28, 29, 30, 31, 33, 34, 35, 36, 37, 38, 39, 40, 41, 42, 43] : List Nat).map st } }
noncomputable abbrev loose : List Str := [Str.ofString "SHAPES"]
noncomputable abbrev theRow : OpenRow := PySem.Challenge.rw_rg0230_01.row
noncomputable abbrev xt : Shared → Bool := fun s => xlAt view [] s && recOk theRow.toRowW.records s
noncomputable def heapK (P : Params) : Frag := [(2, o2 P), (3, o3 P), (15, o15), (17, o17), (18, o18), (20, o20), (21, o21), (22, o22), (29, o29), (31, o31), (32, o32), (34, o34), (35, o35), (36, o36), (37, o37 P), (38, o38), (39, o39), (42, o42), (49, o49), (51, o51), (52, o52), (54, o54), (55, o55), (56, o56), (57, o57 P), (58, o58), (61, o61), (68, o68), (69, o69 P), (70, o70), (73, o73 P), (74, o74), (75, o75), (76, o76), (77, o77), (78, o78), (79, o79), (80, o80), (81, o81), (82, o82), (83, o83), (84, o84), (85, o85), (86, o86), (87, o87), (88, o88), (89, o89), (90, o90), (92, o92), (93, o93), (94, o94), (95, o95), (96, o96), (97, o97), (98, o98), (99, o99), (100, o100), (101, o101), (102, o102), (103, o103), (104, o104), (105, o105), (106, o106), (107, o107), (108, o108), (110, o110), (111, o111), (112, o112), (113, o113), (114, o114), (115, o115), (116, o116), (117, o117), (118, o118), (119, o119), 
  (120, o120), (121, o121), (122, o122), (123, o123), (124, o124), (125, o125), (126, o126), (128, o128), (129, o129), (130, o130), (131, o131), (132, o132), (133, o133), (134, o134), (135, o135), (136, o136), (137, o137), (138, o138), (139, o139), (140, o140), (141, o141), (142, o142), (143, o143), (144, o144), (146, o146), (147, o147), (148, o148), (149, o149), (150, o150), (151, o151), (152, o152), (153, o153), (154, o154), (155, o155), (156, o156), (157, o157), (158, o158), (159, o159), (160, o160), (161, o161), (162, o162), (164, o164), (165, o165), (166, o166), (167, o167), (168, o168), (169, o169), (170, o170), (171, o171), (172, o172), (173, o173), (174, o174), (175, o175), (176, o176), (177, o177), (178, o178), (179, o179), (180, o180), (182, o182), (183, o183), (184, o184), (185, o185), (186, o186), (187, o187), (188, o188), (189, o189), (190, o190), (191, o191), (192, o192), (193, 
  o193), (194, o194), (195, o195), (196, o196), (197, o197), (198, o198), (200, o200), (201, o201), (202, o202), (203, o203), (204, o204), (206, o206), (207, o207), (209, o209), (210, o210), (211, o211), (214, o214), (215, o215), (216, o216), (218, o218), (219, o219), (221, o221), (222, o222), (223, o223), (225, o225), (226, o226), (228, o228), (229, o229), (230, o230), (231, o231), (232, o232), (233, o233), (234, o234), (235, o235), (236, o236), (238, o238), (239, o239), (241, o241), (242, o242), (243, o243), (246, o246), (247, o247), (248, o248), (250, o250), (251, o251), (253, o253), (254, o254), (255, o255), (257, o257), (258, o258), (260, o260), (261, o261), (262, o262), (265, o265), (266, o266), (267, o267), (269, o269), (270, o270), (272, o272), (273, o273), (274, o274), (276, o276), (277, o277), (279, o279), (280, o280), (281, o281), (283, o283), (284, o284), (286, o286), (287, o287), 
  (288, o288), (290, o290), (291, o291), (293, o293), (294, o294), (295, o295), (297, o297), (298, o298), (300, o300), (301, o301), (302, o302), (304, o304), (305, o305), (307, o307), (308, o308), (309, o309), (312, o312), (313, o313), (314, o314), (316, o316), (317, o317), (319, o319), (320, o320), (321, o321), (324, o324), (325, o325), (326, o326), (328, o328), (329, o329), (331, o331), (332, o332), (333, o333), (335, o335), (336, o336), (338, o338), (339, o339), (340, o340), (342, o342), (343, o343), (345, o345), (346, o346), (347, o347), (349, o349), (350, o350), (352, o352), (353, o353), (354, o354), (356, o356), (357, o357), (359, o359), (360, o360), (361, o361), (363, o363), (364, o364), (366, o366), (367, o367), (368, o368), (370, o370), (371, o371), (373, o373), (374, o374), (375, o375), (377, o377), (378, o378), (380, o380), (381, o381), (382, o382), (384, o384), (385, o385), (387, 
  o387), (388, o388), (389, o389), (391, o391), (392, o392), (394, o394), (395, o395), (396, o396), (398, o398), (399, o399), (401, o401), (402, o402), (403, o403), (405, o405), (406, o406), (408, o408), (409, o409)]
noncomputable def asK : List Addr := [2, 3, 15, 17, 18, 20, 21, 22, 29, 31, 32, 34, 35, 36, 37, 38, 39, 42, 49, 51, 52, 54, 55, 56, 57, 58, 61, 68, 69, 70, 73, 74, 75, 76, 77, 78, 79, 80, 81, 82, 83, 84, 85, 86, 87, 88, 89, 90, 92, 93, 94, 95, 96, 97, 98, 99, 100, 101, 102, 103, 104, 105, 106, 107, 108, 110, 111, 112, 113, 114, 115, 116, 117, 118, 119, 120, 121, 122, 123, 124, 125, 126, 128, 129, 130, 131, 132, 133, 134, 135, 136, 137, 138, 139, 140, 141, 142, 143, 144, 146, 147, 148, 149, 150, 151, 152, 153, 154, 155, 156, 157, 158, 159, 160, 161, 162, 164, 165, 166, 167, 168, 169, 170, 171, 172, 173, 174, 175, 176, 177, 178, 179, 180, 182, 183, 184, 185, 186, 187, 188, 189, 190, 191, 192, 193, 194, 195, 196, 197, 198, 200, 201, 202, 203, 204, 206, 207, 209, 210, 211, 214, 215, 216, 218, 219, 221, 222, 223, 225, 226, 228, 229, 230, 231, 232, 233, 234, 235, 236, 238, 239, 241, 242, 243, 246, 247, 248, 250, 251, 253, 254, 255, 257, 258, 260, 261, 262, 265, 266, 267, 269, 270, 272, 273, 274, 276, 277, 279, 280, 281, 283, 284, 286, 287, 288, 290, 291, 293, 294, 295, 297, 298, 300, 301, 302, 304, 305, 307, 308, 309, 312, 313, 314, 316, 317, 319, 320, 321, 324, 325, 326, 328, 329, 331, 332, 333, 335, 336, 338, 339, 340, 342, 343, 345, 346, 347, 349, 350, 352, 353, 354, 356, 357, 359, 360, 361, 363, 364, 366, 367, 368, 370, 371, 373, 374, 375, 377, 378, 380, 381, 382, 384, 385, 387, 388, 389, 391, 392, 394, 395, 396, 398, 399, 401, 402, 403, 405, 406, 408, 409]
noncomputable def dLaw : DefRec := match st 43 with
  | .FunctionDef n a b _ _ _ sc _ _ p => ⟨n, a, b, sc, p⟩
  | _ => ⟨.ofString "", ⟨[], [], none, [], [], none, []⟩, [], pw.main.scope, q0⟩
noncomputable abbrev hk : Hook := kHook heapK asK (fun _ => by kernel_rfl)
theorem open_ok : ∀ w : World, (fencedOpening treeTable pw w 9678).map (fun s => (s.heap, s.gens, s.drawn, s.toks)) = some (boot_heap w.params, Array.mk [], boot_drawn, boot_toks) :=
  boot_open (by kernel_rfl) (by decide) (fun _ => by kernel_rfl)
theorem size_ok : ∀ w : World, ((boot_heap w.params).isNs mainGlobals && (Array.mk [] : Array GenState).size == 0, (boot_heap w.params).objs.size, (boot_heap w.params).nsMap mainGlobals "__annotations__") = (true, 11, ann) := fun w => by kernel_rfl
noncomputable abbrev mods : List Str := importedModules pw.main.body
theorem lk_0 (w os) : (staticsOk mods (boot_heap w.params) (heap_fin w.params) && namesBound pw (heap_fin w.params) && gensDone (shF w os) && laidKept (boot_heap w.params) (heap_fin w.params)) = true := by kernel_rfl
theorem lk_1 (w os) : seen ((recsOf view).map (·.name)) (ownsOf view) [] { shF w os with gens := #[] } = expectedOf view := by kernel_rfl
theorem lk_2 (w : World) : (heap_fin w.params).bltView = bltViewBooted := by kernel_rfl
theorem lk_3 (w os) : ((heap_fin w.params).keysOk (looseW view loose) ((recsOf view).map (·.name)) ((litsOf view).map (·.1)) ((clssOf view (looseW view loose)).map (·.name)) && (heap_fin w.params).accountedOkI mods && (heap_fin w.params).isNs mainGlobals && (heap_fin w.params).isNs builtinsNs && tablesOk view (heap_fin w.params) && xt (shF w os) && (if true then (shF w os).gens.size == 0 else !leftWithCleanup (shF w os).gens)) = true := by kernel_rfl
theorem lk_4 (w os) : tabsOk view (shF w os) = true := by kernel_rfl
theorem lk_5 (w os) : pinSeenD view (drecsOf view) (shF w os) = pinGoodD (drecsOf view) := by kernel_rfl
theorem lk_6 (w os) : plainSeenE view (looseW view loose) (shF w os) = plainGoodE view (looseW view loose) := by kernel_rfl
theorem lk_7 (w os) : plainSeenD view loose (shF w os) = plainGoodD view loose := by kernel_rfl
theorem lk_8 (w os) : wideSeen view (shF w os) = wideGood view := by kernel_rfl
theorem lk_9 (w os) : clsSeenW view loose (shF w os) = clsGoodW view loose := by kernel_rfl
theorem lk_y (w : World) : asK.map (heap_fin w.params).get? = (heapK w.params).map fun p => some p.2 := by kernel_rfl
theorem left_ok : LeftO pw view loose xt hk.obs hk.val 9678 :=
  LeftO.of_pieces (H₀ := boot_heap) (H₁ := heap_fin) (gs₁ := Array.mk []) (d₁ := dr0) (k₁ := 1202) (m₀ := 11) (ann := ann) (M := M0) open_ok size_ok run_ok (by kernel_rfl) fun w => funext fun os =>
    congr (congrArg Prod.mk (lk_0 w os)) (congr (congrArg Prod.mk (congr (congrArg Prod.mk (lk_1 w os)) (congr (congrArg Prod.mk (lk_2 w)) (congr (congrArg Prod.mk (lk_3 w os)) (congr (congrArg Prod.mk (lk_4 w os)) (congr (congrArg Prod.mk (lk_5 w os))
      (congr (congrArg Prod.mk (lk_6 w os)) (congr (congrArg Prod.mk (lk_7 w os)) (congr (congrArg Prod.mk (lk_8 w os)) (lk_9 w os)))))))))) (lk_y w))
set_option maxHeartbeats 4000000 in
theorem said_ok : PySem.Challenge.rw_rg0230_01.wellSaid = true := by
  refine (congrFun PySem.W.Fast.te9446332074065402090 _).trans ?_
  iterate 37 refine look_both ?_ (by as_aux_lemma => kernel_rfl)
  as_aux_lemma => kernel_rfl
theorem ok_ok : (chainsOk view && opensWell theRow.prog && (frees theRow.toRowW && theRow.within.isEmpty)) = true := by kernel_rfl
theorem def_ok : defOf view theRow.name = some (dLaw, []) := by kernel_rfl
theorem the_ok : theRow.prog.theDef theRow.name = some (dLaw.params, dLaw.body, dLaw.scope) := by kernel_rfl
theorem kw_ok : kwWritten? dLaw.params.kwonlyargs dLaw.params.kw_defaults = some [] := by kernel_rfl
theorem bare_ok : theRow.prog.bare := ⟨rfl, rfl, rfl, rfl, rfl, by decide +kernel⟩
theorem prom_ok : PySem.Challenge.rw_rg0230_01.row.toRowW.promised := by w_witness2
theorem hd (call : WalkO view loose (XL view []) hk.says theRow.toRowW dLaw [] fun f vs => PySem.call f vs) : PySem.Challenge.rw_rg0230_01.Holds :=
  holds_law said_ok fun said => holds_open (r := theRow) left_ok hk.of hk.keeps (fun s e => xl_of s (Bool.and_eq_true_iff.mp e).1) XL.keeps def_ok the_ok kw_ok (fun s e => recFacts_of (Bool.and_eq_true_iff.mp e).2) rfl said ok_ok bare_ok prom_ok call
end
end Hd
end Mine
namespace Mine
/-- the texts that the bodies name -/
noncomputable def symL : List Str := (["", "0", "ab", "7", "<+>", "<->", "<", ">", "-+", "<-", "<+", "-", "+", "*", "/", "!", "neg",
  "const", "empty", "dup", "wanted", "drop", "swap", "begin", "settle", "enter", "leave", "line",
  "jump", "iffalse", "iftrue", "ifdef", "orjump", "andjump", "dorjump", "bin", "xor", "un", "text", "func", "print", "tick", "return0", "return1", "to", "died", "end", "division",
  "j", "n", "no such word", "a row of another length", "bywant", "return2", "subreturn", "loopleave", "refuse", "-nw", "w"] : List String).map Str.ofString
inductive V where
  | non
  | bool (b : Bool)
  | int (i : Int)
  | str (k : Nat)
  | txt (x : Str)
  | tup (l : List V)
  | list (a : Addr)
  | frz (l : List V)
  | rng (n : Int)
  | raw (v : Value)
noncomputable abbrev Sto := Addr → Option (List V)
section
variable (hb : Heap)
mutual
inductive Rel (h : Heap) : V → Value → Prop
  | non : Rel h .non .none
  | bool (b) : Rel h (.bool b) (.bool b)
  | int (i t) : Rel h (.int i) (.int i t)
  | str {k x} (t) : symL[k]? = some x → Rel h (.str k) (.str x t)
  | txt (x t) : Rel h (.txt x) (.str x t)
  | tup {a o xs n l} : h.get? a = some o → o.cls = .type "tuple" → o.data = .seq xs n → RelL h l xs.toList → Rel h (.tup l) (.ref a)
  | list (a) : Rel h (.list a) (.ref a)
  | frz {a xs l} : hb.IsList a xs → RelL h l xs.toList → Rel h (.frz l) (.ref a)
  | rng {a n t u v} : IsRange h a 0 n 1 t u v → Rel h (.rng n) (.ref a)
  | raw (v) : Rel h (.raw v) v
inductive RelL (h : Heap) : List V → List Value → Prop
  | nil : RelL h [] []
  | cons {d v ds vs} : Rel h d v → RelL h ds vs → RelL h (d :: ds) (v :: vs)
end
noncomputable def Keep (h' : Heap) (b : Addr) (o : Obj) : Prop :=
  h'.get? b = some o ∨ (hb.get? b = none ∧ (∃ es n, o.data = .dict es n) ∧ ∃ sl, h'.get? b = some { o with slots := sl })
/-- how long a list may grow -/
noncomputable def LB : Nat := 100000
structure Inv (σ : Sto) (h : Heap) : Prop where
  base : hb.StaysIn h
  lst : ∀ a l, σ a = some l → hb.get? a = none ∧ l.length ≤ LB ∧ ∃ xs, h.PlainList a xs ∧ RelL hb h l xs.toList
structure Mv (S : Addr → Prop) (σ : Sto) (h : Heap) (σ' : Sto) (h' : Heap) : Prop where
  keep : ∀ b o, h.get? b = some o → σ b = none → ¬ S b → Keep hb h' b o
  dom : ∀ b, σ b ≠ none → σ' b ≠ none
  fresh : ∀ b, ¬ S b → σ b = none → σ' b ≠ none → h.get? b = none
  live : ∀ b, ¬ S b → h.get? b ≠ none → h'.get? b ≠ none
noncomputable def No : Addr → Prop := fun _ => False
/-- no tuple, no range -/
noncomputable def Soft (S : Addr → Prop) (h : Heap) : Prop := ∀ b o, S b → h.get? b = some o → ¬ ((o.cls = .type "tuple" ∧ (∃ xs n, o.data = .seq xs n)) ∨ (o.cls = .type "range" ∧ ∃ vs, o.data = .fields vs))
end
variable {hb h h' h'' : Heap} {σ σ' σ'' : Sto}
theorem RelL.length {l : List V} {vs : List Value} (r : RelL hb h l vs) : l.length = vs.length := by
  induction l generalizing vs with
  | nil => cases r; rfl
  | cons d l ih => cases r with | cons _ r => simp [ih r]
theorem RelL.get {l : List V} {vs : List Value} (r : RelL hb h l vs) : ∀ {k : Nat} {d : V}, l[k]? = some d → ∃ v, vs[k]? = some v ∧ Rel hb h d v := by
  induction l generalizing vs with
  | nil => intro k d e; simp at e
  | cons x l ih =>
    intro k d e
    cases r with
    | cons q r =>
      cases k with
      | zero => simp at e; subst e; exact ⟨_, rfl, q⟩
      | succ k => simpa using ih r (by simpa using e)
theorem RelL.append {l m : List V} {vs ws : List Value} (r : RelL hb h l vs) (q : RelL hb h m ws) : RelL hb h (l ++ m) (vs ++ ws) := by
  induction l generalizing vs with
  | nil => cases r; exact q
  | cons d l ih => cases r with | cons a r => exact .cons a (ih r)
theorem RelL.one {d : V} {v : Value} (r : Rel hb h d v) : RelL hb h [d] [v] := .cons r .nil
theorem RelL.take {l : List V} {vs : List Value} (r : RelL hb h l vs) : ∀ k, RelL hb h (l.take k) (vs.take k) := by
  induction l generalizing vs with
  | nil => cases r; intro k; simp; exact .nil
  | cons d l ih => cases r with | cons a r => intro k; cases k with
    | zero => exact .nil
    | succ k => exact .cons a (ih r k)
theorem RelL.drop {l : List V} {vs : List Value} (r : RelL hb h l vs) : ∀ k, RelL hb h (l.drop k) (vs.drop k) := by
  induction l generalizing vs with
  | nil => cases r; intro k; simp; exact .nil
  | cons d l ih => cases r with | cons a r => intro k; cases k with
    | zero => exact .cons a r
    | succ k => exact ih r k
theorem RelL.set {l : List V} {vs : List Value} (r : RelL hb h l vs) {d : V} {v : Value} (q : Rel hb h d v) : ∀ k, RelL hb h (l.set k d) (vs.set k v) := by
  induction l generalizing vs with
  | nil => cases r; intro k; simp; exact .nil
  | cons d l ih => cases r with | cons a r => intro k; cases k with
    | zero => exact .cons q r
    | succ k => exact .cons a (ih r k)
theorem RelL.dropLast {l : List V} {vs : List Value} (r : RelL hb h l vs) : RelL hb h l.dropLast vs.dropLast := by
  rw [List.dropLast_eq_take, List.dropLast_eq_take, r.length]; exact r.take _
theorem Keep.refl {b : Addr} {o : Obj} (e : h.get? b = some o) : Keep hb h b o := .inl e
theorem Keep.trans {b : Addr} {o : Obj} (k : Keep hb h b o) (q : ∀ o, h.get? b = some o → Keep hb h' b o) : Keep hb h' b o := by
  rcases k with k | ⟨n, ⟨es, m, hd⟩, sl, k⟩
  · exact q o k
  · rcases q _ k with q | ⟨_, _, sl', q⟩
    · exact .inr ⟨n, ⟨es, m, hd⟩, sl, q⟩
    · exact .inr ⟨n, ⟨es, m, hd⟩, sl', q⟩
theorem Keep.seq {b : Addr} {o : Obj} {xs : Array Value} {n : Nat} (k : Keep hb h b o) (hd : o.data = .seq xs n) : h.get? b = some o := by
  rcases k with k | ⟨_, ⟨es, m, hd'⟩, _⟩
  · exact k
  · rw [hd] at hd'; cases hd'
theorem Keep.fields {b : Addr} {o : Obj} {xs : Array Value} (k : Keep hb h b o) (hd : o.data = .fields xs) : h.get? b = some o := by
  rcases k with k | ⟨_, ⟨es, m, hd'⟩, _⟩
  · exact k
  · rw [hd] at hd'; cases hd'
/-- what no list of ours is stays -/
theorem Inv.notList {a : Addr} {o : Obj} (I : Inv hb σ h) (e : h.get? a = some o) (hn : ¬ (o.cls = .type "list" ∧ ∃ xs n, o.data = .seq xs n)) : σ a = none := by
  cases q : σ a with
  | none => rfl
  | some l =>
    obtain ⟨_, _, xs, ⟨n, p⟩, _⟩ := I.lst a l q
    rw [e] at p
    cases p
    exact absurd ⟨rfl, _, _, rfl⟩ hn
theorem Inv.notBase {a : Addr} {o : Obj} (I : Inv hb σ h) (e : hb.get? a = some o) : σ a = none := by
  cases q : σ a with
  | none => rfl
  | some l => have := (I.lst a l q).1; rw [e] at this; cases this
theorem Rel.keeps (k : ∀ b o, h.get? b = some o → (o.cls = .type "tuple" ∧ (∃ xs n, o.data = .seq xs n)) ∨ (o.cls = .type "range" ∧ ∃ vs, o.data = .fields vs) → h'.get? b = some o)
    {d : V} {v : Value} (r : Rel hb h d v) : Rel hb h' d v :=
  Rel.rec (motive_1 := fun d v _ => Rel hb h' d v) (motive_2 := fun ds vs _ => RelL hb h' ds vs) .non .bool .int (fun t e => .str t e) .txt (fun e c hd _ i => .tup (k _ _ e (.inl ⟨c, _, _, hd⟩)) c hd i) .list (fun e _ i => .frz e i) (fun e => .rng (k _ _ e (.inr ⟨rfl, _, rfl⟩))) .raw .nil (fun _ _ i j => .cons i j) r
theorem RelL.keeps (k : ∀ b o, h.get? b = some o → (o.cls = .type "tuple" ∧ (∃ xs n, o.data = .seq xs n)) ∨ (o.cls = .type "range" ∧ ∃ vs, o.data = .fields vs) → h'.get? b = some o)
    {ds : List V} {vs : List Value} (r : RelL hb h ds vs) : RelL hb h' ds vs := by
  induction ds generalizing vs with
  | nil => cases r; exact .nil
  | cons d ds ih => cases r with | cons q r => exact .cons (q.keeps k) (ih r)
theorem tupleNe : (Value.type "tuple" = Value.type "list") ↔ False := by decide
theorem rangeNe : (Value.type "range" = Value.type "list") ↔ False := by decide
variable {S : Addr → Prop}
theorem soft_no : Soft No h := fun _ _ q => q.elim
theorem Mv.solid (I : Inv hb σ h) (m : Mv hb S σ h σ' h') (hS : Soft S h) : ∀ b o, h.get? b = some o → (o.cls = .type "tuple" ∧ (∃ xs n, o.data = .seq xs n)) ∨ (o.cls = .type "range" ∧ ∃ vs, o.data = .fields vs) → h'.get? b = some o := by
  intro b o e q
  have ns : ¬ S b := fun z => hS b o z e q
  rcases q with ⟨c, xs, n, hd⟩ | ⟨c, vs, hd⟩
  · exact (m.keep b o e (I.notList e fun x => by rw [c] at x; exact tupleNe.mp x.1) ns).seq hd
  · exact (m.keep b o e (I.notList e fun x => by rw [c] at x; exact rangeNe.mp x.1) ns).fields hd
theorem Mv.relS (I : Inv hb σ h) (m : Mv hb S σ h σ' h') (hS : Soft S h) {d : V} {v : Value} (r : Rel hb h d v) : Rel hb h' d v := r.keeps (m.solid I hS)
theorem Mv.relLS (I : Inv hb σ h) (m : Mv hb S σ h σ' h') (hS : Soft S h) {d : List V} {v : List Value} (r : RelL hb h d v) : RelL hb h' d v := r.keeps (m.solid I hS)
theorem Mv.rel (I : Inv hb σ h) (m : Mv hb No σ h σ' h') {d : V} {v : Value} (r : Rel hb h d v) : Rel hb h' d v := m.relS I soft_no r
theorem Mv.relL (I : Inv hb σ h) (m : Mv hb No σ h σ' h') {d : List V} {v : List Value} (r : RelL hb h d v) : RelL hb h' d v := m.relLS I soft_no r
theorem Mv.refl (σ : Sto) (h : Heap) : Mv hb S σ h σ h := ⟨fun _ _ e _ _ => .inl e, fun _ e => e, fun _ _ e q => absurd e q, fun _ _ e => e⟩
theorem Mv.mono {T : Addr → Prop} (m : Mv hb S σ h σ' h') (s : ∀ b, S b → T b) : Mv hb T σ h σ' h' := ⟨fun b o e q n => m.keep b o e q fun z => n (s b z), m.dom, fun b n => m.fresh b fun z => n (s b z), fun b n => m.live b fun z => n (s b z)⟩
theorem Mv.no (m : Mv hb No σ h σ' h') : Mv hb S σ h σ' h' := m.mono fun _ q => q.elim
/-- addresses that S spares are not needed where nothing stood -/
theorem Mv.shrink {T : Addr → Prop} (m : Mv hb S σ h σ' h') (s : ∀ b, S b → ¬ T b → h.get? b = none) : Mv hb T σ h σ' h' :=
  ⟨fun b o e q n => m.keep b o e q fun z => absurd ((s b z n).symm.trans e) nofun, m.dom, fun b n e q => by
    by_cases z : S b
    · exact s b z n
    · exact m.fresh b z e q, fun b n e => by
    by_cases z : S b
    · exact absurd (s b z n) e
    · exact m.live b z e⟩
theorem Mv.trans (m : Mv hb S σ h σ' h') (q : Mv hb S σ' h' σ'' h'') : Mv hb S σ h σ'' h'' := by
  have old : ∀ b o, ¬ S b → h.get? b = some o → σ b = none → σ' b = none := fun b o n e s => by
    cases s' : σ' b with
    | none => rfl
    | some l => have := m.fresh b n s (by rw [s']; exact nofun); rw [e] at this; cases this
  refine ⟨fun b o e s n => (m.keep b o e s n).trans fun o' e' => q.keep b o' e' (old b o n e s) n, fun b e => q.dom b (m.dom b e), fun b n e x => ?_, fun b n e => q.live b n (m.live b n e)⟩
  by_cases s' : σ' b = none
  · have := q.fresh b n s' x
    cases e' : h.get? b with
    | none => rfl
    | some o => exact absurd this (m.live b n (by rw [e']; exact nofun))
  · exact m.fresh b n e s'
/-- a heap that only grew -/
theorem keeps_live (k : ∀ b o, h.get? b = some o → h'.get? b = some o) : ∀ b, h.get? b ≠ none → h'.get? b ≠ none := fun b e q => by
  cases z : h.get? b with
  | none => exact e z
  | some o => rw [k b o z] at q; cases q
theorem same_live {a : Addr} {o : Obj} (hs : Heap.SameBut a h h') (ha : h'.get? a = some o) : ∀ b, h.get? b ≠ none → h'.get? b ≠ none := fun b e q => by
  by_cases z : b = a
  · subst z; rw [ha] at q; cases q
  · rw [hs.2 b z] at q; exact e q
theorem Mv.grown (k : ∀ b o, h.get? b = some o → h'.get? b = some o) : Mv hb S σ h σ h' := ⟨fun b o e _ _ => .inl (k b o e), fun _ e => e, fun _ _ e q => absurd e q, fun b _ => keeps_live k b⟩
theorem Inv.grown (I : Inv hb σ h) (k : ∀ b o, h.get? b = some o → h'.get? b = some o) : Inv hb σ h' :=
  ⟨fun b o e => k b o (I.base b o e), fun a l e => let ⟨n, z, xs, ⟨m, p⟩, r⟩ := I.lst a l e; ⟨n, z, xs, ⟨m, k _ _ p⟩, r.keeps fun b o e _ => k b o e⟩⟩
noncomputable def put (σ : Sto) (a : Addr) (l : List V) : Sto := fun b => if b = a then some l else σ b
@[simp] theorem put_self (σ : Sto) (a : Addr) (l : List V) : put σ a l a = some l := by simp [put]
theorem put_ne {σ : Sto} {a b : Addr} {l : List V} (n : b ≠ a) : put σ a l b = σ b := by simp [put, n]
/-- a new list -/
theorem Inv.new (I : Inv hb σ h) (k : ∀ b o, h.get? b = some o → h'.get? b = some o) {a : Addr} {l : List V} {xs : Array Value} (ha : h.get? a = none) (hp : h'.PlainList a xs) (hz : l.length ≤ LB) (r : RelL hb h' l xs.toList) :
    Inv hb (put σ a l) h' := by
  refine ⟨fun b o e => k b o (I.base b o e), fun b m e => ?_⟩
  by_cases q : b = a
  · subst q
    rw [put_self] at e
    cases e
    refine ⟨?_, hz, xs, hp, r⟩
    cases z : hb.get? b with
    | none => rfl
    | some o => have := I.base b o z; rw [ha] at this; cases this
  · rw [put_ne q] at e
    obtain ⟨n, z, ys, ⟨m, p⟩, r⟩ := I.lst b m e
    exact ⟨n, z, ys, ⟨m, k _ _ p⟩, r.keeps fun b o e _ => k b o e⟩
theorem Mv.new (k : ∀ b o, h.get? b = some o → h'.get? b = some o) {a : Addr} {l : List V} (ha : h.get? a = none) : Mv hb S σ h (put σ a l) h' := by
  refine ⟨fun b o e _ _ => .inl (k b o e), fun b e => ?_, fun b _ e q => ?_, fun b _ => keeps_live k b⟩
  · by_cases z : b = a
    · subst z; rw [put_self]; exact nofun
    · rw [put_ne z]; exact e
  · by_cases z : b = a
    · subst z; exact ha
    · rw [put_ne z] at q; exact absurd e q
/-- one list turns -/
theorem Mv.upd {a : Addr} {l l' : List V} {xs : Array Value} (e : σ a = some l) (hs : Heap.SameBut a h h') (hp : h'.PlainList a xs) : Mv hb S σ h (put σ a l') h' := by
  refine ⟨fun b o e' s _ => .inl ((hs.2 b fun z => ?_).trans e'), fun b e' => ?_, fun b _ e' q => ?_, fun b _ => let ⟨_, p⟩ := hp; same_live hs p b⟩
  · subst z; rw [e] at s; cases s
  · by_cases z : b = a
    · subst z; rw [put_self]; exact nofun
    · rw [put_ne z]; exact e'
  · by_cases z : b = a
    · subst z; rw [e] at e'; cases e'
    · rw [put_ne z] at q; exact absurd e' q
theorem Inv.upd (I : Inv hb σ h) {a : Addr} {l l' : List V} {xs : Array Value} (e : σ a = some l) (hs : Heap.SameBut a h h') (hp : h'.PlainList a xs) (hz : l'.length ≤ LB) (r : RelL hb h l' xs.toList) : Inv hb (put σ a l') h' := by
  have m : Mv hb No σ h (put σ a l') h' := .upd e hs hp
  refine ⟨fun b o e' => (hs.2 b fun z => ?_).trans (I.base b o e'), fun b m' e' => ?_⟩
  · subst z; have := I.notBase e'; rw [e] at this; cases this
  · by_cases q : b = a
    · subst q
      rw [put_self] at e'
      cases e'
      exact ⟨(I.lst b l e).1, hz, xs, hp, m.relL I r⟩
    · rw [put_ne q] at e'
      obtain ⟨n, z, ys, ⟨k, p⟩, r⟩ := I.lst b m' e'
      exact ⟨n, z, ys, ⟨k, (hs.2 b q).trans p⟩, m.relL I r⟩
end Mine
namespace Mine
noncomputable abbrev Loc := List (Option V)
noncomputable def lget : Loc → Nat → Option V
  | [], _ => none
  | x :: _, 0 => x
  | _ :: r, n + 1 => lget r n
noncomputable def lset : Loc → Nat → Option V → Loc
  | [], _, _ => []
  | _ :: r, 0, v => v :: r
  | x :: r, n + 1, v => x :: lset r n v
theorem lget_lset {ρ : Loc} {i j : Nat} {v : Option V} {d : V} (h : lget (lset ρ i v) j = some d) : (i = j ∧ v = some d) ∨ (i ≠ j ∧ lget ρ j = some d) := by
  induction ρ generalizing i j with
  | nil => simp [lset, lget] at h
  | cons x r ih =>
    cases i with
    | zero => cases j with
      | zero => simp [lset, lget] at h; exact .inl ⟨rfl, h⟩
      | succ j => simp [lset, lget] at h; exact .inr ⟨by lia, by simpa [lget] using h⟩
    | succ i => cases j with
      | zero => simp [lset, lget] at h; exact .inr ⟨by lia, by simpa [lget] using h⟩
      | succ j =>
        simp only [lset, lget] at h
        rcases ih h with ⟨e, q⟩ | ⟨e, q⟩
        · exact .inl ⟨by lia, q⟩
        · exact .inr ⟨by lia, by simpa [lget] using q⟩
noncomputable def ownA (env : Env) : Addr → Prop := fun b => b = env.locals ∨ ∃ x, (x, b) ∈ env.cells
/-- the frame's names stand as the letters say -/
structure EnvR (hb : Heap) (nm : List Str) (env : Env) (ρ : Loc) (h : Heap) : Prop where
  kind : env.scope.kind = .function
  gl : env.globals = mainGlobals
  bl : env.builtins = builtinsNs
  noL : hb.get? env.locals = none
  ns : ∃ m, h.Ns env.locals m ∧ ∀ (i : Nat) (x : Str) (d : V), nm[i]? = some x → lget ρ i = some d → env.kindOf x = some .local → ∃ v, m x = some v ∧ Rel hb h d v
  cells : ∀ x c, env.cells.lookup x = some c → hb.get? c = none ∧ ∃ ov, h.IsCell c ov ∧ ∀ (i : Nat) (d : V), nm[i]? = some x → lget ρ i = some d → (env.kindOf x = some .cell ∨ env.kindOf x = some .free) → ∃ v, ov = some v ∧ Rel hb h d v
  has : ∀ x, (env.kindOf x = some .cell ∨ env.kindOf x = some .free) → (env.cells.lookup x).isSome = true
  apart : env.cells.Pairwise fun x y => x.2 ≠ y.2
  allc : ∀ x c, (x, c) ∈ env.cells → hb.get? c = none ∧ ∃ ov, h.IsCell c ov
  nodup : nm.Nodup
/-- the frames that stand open -/
noncomputable def FrOk (hb : Heap) (fr : List Env) (h : Heap) : Prop :=
  ∀ e ∈ fr, e.scope.kind ≠ .module ∧ ∃ L o es n, e.frame = some L ∧ hb.get? L = none ∧ h.get? L = some o ∧ o.data = .dict es n
structure SS (hb : Heap) (nm : List Str) (fr : List Env) (env : Env) (σ : Sto) (ρ : Loc) (h : Heap) : Prop where
  inv : Inv hb σ h
  env : EnvR hb nm env ρ h
  fr : FrOk hb fr h
/-- what the activation has room for -/
structure At (A : Around) (fr : List Env) (n : Nat) : Prop where
  handled : A.handled = none
  frames : A.frames = some fr
  guards : A.guards = some []
  depth : A.depth + n < recursionLimit
  units : A.units + 8 * n + 100 < cLine
variable {hb h h' : Heap} {σ σ' : Sto} {nm : List Str} {fr : List Env} {env : Env} {ρ : Loc} {S : Addr → Prop}
theorem Keep.data {b : Addr} {o : Obj} (k : Keep hb h b o) : ∃ o', h.get? b = some o' ∧ o'.data = o.data ∧ o'.cls = o.cls := by
  rcases k with k | ⟨_, _, sl, k⟩
  · exact ⟨_, k, rfl, rfl⟩
  · exact ⟨_, k, rfl, rfl⟩
theorem Keep.cell {b : Addr} {v : Option Value} (x : h.IsCell b v) (k : ∀ o, h.get? b = some o → Keep hb h' b o) : h'.IsCell b v := by
  obtain ⟨o, e, hd⟩ := x
  obtain ⟨o', e', hd', _⟩ := (k o e).data
  exact ⟨o', e', hd'.trans hd⟩
theorem Keep.ns {b : Addr} {m : Str → Option Value} (x : h.Ns b m) (k : ∀ o, h.get? b = some o → Keep hb h' b o) : h'.Ns b m := by
  obtain ⟨o, es, ep, e, hd, r⟩ := x
  obtain ⟨o', e', hd', _⟩ := (k o e).data
  exact ⟨o', es, ep, e', hd'.trans hd, r⟩
theorem not_list_dict {o : Obj} {es : Array DictEntry} {n : Nat} (hd : o.data = .dict es n) : ¬ (o.cls = .type "list" ∧ ∃ xs n, o.data = .seq xs n) := by
  rintro ⟨_, xs, k, e⟩; rw [hd] at e; cases e
theorem not_list_cell {o : Obj} {v : Option Value} (hd : o.data = .cell v) : ¬ (o.cls = .type "list" ∧ ∃ xs n, o.data = .seq xs n) := by
  rintro ⟨_, xs, k, e⟩; rw [hd] at e; cases e
theorem soft_of {o : Obj} (x : (∃ es n, o.data = .dict es n) ∨ ∃ v, o.data = .cell v) : ¬ ((o.cls = .type "tuple" ∧ (∃ xs n, o.data = .seq xs n)) ∨ (o.cls = .type "range" ∧ ∃ vs, o.data = .fields vs)) := fun q => by
  rcases x with ⟨es, n, y⟩ | ⟨v, y⟩ <;> rcases q with ⟨_, xs, k, hd⟩ | ⟨_, vs, hd⟩ <;> (rw [y] at hd; cases hd)
theorem EnvR.softOwn (R : EnvR hb nm env ρ h) : Soft (ownA env) h := by
  intro b o s e
  refine soft_of ?_
  rcases s with rfl | ⟨x, s⟩
  · obtain ⟨m, ⟨o', es, ep, e', hd, _⟩, _⟩ := R.ns
    rw [e] at e'; cases e'
    exact .inl ⟨es, ep, hd⟩
  · obtain ⟨_, ov, o', e', hd⟩ := R.allc x b s
    rw [e] at e'; cases e'
    exact .inr ⟨ov, hd⟩
/-- only iterators and their like turn -/
noncomputable def Side (S : Addr → Prop) (h : Heap) : Prop := ∀ b o, S b → h.get? b = some o → o.cls ≠ .type "range" ∧ ∃ xs, o.data = .fields xs
theorem side_no : Side No h := fun _ _ q => q.elim
theorem Side.soft (q : Side S h) : Soft S h := fun b o s e z => by
  obtain ⟨c, xs, hd⟩ := q b o s e
  rcases z with ⟨_, ys, n, hd'⟩ | ⟨c', _⟩
  · rw [hd] at hd'; cases hd'
  · exact c c'
theorem Side.notDict (q : Side S h) {b : Addr} {o : Obj} {es : Array DictEntry} {n : Nat} (e : h.get? b = some o) (hd : o.data = .dict es n) : ¬ S b := fun s => by
  obtain ⟨c, xs, hd'⟩ := q b o s e; rw [hd] at hd'; cases hd'
theorem Side.notCell (q : Side S h) {b : Addr} {o : Obj} {v : Option Value} (e : h.get? b = some o) (hd : o.data = .cell v) : ¬ S b := fun s => by
  obtain ⟨c, xs, hd'⟩ := q b o s e; rw [hd] at hd'; cases hd'
theorem EnvR.mvX (I : Inv hb σ h) (R : EnvR hb nm env ρ h) (m : Mv hb S σ h σ' h') (sd : Side S h) : EnvR hb nm env ρ h' where
  kind := R.kind
  gl := R.gl
  bl := R.bl
  noL := R.noL
  ns := by
    obtain ⟨q, hn, hv⟩ := R.ns
    obtain ⟨o, es, ep, e, hd, _⟩ := id hn
    refine ⟨q, Keep.ns hn fun o' e' => m.keep _ _ e' (I.notList e' ?_) ?_, fun i x d h1 h2 h3 => ?_⟩
    · rw [e] at e'; cases e'; exact not_list_dict hd
    · exact sd.notDict e hd
    · obtain ⟨v, a, b⟩ := hv i x d h1 h2 h3
      exact ⟨v, a, m.relS I sd.soft b⟩
  cells := fun x c e => by
    obtain ⟨n, ov, hc, r⟩ := R.cells x c e
    refine ⟨n, ov, Keep.cell hc fun o' e' => m.keep _ _ e' (I.notList e' ?_) ?_, fun i d h1 h2 h3 => ?_⟩
    · obtain ⟨o, e2, hd⟩ := hc; rw [e2] at e'; cases e'; exact not_list_cell hd
    · obtain ⟨o, e2, hd⟩ := hc; exact sd.notCell e2 hd
    · obtain ⟨v, a, b⟩ := r i d h1 h2 h3
      exact ⟨v, a, m.relS I sd.soft b⟩
  has := R.has
  apart := R.apart
  allc := fun x c e => by
    obtain ⟨n, ov, hc⟩ := R.allc x c e
    refine ⟨n, ov, Keep.cell hc fun o' e' => m.keep _ _ e' (I.notList e' ?_) ?_⟩
    · obtain ⟨o, e2, hd⟩ := hc; rw [e2] at e'; cases e'; exact not_list_cell hd
    · obtain ⟨o, e2, hd⟩ := hc; exact sd.notCell e2 hd
  nodup := R.nodup
theorem EnvR.mv (I : Inv hb σ h) (R : EnvR hb nm env ρ h) (m : Mv hb No σ h σ' h') : EnvR hb nm env ρ h' := R.mvX I m side_no
theorem FrOk.mvX (I : Inv hb σ h) (F : FrOk hb fr h) (m : Mv hb S σ h σ' h') (sd : Side S h) : FrOk hb fr h' := fun e he => by
  obtain ⟨k, L, o, es, n, a, b, c, d⟩ := F e he
  obtain ⟨o', e', hd', _⟩ := (m.keep L o c (I.notList c (not_list_dict d)) (sd.notDict c d)).data
  exact ⟨k, L, o', es, n, a, b, e', hd'.trans d⟩
theorem FrOk.mv (I : Inv hb σ h) (F : FrOk hb fr h) (m : Mv hb No σ h σ' h') : FrOk hb fr h' := F.mvX I m side_no
theorem SS.mvX (R : SS hb nm fr env σ ρ h) (m : Mv hb S σ h σ' h') (I' : Inv hb σ' h') (sd : Side S h) : SS hb nm fr env σ' ρ h' := ⟨I', R.env.mvX R.inv m sd, R.fr.mvX R.inv m sd⟩
theorem SS.mv (R : SS hb nm fr env σ ρ h) (m : Mv hb No σ h σ' h') (I' : Inv hb σ' h') : SS hb nm fr env σ' ρ h' := R.mvX m I' side_no
/-- the frames under a statement's turn -/
theorem FrOk.mvS {ρ' : Loc} (I : Inv hb σ h) (F : FrOk hb fr h) (R : EnvR hb nm env ρ h) (R' : EnvR hb nm env ρ' h') (m : Mv hb (ownA env) σ h σ' h') : FrOk hb fr h' := fun e he => by
  obtain ⟨k, L, o, es, n, a, b, c, d⟩ := F e he
  by_cases s : ownA env L
  · rcases s with rfl | ⟨x, s⟩
    · obtain ⟨_, ⟨o', es', ep', e', hd', _⟩, _⟩ := R'.ns
      exact ⟨k, _, o', es', ep', a, b, e', hd'⟩
    · obtain ⟨_, ov, o', e', hd⟩ := R.allc x L s
      rw [c] at e'; cases e'; rw [d] at hd; cases hd
  · obtain ⟨o', e', hd', _⟩ := (m.keep L o c (I.notList c (not_list_dict d)) s).data
    exact ⟨k, L, o', es, n, a, b, e', hd'.trans d⟩
/-- what a name holds -/
theorem EnvR.load (R : EnvR hb nm env ρ h) {i : Nat} {x : Str} {d : V} (hi : nm[i]? = some x) (hd : lget ρ i = some d)
    (hk : env.kindOf x = some .local ∨ env.kindOf x = some .cell ∨ env.kindOf x = some .free) (hdb : (x == ("__debug__" : Str)) = false) (hcd : (x == ("__classdict__" : Str)) = false) :
    ∃ v, Rel hb h d v ∧ ∀ (M : Model) (A : Around) (E : Value → Shared → Prop) (Q : Value → Shared → Prop) (s : Shared) (pos : Pos), s.heap = h → Q v s → wpAny M A (eval (.Name x pos) env) Q E s := by
  rcases hk with hk | hk
  · obtain ⟨m, hn, hv⟩ := R.ns
    obtain ⟨v, e, r⟩ := hv i x d hi hd hk
    refine ⟨v, r, fun M A E Q s pos hs q => ?_⟩
    subst hs
    exact wpAny_Name (wpAny_loadName_local R.kind hk hn e q) hdb
  · obtain ⟨c, hc⟩ := Option.isSome_iff_exists.mp (R.has x hk)
    obtain ⟨_, ov, cc, r⟩ := R.cells x c hc
    obtain ⟨v, rfl, r2⟩ := r i d hi hd hk
    refine ⟨v, r2, fun M A E Q s pos hs q => ?_⟩
    subst hs
    rcases hk with hk | hk
    · exact wpAny_Name (wpAny_loadName_cell R.kind hk hc cc q) hdb
    · exact wpAny_Name (wpAny_loadName_free R.kind hk hc cc q hcd) hdb
theorem nodup_get {nm : List Str} (hn : nm.Nodup) {i j : Nat} {x : Str} (hi : nm[i]? = some x) (hj : nm[j]? = some x) : i = j := by
  obtain ⟨h1, e1⟩ := List.getElem?_eq_some_iff.mp hi
  obtain ⟨h2, e2⟩ := List.getElem?_eq_some_iff.mp hj
  exact (List.getElem_inj (h₀ := h1) (h₁ := h2) hn).mp (e1.trans e2.symm)
/-- a local name is stored -/
theorem SS.storeL (R : SS hb nm fr env σ ρ h) {i : Nat} {x : Str} {d : V} {v : Value} (hi : nm[i]? = some x) (r : Rel hb h d v) (hk : env.kindOf x = some .local)
    {M : Model} {A : Around} {E : Value → Shared → Prop} {Q : Unit → Shared → Prop} {s : Shared} (hs : s.heap = h)
    (q : ∀ h' tk, Mv hb (fun b => b = env.locals) σ h σ h' → SS hb nm fr env σ (lset ρ i (some d)) h' → Q () { s with heap := h', toks := tk }) : wpAny M A (storeName env x v) Q E s := by
  subst hs
  have I := R.inv
  have EN := R.env
  obtain ⟨m, hn, hv⟩ := EN.ns
  obtain ⟨oL, es, ep, eL, hdL, _⟩ := id hn
  have nL := I.notList eL (not_list_dict hdL)
  have cL : ∀ y c, (y, c) ∈ env.cells → c ≠ env.locals := fun y c e z => by
    obtain ⟨_, ov, o', e', hd'⟩ := EN.allc y c e
    rw [z, eL] at e'; cases e'; rw [hdL] at hd'; cases hd'
  -- one address turns
  have turn : ∀ (a : Addr) (h' : Heap), ownA env a → (∃ o, h'.get? a = some o) → Heap.SameBut a s.heap h' → Mv hb (fun b => b = a) σ s.heap σ h' ∧ Inv hb σ h' := by
    intro a h' ha ⟨o, he⟩ hsb
    have na : hb.get? a = none := by
      rcases ha with rfl | ⟨y, ha⟩
      · exact EN.noL
      · exact (EN.allc y a ha).1
    have ns : σ a = none := by
      rcases ha with rfl | ⟨y, ha⟩
      · exact nL
      · obtain ⟨_, ov, o', e', hd'⟩ := EN.allc y a ha
        exact I.notList e' (not_list_cell hd')
    have m : Mv hb (fun b => b = a) σ s.heap σ h' := ⟨fun b o' e' _ n => .inl ((hsb.2 b fun z => n z).trans e'), fun _ e => e, fun _ _ e q => absurd e q, fun b _ => same_live hsb he b⟩
    refine ⟨m, fun b o' e' => (hsb.2 b fun z => by rw [z, na] at e'; cases e').trans (I.base b o' e'), fun b l e' => ?_⟩
    obtain ⟨n, z, xs, ⟨k, p⟩, rr⟩ := I.lst b l e'
    exact ⟨n, z, xs, ⟨k, (hsb.2 b fun z => by rw [z, ns] at e'; cases e').trans p⟩, m.relLS I (fun b o z e => EN.softOwn b o (z ▸ ha) e) rr⟩
  have so : Soft (fun b => b = env.locals) s.heap := fun b o z e => EN.softOwn b o (.inl z) e
  refine wpAny_storeName_local hk hn (fun h' hn' hsb => ?_) (by rw [EN.kind]; rfl)
  obtain ⟨mm, I'⟩ := turn env.locals h' (.inl rfl) (let ⟨o, _, _, e, _⟩ := hn'; ⟨o, e⟩) hsb
  have EN' : EnvR hb nm env (lset ρ i (some d)) h' := by
    refine ⟨EN.kind, EN.gl, EN.bl, EN.noL, ⟨_, hn', fun j y d' h1 h2 h3 => ?_⟩, fun y c e => ?_, EN.has, EN.apart, fun y c e => ?_, EN.nodup⟩
    · rcases lget_lset h2 with ⟨rfl, e⟩ | ⟨ne, e⟩
      · cases e
        rw [hi] at h1; cases h1
        exact ⟨v, by simp, mm.relS I so r⟩
      · have : y ≠ x := fun z => ne (nodup_get EN.nodup hi (z ▸ h1))
        obtain ⟨v', a, b⟩ := hv j y d' h1 e h3
        exact ⟨v', by simp [this, a], mm.relS I so b⟩
    · obtain ⟨nn, ov, cc, rr⟩ := EN.cells y c e
      refine ⟨nn, ov, cc.sameBut hsb (cL y c (mem_of_lookup e)), fun j d' h1 h2 h3 => ?_⟩
      rcases lget_lset h2 with ⟨rfl, e'⟩ | ⟨ne, e'⟩
      · rw [hi] at h1; cases h1
        rcases h3 with h3 | h3 <;> (rw [hk] at h3; cases h3)
      · obtain ⟨v', a, b⟩ := rr j d' h1 e' h3
        exact ⟨v', a, mm.relS I so b⟩
    · obtain ⟨nn, ov, cc⟩ := EN.allc y c e
      exact ⟨nn, ov, cc.sameBut hsb (cL y c e)⟩
  exact q h' _ mm ⟨I', EN', R.fr.mvS I EN EN' (mm.mono fun b z => .inl z)⟩
/-- a name is stored -/
theorem SS.store (R : SS hb nm fr env σ ρ h) {i : Nat} {x : Str} {d : V} {v : Value} (hi : nm[i]? = some x) (r : Rel hb h d v) (hk : env.kindOf x = some .local ∨ env.kindOf x = some .cell)
    {M : Model} {A : Around} {E : Value → Shared → Prop} {Q : Unit → Shared → Prop} {s : Shared} (hs : s.heap = h)
    (q : ∀ h' tk, Mv hb (ownA env) σ h σ h' → SS hb nm fr env σ (lset ρ i (some d)) h' → Q () { s with heap := h', toks := tk }) : wpAny M A (storeName env x v) Q E s := by
  rcases hk with hk | hk
  · exact R.storeL hi r hk hs fun h' tk m S' => q h' tk (m.mono fun b z => .inl z) S'
  subst hs
  have I := R.inv
  have EN := R.env
  obtain ⟨m, hn, hv⟩ := EN.ns
  obtain ⟨oL, es, ep, eL, hdL, _⟩ := id hn
  have nL := I.notList eL (not_list_dict hdL)
  have cL : ∀ y c, (y, c) ∈ env.cells → c ≠ env.locals := fun y c e z => by
    obtain ⟨_, ov, o', e', hd'⟩ := EN.allc y c e
    rw [z, eL] at e'; cases e'; rw [hdL] at hd'; cases hd'
  -- one address turns
  have turn : ∀ (a : Addr) (h' : Heap), ownA env a → (∃ o, h'.get? a = some o) → Heap.SameBut a s.heap h' → Mv hb (fun b => b = a) σ s.heap σ h' ∧ Inv hb σ h' := by
    intro a h' ha ⟨o, he⟩ hsb
    have na : hb.get? a = none := by
      rcases ha with rfl | ⟨y, ha⟩
      · exact EN.noL
      · exact (EN.allc y a ha).1
    have ns : σ a = none := by
      rcases ha with rfl | ⟨y, ha⟩
      · exact nL
      · obtain ⟨_, ov, o', e', hd'⟩ := EN.allc y a ha
        exact I.notList e' (not_list_cell hd')
    have m : Mv hb (fun b => b = a) σ s.heap σ h' := ⟨fun b o' e' _ n => .inl ((hsb.2 b fun z => n z).trans e'), fun _ e => e, fun _ _ e q => absurd e q, fun b _ => same_live hsb he b⟩
    refine ⟨m, fun b o' e' => (hsb.2 b fun z => by rw [z, na] at e'; cases e').trans (I.base b o' e'), fun b l e' => ?_⟩
    obtain ⟨n, z, xs, ⟨k, p⟩, rr⟩ := I.lst b l e'
    exact ⟨n, z, xs, ⟨k, (hsb.2 b fun z => by rw [z, ns] at e'; cases e').trans p⟩, m.relLS I (fun b o z e => EN.softOwn b o (z ▸ ha) e) rr⟩
  obtain ⟨c, hc⟩ := Option.isSome_iff_exists.mp (EN.has x (.inl hk))
  have so : Soft (fun b => b = c) s.heap := fun b o z e => EN.softOwn b o (.inr ⟨x, z ▸ mem_of_lookup hc⟩) e
  obtain ⟨ncb, ov, cc, rr⟩ := EN.cells x c hc
  refine wpAny_storeName_cell EN.kind hk hc cc fun h' hc' hsb => ?_
  have hm := mem_of_lookup hc
  obtain ⟨mm, I'⟩ := turn c h' (.inr ⟨x, hm⟩) (let ⟨o, e, _⟩ := hc'; ⟨o, e⟩) hsb
  have EN' : EnvR hb nm env (lset ρ i (some d)) h' := by
    refine ⟨EN.kind, EN.gl, EN.bl, EN.noL, ⟨m, hn.sameBut hsb (Ne.symm (cL x c hm)), fun j y d' h1 h2 h3 => ?_⟩, fun y c' e => ?_, EN.has, EN.apart, fun y c' e => ?_, EN.nodup⟩
    · rcases lget_lset h2 with ⟨rfl, e⟩ | ⟨ne, e⟩
      · rw [hi] at h1; cases h1
        rw [hk] at h3; cases h3
      · obtain ⟨v', a, b⟩ := hv j y d' h1 e h3
        exact ⟨v', a, mm.relS I so b⟩
    · by_cases z : c' = c
      · have yx := name_of_addr EN.apart (z ▸ mem_of_lookup e) hm
        subst yx
        subst z
        refine ⟨ncb, _, hc', fun j d' h1 h2 h3 => ?_⟩
        rcases lget_lset h2 with ⟨rfl, e'⟩ | ⟨ne, e'⟩
        · cases e'
          exact ⟨v, rfl, mm.relS I so r⟩
        · exact absurd (nodup_get EN.nodup hi h1) ne
      · obtain ⟨nn, ov', cc', rr'⟩ := EN.cells y c' e
        refine ⟨nn, ov', cc'.sameBut hsb z, fun j d' h1 h2 h3 => ?_⟩
        rcases lget_lset h2 with ⟨rfl, e'⟩ | ⟨ne, e'⟩
        · rw [hi] at h1; cases h1
          rw [hc] at e; cases e
          exact absurd rfl z
        · obtain ⟨v', a, b⟩ := rr' j d' h1 e' h3
          exact ⟨v', a, mm.relS I so b⟩
    · by_cases z : c' = c
      · subst z; exact ⟨ncb, _, hc'⟩
      · obtain ⟨nn, ov', cc'⟩ := EN.allc y c' e
        exact ⟨nn, ov', cc'.sameBut hsb z⟩
  exact q h' _ (mm.mono fun b z => .inr ⟨x, z ▸ hm⟩) ⟨I', EN', R.fr.mvS I EN EN' (mm.mono fun b z => .inr ⟨x, z ▸ hm⟩)⟩
end Mine
namespace Mine
inductive Isi where | int | str | tup
inductive Bi where | len | range | list | tuple | repr | abs | sum
inductive Mi where | append | pop | extend
/-- plain reckoning -/
inductive AE where
  | var (i : Nat)
  | int (i : Int)
  | bin (op : Operator) (a b : AE)
/-! ## the names of the top -/
noncomputable abbrev gp (x : Str) (v : V) : Str × V := (x, v)
noncomputable def GLV : List (Str × V) := [gp "truth" (.raw (.ref 21)),
  gp "Die" (.raw (.ref 58)),
  gp "SHAPES" (.raw (.ref 73)),
  gp "LEAVING" (.tup [.str 28, .str 52, .str 42, .str 43, .str 53, .str 54, .str 55, .str 56]),
  gp "shape_of" (.raw (.ref 210)),
  gp "jumps_of" (.raw (.ref 215)),
  gp "with_jumps" (.raw (.ref 222)),
  gp "goes_on" (.raw (.ref 229)),
  gp "PUSHES" (.tup [.str 17, .str 18, .str 19, .str 20]),
  gp "IDLE_PAIRS" (.tup [.tup [.str 22, .str 22], .tup [.str 23, .str 24], .tup [.str 25, .str 26]]),
  gp "BRANCHES" (.tup [.str 29, .str 30, .str 31, .str 32, .str 33, .str 34]),
  gp "goal_marks" (.raw (.ref 242)),
  gp "squeezed_rows" (.raw (.ref 247)),
  gp "taken_consts" (.raw (.ref 254)),
  gp "folded_value" (.raw (.ref 261)),
  gp "fold_rows" (.raw (.ref 266)),
  gp "is_taken" (.raw (.ref 273)),
  gp "branch_rows" (.raw (.ref 280)),
  gp "is_idle" (.raw (.ref 287)),
  gp "pair_rows" (.raw (.ref 294)),
  gp "landing_row" (.raw (.ref 301)),
  gp "chained" (.raw (.ref 308)),
  gp "thread_rows" (.raw (.ref 313)),
  gp "reached_rows" (.raw (.ref 320)),
  gp "live_rows" (.raw (.ref 325)),
  gp "improved_rows" (.raw (.ref 332)),
  gp "_law_draw" (.raw (.ref 339)),
  gp "_law_number" (.raw (.ref 346)),
  gp "_law_text" (.raw (.ref 353)),
  gp "_law_compute" (.raw (.ref 360)),
  gp "_law_jump" (.raw (.ref 367)),
  gp "_law_run" (.raw (.ref 374)),
  gp "_law_expr" (.raw (.ref 381)),
  gp "_law_statement" (.raw (.ref 388)),
  gp "_law_rows" (.raw (.ref 395)),
  gp "_law_passed" (.raw (.ref 402))]
/-! ## what the operations give -/
noncomputable def SmallI (a : Int) : Prop := a.natAbs < 2 ^ 1000
noncomputable def pyAt (l : List V) (i : Int) : Option V := if 0 ≤ i then l[i.toNat]? else if 0 ≤ i + l.length then l[(i + l.length).toNat]? else none
/-- data without bools, no deeper than n -/
noncomputable def V.dat : Nat → V → Bool
  | _, .non => true
  | _, .int _ => true
  | _, .str _ => true
  | n + 1, .tup l => l.all (V.dat n)
  | _, _ => false
mutual
noncomputable def veq : V → V → Bool
  | .non, .non => true
  | .int i, .int j => i == j
  | .str i, .str j => i == j
  | .tup l, .tup m => veqs l m
  | _, _ => false
noncomputable def veqs : List V → List V → Bool
  | [], [] => true
  | d :: l, e :: m => veq d e && veqs l m
  | _, _ => false
end
/-! ## conditions: one constructor each, no copy of the rest -/
theorem ff {P : Prop} (h : false = true) : P := nomatch h
theorem nns {α : Type} {x : α} {P : Prop} (h : (none : Option α) = some x) : P := nomatch h
theorem nom {α : Type} {x : α} {P : Prop} (h : x ∈ ([] : List α)) : P := nomatch h
/-- a barrier that no unifier looks through -/
structure Bar (P : Prop) : Prop where
  un : P
theorem oB {P : Prop} (h : P) : Bar P := ⟨h⟩
noncomputable def ifB (b : Bool) (T F : Prop) : Prop := match b with | true => T | false => F
inductive Get1 (σ : Sto) (a : Addr) (Q : List V → Prop) : Prop | mk (l : List V) (h : σ a = some l) (k : Q l)
inductive Two (σ : Sto) (a b : Addr) (Q : List V → List V → Prop) : Prop | mk (l m : List V) (h1 : σ a = some l) (h2 : σ b = some m) (k : Q l m)
inductive CatS (i j : Nat) (Q : Nat → Prop) : Prop | mk (k : Nat) (x y : Str) (h1 : symL[i]? = some x) (h2 : symL[j]? = some y) (h3 : symL[k]? = some (x ++ y)) (q : Q k)
inductive IdxL (σ : Sto) (a : Addr) (i : Int) (Q : V → Prop) : Prop | mk (l : List V) (d : V) (h1 : σ a = some l) (h2 : pyAt l i = some d) (k : Q d)
inductive IdxT (l : List V) (i : Int) (Q : V → Prop) : Prop | mk (d : V) (lo : -1000000 ≤ i) (hi : i ≤ 1000000) (h : pyAt l i = some d) (k : Q d)
noncomputable def onI (x : V) (k : Int → Prop) : Prop := match x with | .int i => k i | _ => False
/-- the kinds that the operations tell apart -/
noncomputable def V.pick (x : V) (fi : Int → Prop) (fs : Nat → Prop) (fl : Addr → Prop) (ft : List V → Prop) (ff : List V → Prop) : Prop := match x with
  | .int i => fi i
  | .str k => fs k
  | .list a => fl a
  | .tup l => ft l
  | .frz l => ff l
  | _ => False
noncomputable abbrev no1 {α : Type} : α → Prop := fun _ => False
noncomputable def onS (x : V) (k : Nat → Prop) : Prop := x.pick no1 k no1 no1 no1
noncomputable def onL (x : V) (k : Addr → Prop) : Prop := x.pick no1 no1 k no1 no1
noncomputable def vTruth (v : V) (σ : Sto) (Q : Bool → Prop) : Prop := match v with
  | .bool b => Q b
  | .list a => Get1 σ a fun l => Q (!l.isEmpty)
  | _ => False
/-- a new list -/
noncomputable abbrev New (σ : Sto) (l : List V) (Q : V → Sto → Prop) : Prop := ∀ c, σ c = none → Q (.list c) (put σ c l)
noncomputable def vBin (op : Operator) (x y : V) (σ : Sto) (Q : V → Sto → Prop) : Prop := match op with
  | .Add => x.pick (fun a => onI y fun b => Q (.int (a + b)) σ) (fun i => onS y fun j => CatS i j fun k => Q (.str k) σ)
      (fun a => onL y fun b => Two σ a b fun l m => l.length + m.length ≤ LB ∧ New σ (l ++ m) Q) no1 no1
  | .Sub => onI x fun a => onI y fun b => Q (.int (a - b)) σ
  | .Mult => onI x fun a => onI y fun b => SmallI a ∧ SmallI b ∧ Q (.int (a * b)) σ
  | .FloorDiv => onI x fun a => onI y fun b => b ≠ 0 ∧ SmallI a ∧ Q (.int (a.fdiv b)) σ
  | .Mod => onI x fun a => onI y fun b => b ≠ 0 ∧ Q (.int (a.fmod b)) σ
  | _ => False
noncomputable def datEq (x y : V) (Q : Bool → Prop) : Prop := match V.dat 4 x && V.dat 4 y with
  | true => Q (veq x y)
  | false => False
/-- == -/
noncomputable def vEq (x y : V) (σ : Sto) (Q : Bool → Prop) : Prop := match x with
  | .bool a => (match y with | .bool b => Q (a == b) | _ => False)
  | .txt a => (match y with | .txt b => Q (a == b) | _ => False)
  | .list a => onL y fun b => Two σ a b fun l m => l.all (V.dat 4) = true ∧ m.all (V.dat 4) = true ∧ Q (veqs l m)
  | x => datEq x y Q
/-- is x among them -/
noncomputable def anyv (x : V) : List V → Bool
  | [] => false
  | [y] => veq y x
  | y :: z :: r => veq y x || anyv x (z :: r)
theorem anyv_eq {x : V} : ∀ l : List V, anyv x l = l.any fun y => veq y x
  | [] => rfl
  | [y] => (Bool.or_false _).symm
  | y :: z :: r => congrArg (veq y x || ·) (anyv_eq (z :: r))
noncomputable def vIn (x y : V) (Q : Bool → Prop) : Prop := match y with
  | .tup l => match l.all (V.dat 4) && V.dat 4 x with
    | true => Q (anyv x l)
    | false => False
  | _ => False
theorem vIn_inv {x : V} {l : List V} {Q : Bool → Prop} (h : vIn x (.tup l) Q) : l.all (V.dat 4) = true ∧ V.dat 4 x = true ∧ Q (l.any fun y => veq y x) := by
  dsimp only [vIn] at h
  cases e : l.all (V.dat 4) && V.dat 4 x with
  | false => rw [e] at h; exact h.elim
  | true => rw [e, anyv_eq] at h; exact ⟨(Bool.and_eq_true_iff.mp e).1, (Bool.and_eq_true_iff.mp e).2, h⟩
theorem dats_inv {x y : V} {P : Prop} (h : match V.dat 4 x && V.dat 4 y with | true => P | false => False) : V.dat 4 x = true ∧ V.dat 4 y = true ∧ P := by
  cases e : V.dat 4 x && V.dat 4 y with
  | false => rw [e] at h; exact h.elim
  | true => rw [e] at h; exact ⟨(Bool.and_eq_true_iff.mp e).1, (Bool.and_eq_true_iff.mp e).2, h⟩
noncomputable def vIsNone (x : V) : Bool := match x with | .non => true | _ => false
noncomputable def vIs (x y : V) (Q : Bool → Prop) : Prop := match y with
  | .non => (match x with | .raw _ => False | x => Q (vIsNone x))
  | _ => False
noncomputable def vCmp (op : CmpOp) (x y : V) (σ : Sto) (Q : Bool → Prop) : Prop := match op with
  | .Eq => vEq x y σ Q
  | .NotEq => vEq x y σ fun b => Q (!b)
  | .In => vIn x y Q
  | .NotIn => vIn x y fun b => Q (!b)
  | .Is => vIs x y Q
  | .IsNot => vIs x y fun b => Q (!b)
  | .Lt => onI x fun a => onI y fun b => Q (decide (a < b))
  | .LtE => onI x fun a => onI y fun b => Q (decide (a ≤ b))
  | .Gt => onI x fun a => onI y fun b => Q (decide (b < a))
  | .GtE => onI x fun a => onI y fun b => Q (decide (b ≤ a))
/-- the sign of a written text -/
noncomputable def SymAt (k : Nat) (i : Int) (k' : Nat) : Prop := ∃ x y c, symL[k]? = some x ∧ symL[k']? = some y ∧ 0 ≤ i ∧ x.cps[i.toNat]? = some c ∧ y = ⟨#[c]⟩
noncomputable def vIdx (x y : V) (σ : Sto) (Q : V → Prop) : Prop := x.pick no1
  (fun k => match y with
    | .int i => ∃ k', i ≤ 1000000 ∧ SymAt k i k' ∧ Q (.str k')
    | .bool b => ∃ k', SymAt k (if b then 1 else 0) k' ∧ Q (.str k')
    | _ => False)
  (fun a => onI y fun i => IdxL σ a i Q) (fun l => onI y fun i => IdxT l i Q) no1
/-- where a cut begins or ends -/
noncomputable def cutAt (i : Int) (n : Nat) : Nat := if i < 0 then (i + n).toNat else i.toNat
noncomputable def BigI (i : Int) : Prop := -1000000 ≤ i ∧ i ≤ 1000000
noncomputable def vSlL (x y : V) (σ : Sto) (Q : V → Sto → Prop) : Prop := onL x fun a => onI y fun i => Get1 σ a fun l => BigI i ∧ New σ (l.drop (cutAt i l.length)) Q
noncomputable def vSlU (x y : V) (σ : Sto) (Q : V → Sto → Prop) : Prop := x.pick no1 no1 (fun a => onI y fun i => Get1 σ a fun l => BigI i ∧ New σ (l.take (cutAt i l.length)) Q) no1
  (fun l => onI y fun i => l.length ≤ LB ∧ BigI i ∧ New σ (l.take (cutAt i l.length)) Q)
/-- the text of repr -/
noncomputable def mapO (f : V → Option PyData) : List V → Option (List PyData)
  | [] => some []
  | d :: r => match f d, mapO f r with
    | some p, some q => some (p :: q)
    | _, _ => none
noncomputable def toPy (σ : Sto) : Nat → V → Option PyData
  | 0, _ => none
  | n + 1, v => match v with
    | .non => some .none
    | .int i => some (.int i)
    | .bool b => some (.bool b)
    | .str k => (symL[k]?).map .str
    | .tup l => (mapO (toPy σ n) l).map .tuple
    | .list a => match σ a with
      | some l => (mapO (toPy σ n) l).map .list
      | none => none
    | _ => none
noncomputable def sumV : List V → Option Int
  | [] => some 0
  | .int i :: r => (sumV r).map (i + ·)
  | _ => none
inductive RepC (σ : Sto) (x : V) (Q : V → Sto → Prop) : Prop | mk (d : PyData) (h : toPy σ 40 x = some d) (hs : d.showable = true) (hl : d.shown.length ≤ sizeLine) (k : Q (.txt d.shown) σ)
inductive SumC (σ : Sto) (a : Addr) (Q : V → Sto → Prop) : Prop | mk (l : List V) (i : Int) (h : σ a = some l) (hs : sumV l = some i) (k : Q (.int i) σ)
inductive LenS (k : Nat) (Q : Int → Prop) : Prop | mk (x : Str) (h : symL[k]? = some x) (q : Q x.length)
noncomputable def vBi (b : Bi) (x : V) (σ : Sto) (Q : V → Sto → Prop) : Prop := match b with
  | .len => x.pick no1 (fun k => LenS k fun i => Q (.int i) σ) (fun a => Get1 σ a fun l => Q (.int l.length) σ) (fun l => l.length ≤ LB ∧ Q (.int l.length) σ) no1
  | .range => onI x fun n => BigI n ∧ Q (.rng n) σ
  | .list => onL x fun a => Get1 σ a fun l => New σ l Q
  | .tuple => onL x fun a => Get1 σ a fun l => Q (.tup l) σ
  | .repr => x.pick no1 no1 (fun a => RepC σ (.list a) Q) (fun l => RepC σ (.tup l) Q) no1
  | .abs => onI x fun i => Q (.int (if i < 0 then -i else i)) σ
  | .sum => onL x fun a => SumC σ a Q
noncomputable def vIsi (x : V) (t : Isi) : Option Bool := match x, t with
  | .int _, .int => some true | .int _, _ => some false
  | .str _, .str => some true | .str _, _ => some false
  | .tup _, .tup => some true | .tup _, _ => some false
  | .non, _ => some false
  | _, _ => none
inductive PopC (σ : Sto) (a : Addr) (Q : V → Sto → Prop) : Prop | mk (l : List V) (d : V) (h : σ a = some l) (hd : l.getLast? = some d) (k : Q d (put σ a l.dropLast))
inductive AppC (σ : Sto) (a : Addr) (d : V) (Q : V → Sto → Prop) : Prop | mk (l : List V) (h : σ a = some l) (hz : l.length + 1 ≤ LB) (k : Q .non (put σ a (l ++ [d])))
inductive ExtC (σ : Sto) (a b : Addr) (Q : V → Sto → Prop) : Prop | mk (l m : List V) (hne : a ≠ b) (h1 : σ a = some l) (h2 : σ b = some m) (hz : l.length + m.length ≤ LB) (k : Q .non (put σ a (l ++ m)))
noncomputable def one? : List V → (V → Prop) → Prop
  | [d], k => k d
  | _, _ => False
noncomputable def vMeth (m : Mi) (a : Addr) (ds : List V) (σ : Sto) (Q : V → Sto → Prop) : Prop := match m with
  | .append => one? ds fun d => AppC σ a d Q
  | .pop => match ds with
    | [] => PopC σ a Q
    | _ => False
  | .extend => one? ds fun x => onL x fun b => ExtC σ a b Q
noncomputable def items? (v : V) (σ : Sto) : Option (List V) := match v with
  | .list a => σ a
  | .rng n => if -1000000 ≤ n then some ((List.range n.toNat).map fun (k : Nat) => V.int (k : Int)) else none
  | .tup l => some l
  | _ => none
noncomputable def liveOk (v : V) (items : List V) (σ : Sto) : Prop := match v with
  | .list a => σ a = some items
  | _ => True
noncomputable def dselV : List Nat → List V → Nat → Option V
  | k :: ks, d :: ds, j => if k == j then some d else dselV ks ds j
  | _, _, _ => none
/-! ## what came back, what flew -/
section
variable (hb : Heap)
inductive GoodE (σ : Sto) (s : Shared) (Q : V → Sto → Prop) (v : Value) (s' : Shared) : Prop
  | mk (h' : Heap) (tk : Nat) (σ' : Sto) (d : V) (e : s' = { s with heap := h', toks := tk }) (m : Mv hb No σ s.heap σ' h') (I : Inv hb σ' h') (r : Rel hb h' d v) (q : Q d σ')
inductive GoodL (σ : Sto) (s : Shared) (Q : List V → Sto → Prop) (v : List Value) (s' : Shared) : Prop
  | mk (h' : Heap) (tk : Nat) (σ' : Sto) (d : List V) (e : s' = { s with heap := h', toks := tk }) (m : Mv hb No σ s.heap σ' h') (I : Inv hb σ' h') (r : RelL hb h' d v) (q : Q d σ')
inductive GoodB (σ : Sto) (s : Shared) (Q : Bool → Sto → Prop) (b : Bool) (s' : Shared) : Prop
  | mk (h' : Heap) (tk : Nat) (σ' : Sto) (e : s' = { s with heap := h', toks := tk }) (m : Mv hb No σ s.heap σ' h') (I : Inv hb σ' h') (q : Q b σ')
/-- the exception is on its way: h the heap where it was raised, h' now -/
inductive Fly (dieC : Addr) (fr : List Env) (h : Heap) (e : Addr) (h' : Heap) : Prop
  | mk (base : Heap) (a0 : Value) (f : Heap.FlyingW base fr e (.ref dieC) a0 h') (u : h.UpToSlots h') (k : ∀ b o, h.get? b = some o → base.get? b = some o ∨ (hb.get? b = none ∧ ∃ es n, o.data = .dict es n))
inductive BadE (dieC : Addr) (fr : List Env) (S : Addr → Prop) (σ : Sto) (s : Shared) (X : Sto → Prop) (e : Value) (s' : Shared) : Prop
  | mk (h h' : Heap) (tk : Nat) (σ' : Sto) (a : Addr) (ea : e = .ref a) (es : s' = { s with heap := h', toks := tk }) (m : Mv hb S σ s.heap σ' h) (I : Inv hb σ' h) (f : Fly hb dieC fr h a h') (x : X σ')
noncomputable abbrev FnSpec := List V → Sto → (V → Sto → Prop) → (Sto → Prop) → Prop
end
noncomputable def biTab : List (Str × Value) := [("len", .builtin "len"), ("range", .type "range"), ("list", .type "list"), ("tuple", .type "tuple"), ("repr", .builtin "repr"), ("abs", .builtin "abs"), ("sum", .builtin "sum"),
  ("isinstance", .builtin "isinstance"), ("int", .type "int"), ("str", .type "str")]
structure Top0 (hb : Heap) : Prop where
  ns : ∃ mg mb, hb.Ns mainGlobals mg ∧ hb.Ns builtinsNs mb ∧ (∀ (k : Nat) x d, GLV[k]? = some (x, d) → ∃ v, mg x = some v ∧ Rel hb hb d v) ∧ ∀ x v, (x, v) ∈ biTab → mg x = none ∧ mb x = some v
noncomputable def DieCls (hb : Heap) (dieC : Addr) : Prop :=
  ∃ (nm q : Str) (N : Addr) (bs bm : List Value) (hdct : Bool) (sn : List Str) (sub : List Value) (ab : Bool) (col : Option Bool) (dd : Option Addr) (k0 k1 k2 k3 k5 : Option Value) (newId : String),
    hb.get? dieC = some (excClassObj nm q dieC N bs bm hdct sn sub ab col dd k0 k1 k2 k3 k5 newId) ∧ bm.contains (.type "BaseException") = true
noncomputable abbrev dieC : Addr := 58
noncomputable def dieN : Str := "Die"
/-- what the top gives to every def -/
structure Ctx where
  hb : Heap
  prog : Program
  w : World
  frag : Frag
  top : Top0 hb
  cls : DieCls hb dieC
  lim : hb.NoLimit
  ink : frag.In hb
structure FnOK (K : Ctx) (n : Nat) (f : Value) (S : FnSpec) : Prop where
  fn : ∃ a o fd, f = .ref a ∧ K.hb.get? a = some o ∧ o.data = .func fd
  ok : ∀ (A : Around) (fr : List Env) (s : Shared) (vals : List Value) (ds : List V) (σ : Sto) (Q : V → Sto → Prop) (X : Sto → Prop) (QQ E : Value → Shared → Prop),
    At A fr n → Inv K.hb σ s.heap → FrOk K.hb fr s.heap → RelL K.hb s.heap ds vals → S ds σ Q X →
    (∀ v s', GoodE K.hb σ s Q v s' → QQ v s') → (∀ e s', BadE K.hb dieC fr No σ s X e s' → E e s') → wpAny (model K.prog K.w) A (call f vals) QQ E s
/-- a table of the top -/
noncomputable def DictOK (K : Ctx) (f : Value) (tab : Nat → Option V) : Prop :=
  ∃ a φ, f = .ref a ∧ (a == sysModules) = false ∧ K.hb.MapOf (strKind K.prog K.w) a φ ∧ ∀ j x d, tab j = some d → symL[j]? = some x → ∃ v, φ x = some v ∧ Rel K.hb K.hb d v
noncomputable def qq (t : Bool) (Q : V → Sto → Prop) : V → Sto → Prop := match t with
  | true => fun v σ => vTruth v σ fun b => Q (.bool b) σ
  | false => Q
noncomputable def onSome {α : Type} (o : Option α) (k : α → Prop) : Prop := match o with | some a => k a | none => False
theorem ofSome {α : Type} {o : Option α} {k : α → Prop} {P : Prop} (h : onSome o k) (f : ∀ a, o = some a → k a → P) : P := by
  cases o with
  | some a => exact f a rfl h
  | none => exact h.elim
noncomputable def vcA : AE → Loc → (V → Prop) → Prop
  | .var i, ρ, Q => onSome (lget ρ i) Q
  | .int i, _, Q => Q (.int i)
  | .bin op a b, ρ, Q => vcA a ρ fun x => vcA b ρ fun y => onI x fun a => onI y fun b => match op with
    | .Add => Q (.int (a + b))
    | .Sub => Q (.int (a - b))
    | .Mult => SmallI a ∧ SmallI b ∧ Q (.int (a * b))
    | .Mod => b ≠ 0 ∧ Q (.int (a.fmod b))
    | _ => False
noncomputable def vcAs : List AE → Loc → (List V → Prop) → Prop
  | [], _, Q => Q []
  | e :: r, ρ, Q => vcA e ρ fun d => vcAs r ρ fun ds => Q (d :: ds)
inductive FL where
  | next
  | cont
  | ret (d : V)
noncomputable def lsets : Loc → List Nat → List V → Loc
  | ρ, i :: is, d :: ds => lsets (lset ρ i (some d)) is ds
  | ρ, _, _ => ρ
end Mine
namespace Mine
theorem andL {a b : Bool} (h : (a && b) = true) : a = true := (Bool.and_eq_true_iff.mp h).1
theorem andR {a b : Bool} (h : (a && b) = true) : b = true := (Bool.and_eq_true_iff.mp h).2
theorem nott {a : Bool} (h : (!a) = true) : a = false := by cases a <;> first | rfl | cases h
theorem nilT {α : Type} {l : List α} (h : l.isEmpty = true) : l = [] := List.isEmpty_iff.mp h
theorem nilF {α : Type} {l : List α} (h : (!l.isEmpty) = true) : l ≠ [] := fun z => by subst z; cases h
theorem nonT {α : Type} {l : Option α} (h : l.isNone = true) : l = none := by cases l <;> first | rfl | cases h
theorem onDit {p : Prop} [Decidable p] {g : p → Bool} (h : (if h : p then g h else false) = true) : ∃ hi, g hi = true := by
  by_cases hi : p
  · rw [dif_pos hi] at h; exact ⟨hi, h⟩
  · rw [dif_neg hi] at h; cases h
noncomputable def on1 {α : Type} (f : α → Bool) (l : List α) : Bool := match l with
  | [a] => f a
  | _ => false
theorem of1 {α : Type} {f : α → Bool} {l : List α} {P : List α → Prop} (h : on1 f l = true) (k : ∀ a, f a = true → P [a]) : P l := by
  match l, h with
  | [a], h => exact k a h
noncomputable def on2 {α : Type} (f : α → α → Bool) (l : List α) : Bool := match l with
  | [a, b] => f a b
  | _ => false
theorem of2 {α : Type} {f : α → α → Bool} {l : List α} {P : List α → Prop} (h : on2 f l = true) (k : ∀ a b, f a b = true → P [a, b]) : P l := by
  match l, h with
  | [a, b], h => exact k a b h
noncomputable def onC {α : Type} (f : α → List α → Bool) (l : List α) : Bool := match l with
  | a :: r => f a r
  | [] => false
theorem ofC {α : Type} {f : α → List α → Bool} {l : List α} {P : List α → Prop} (h : onC f l = true) (k : ∀ a r, f a r = true → P (a :: r)) : P l := by
  match l, h with
  | a :: r, h => exact k a r h
noncomputable def onO {α : Type} (f : α → Bool) (l : Option α) : Bool := match l with
  | some a => f a
  | none => false
theorem ofO {α : Type} {f : α → Bool} {l : Option α} {P : Option α → Prop} (h : onO f l = true) (k : ∀ a, f a = true → P (some a)) : P l := by
  match l, h with
  | some a, h => exact k a h
noncomputable def onName (f : Str → Pos → Bool) (x : PySem.Expr) : Bool := if h : x.ctorIdx = 23 then PySem.Expr.Name.elim (motive_1 := fun _ => Bool) x h f else false
theorem ofName {f : Str → Pos → Bool} {x : PySem.Expr} {P : PySem.Expr → Prop} (h : onName f x = true) (k : ∀ a b, f a b = true → P (.Name a b)) : P x :=
  (onDit h).elim fun hi he => PySem.Expr.Name.elim (motive_1 := fun x => ∀ hi : x.ctorIdx = 23, PySem.Expr.Name.elim (motive_1 := fun _ => Bool) x hi f = true → P x) x hi (fun a b _ he => k a b he) hi he
noncomputable def onCon (f : Const → Nat → Pos → Bool) (x : PySem.Expr) : Bool := if h : x.ctorIdx = 19 then PySem.Expr.Constant.elim (motive_1 := fun _ => Bool) x h f else false
theorem ofCon {f : Const → Nat → Pos → Bool} {x : PySem.Expr} {P : PySem.Expr → Prop} (h : onCon f x = true) (k : ∀ a b c, f a b c = true → P (.Constant a b c)) : P x :=
  (onDit h).elim fun hi he => PySem.Expr.Constant.elim (motive_1 := fun x => ∀ hi : x.ctorIdx = 19, PySem.Expr.Constant.elim (motive_1 := fun _ => Bool) x hi f = true → P x) x hi (fun a b c _ he => k a b c he) hi he
noncomputable def onTup (f : (List PySem.Expr) → Nat → Pos → Bool) (x : PySem.Expr) : Bool := if h : x.ctorIdx = 25 then PySem.Expr.Tuple.elim (motive_1 := fun _ => Bool) x h f else false
theorem ofTup {f : (List PySem.Expr) → Nat → Pos → Bool} {x : PySem.Expr} {P : PySem.Expr → Prop} (h : onTup f x = true) (k : ∀ a b c, f a b c = true → P (.Tuple a b c)) : P x :=
  (onDit h).elim fun hi he => PySem.Expr.Tuple.elim (motive_1 := fun x => ∀ hi : x.ctorIdx = 25, PySem.Expr.Tuple.elim (motive_1 := fun _ => Bool) x hi f = true → P x) x hi (fun a b c _ he => k a b c he) hi he
noncomputable def onLst (f : (List PySem.Expr) → Pos → Bool) (x : PySem.Expr) : Bool := if h : x.ctorIdx = 24 then PySem.Expr.List.elim (motive_1 := fun _ => Bool) x h f else false
theorem ofLst {f : (List PySem.Expr) → Pos → Bool} {x : PySem.Expr} {P : PySem.Expr → Prop} (h : onLst f x = true) (k : ∀ a b, f a b = true → P (.List a b)) : P x :=
  (onDit h).elim fun hi he => PySem.Expr.List.elim (motive_1 := fun x => ∀ hi : x.ctorIdx = 24, PySem.Expr.List.elim (motive_1 := fun _ => Bool) x hi f = true → P x) x hi (fun a b _ he => k a b he) hi he
noncomputable def onBin (f : PySem.Expr → Operator → PySem.Expr → Pos → Bool) (x : PySem.Expr) : Bool := if h : x.ctorIdx = 2 then PySem.Expr.BinOp.elim (motive_1 := fun _ => Bool) x h f else false
theorem ofBin {f : PySem.Expr → Operator → PySem.Expr → Pos → Bool} {x : PySem.Expr} {P : PySem.Expr → Prop} (h : onBin f x = true) (k : ∀ a b c d, f a b c d = true → P (.BinOp a b c d)) : P x :=
  (onDit h).elim fun hi he => PySem.Expr.BinOp.elim (motive_1 := fun x => ∀ hi : x.ctorIdx = 2, PySem.Expr.BinOp.elim (motive_1 := fun _ => Bool) x hi f = true → P x) x hi (fun a b c d _ he => k a b c d he) hi he
noncomputable def onUn (f : UnaryOp → PySem.Expr → Pos → Bool) (x : PySem.Expr) : Bool := if h : x.ctorIdx = 3 then PySem.Expr.UnaryOp.elim (motive_1 := fun _ => Bool) x h f else false
theorem ofUn {f : UnaryOp → PySem.Expr → Pos → Bool} {x : PySem.Expr} {P : PySem.Expr → Prop} (h : onUn f x = true) (k : ∀ a b c, f a b c = true → P (.UnaryOp a b c)) : P x :=
  (onDit h).elim fun hi he => PySem.Expr.UnaryOp.elim (motive_1 := fun x => ∀ hi : x.ctorIdx = 3, PySem.Expr.UnaryOp.elim (motive_1 := fun _ => Bool) x hi f = true → P x) x hi (fun a b c _ he => k a b c he) hi he
noncomputable def onCmp (f : PySem.Expr → (List CmpOp) → (List PySem.Expr) → Pos → Bool) (x : PySem.Expr) : Bool := if h : x.ctorIdx = 15 then PySem.Expr.Compare.elim (motive_1 := fun _ => Bool) x h f else false
theorem ofCmp {f : PySem.Expr → (List CmpOp) → (List PySem.Expr) → Pos → Bool} {x : PySem.Expr} {P : PySem.Expr → Prop} (h : onCmp f x = true) (k : ∀ a b c d, f a b c d = true → P (.Compare a b c d)) : P x :=
  (onDit h).elim fun hi he => PySem.Expr.Compare.elim (motive_1 := fun x => ∀ hi : x.ctorIdx = 15, PySem.Expr.Compare.elim (motive_1 := fun _ => Bool) x hi f = true → P x) x hi (fun a b c d _ he => k a b c d he) hi he
noncomputable def onBop (f : BoolOp → (List PySem.Expr) → Pos → Bool) (x : PySem.Expr) : Bool := if h : x.ctorIdx = 0 then PySem.Expr.BoolOp.elim (motive_1 := fun _ => Bool) x h f else false
theorem ofBop {f : BoolOp → (List PySem.Expr) → Pos → Bool} {x : PySem.Expr} {P : PySem.Expr → Prop} (h : onBop f x = true) (k : ∀ a b c, f a b c = true → P (.BoolOp a b c)) : P x :=
  (onDit h).elim fun hi he => PySem.Expr.BoolOp.elim (motive_1 := fun x => ∀ hi : x.ctorIdx = 0, PySem.Expr.BoolOp.elim (motive_1 := fun _ => Bool) x hi f = true → P x) x hi (fun a b c _ he => k a b c he) hi he
noncomputable def onIte (f : PySem.Expr → PySem.Expr → PySem.Expr → Pos → Bool) (x : PySem.Expr) : Bool := if h : x.ctorIdx = 5 then PySem.Expr.IfExp.elim (motive_1 := fun _ => Bool) x h f else false
theorem ofIte {f : PySem.Expr → PySem.Expr → PySem.Expr → Pos → Bool} {x : PySem.Expr} {P : PySem.Expr → Prop} (h : onIte f x = true) (k : ∀ a b c d, f a b c d = true → P (.IfExp a b c d)) : P x :=
  (onDit h).elim fun hi he => PySem.Expr.IfExp.elim (motive_1 := fun x => ∀ hi : x.ctorIdx = 5, PySem.Expr.IfExp.elim (motive_1 := fun _ => Bool) x hi f = true → P x) x hi (fun a b c d _ he => k a b c d he) hi he
noncomputable def onSub (f : PySem.Expr → PySem.Expr → Pos → Bool) (x : PySem.Expr) : Bool := if h : x.ctorIdx = 21 then PySem.Expr.Subscript.elim (motive_1 := fun _ => Bool) x h f else false
theorem ofSub {f : PySem.Expr → PySem.Expr → Pos → Bool} {x : PySem.Expr} {P : PySem.Expr → Prop} (h : onSub f x = true) (k : ∀ a b c, f a b c = true → P (.Subscript a b c)) : P x :=
  (onDit h).elim fun hi he => PySem.Expr.Subscript.elim (motive_1 := fun x => ∀ hi : x.ctorIdx = 21, PySem.Expr.Subscript.elim (motive_1 := fun _ => Bool) x hi f = true → P x) x hi (fun a b c _ he => k a b c he) hi he
noncomputable def onSlc (f : (Option PySem.Expr) → (Option PySem.Expr) → (Option PySem.Expr) → Pos → Bool) (x : PySem.Expr) : Bool := if h : x.ctorIdx = 26 then PySem.Expr.Slice.elim (motive_1 := fun _ => Bool) x h f else false
theorem ofSlc {f : (Option PySem.Expr) → (Option PySem.Expr) → (Option PySem.Expr) → Pos → Bool} {x : PySem.Expr} {P : PySem.Expr → Prop} (h : onSlc f x = true) (k : ∀ a b c d, f a b c d = true → P (.Slice a b c d)) : P x :=
  (onDit h).elim fun hi he => PySem.Expr.Slice.elim (motive_1 := fun x => ∀ hi : x.ctorIdx = 26, PySem.Expr.Slice.elim (motive_1 := fun _ => Bool) x hi f = true → P x) x hi (fun a b c d _ he => k a b c d he) hi he
noncomputable def onCall (f : PySem.Expr → (List PySem.Expr) → (List PySem.Keyword) → Pos → Bool) (x : PySem.Expr) : Bool := if h : x.ctorIdx = 16 then PySem.Expr.Call.elim (motive_1 := fun _ => Bool) x h f else false
theorem ofCall {f : PySem.Expr → (List PySem.Expr) → (List PySem.Keyword) → Pos → Bool} {x : PySem.Expr} {P : PySem.Expr → Prop} (h : onCall f x = true) (k : ∀ a b c d, f a b c d = true → P (.Call a b c d)) : P x :=
  (onDit h).elim fun hi he => PySem.Expr.Call.elim (motive_1 := fun x => ∀ hi : x.ctorIdx = 16, PySem.Expr.Call.elim (motive_1 := fun _ => Bool) x hi f = true → P x) x hi (fun a b c d _ he => k a b c d he) hi he
noncomputable def onAtt (f : PySem.Expr → Str → Pos → Bool) (x : PySem.Expr) : Bool := if h : x.ctorIdx = 20 then PySem.Expr.Attribute.elim (motive_1 := fun _ => Bool) x h f else false
theorem ofAtt {f : PySem.Expr → Str → Pos → Bool} {x : PySem.Expr} {P : PySem.Expr → Prop} (h : onAtt f x = true) (k : ∀ a b c, f a b c = true → P (.Attribute a b c)) : P x :=
  (onDit h).elim fun hi he => PySem.Expr.Attribute.elim (motive_1 := fun x => ∀ hi : x.ctorIdx = 20, PySem.Expr.Attribute.elim (motive_1 := fun _ => Bool) x hi f = true → P x) x hi (fun a b c _ he => k a b c he) hi he
noncomputable def onLC (f : PySem.Expr → (List PySem.Comprehension) → Scope → Pos → Bool) (x : PySem.Expr) : Bool := if h : x.ctorIdx = 8 then PySem.Expr.ListComp.elim (motive_1 := fun _ => Bool) x h f else false
theorem ofLC {f : PySem.Expr → (List PySem.Comprehension) → Scope → Pos → Bool} {x : PySem.Expr} {P : PySem.Expr → Prop} (h : onLC f x = true) (k : ∀ a b c d, f a b c d = true → P (.ListComp a b c d)) : P x :=
  (onDit h).elim fun hi he => PySem.Expr.ListComp.elim (motive_1 := fun x => ∀ hi : x.ctorIdx = 8, PySem.Expr.ListComp.elim (motive_1 := fun _ => Bool) x hi f = true → P x) x hi (fun a b c d _ he => k a b c d he) hi he
noncomputable def onDict (f : (List (Option PySem.Expr)) → (List PySem.Expr) → Pos → Bool) (x : PySem.Expr) : Bool := if h : x.ctorIdx = 6 then PySem.Expr.Dict.elim (motive_1 := fun _ => Bool) x h f else false
theorem ofDict {f : (List (Option PySem.Expr)) → (List PySem.Expr) → Pos → Bool} {x : PySem.Expr} {P : PySem.Expr → Prop} (h : onDict f x = true) (k : ∀ a b c, f a b c = true → P (.Dict a b c)) : P x :=
  (onDit h).elim fun hi he => PySem.Expr.Dict.elim (motive_1 := fun x => ∀ hi : x.ctorIdx = 6, PySem.Expr.Dict.elim (motive_1 := fun _ => Bool) x hi f = true → P x) x hi (fun a b c _ he => k a b c he) hi he
noncomputable def onAsg (f : (List PySem.Expr) → PySem.Expr → Pos → Bool) (x : PySem.Stmt) : Bool := if h : x.ctorIdx = 5 then PySem.Stmt.Assign.elim (motive_2 := fun _ => Bool) x h f else false
theorem ofAsg {f : (List PySem.Expr) → PySem.Expr → Pos → Bool} {x : PySem.Stmt} {P : PySem.Stmt → Prop} (h : onAsg f x = true) (k : ∀ a b c, f a b c = true → P (.Assign a b c)) : P x :=
  (onDit h).elim fun hi he => PySem.Stmt.Assign.elim (motive_2 := fun x => ∀ hi : x.ctorIdx = 5, PySem.Stmt.Assign.elim (motive_2 := fun _ => Bool) x hi f = true → P x) x hi (fun a b c _ he => k a b c he) hi he
noncomputable def onAug (f : PySem.Expr → Operator → PySem.Expr → Pos → Bool) (x : PySem.Stmt) : Bool := if h : x.ctorIdx = 7 then PySem.Stmt.AugAssign.elim (motive_2 := fun _ => Bool) x h f else false
theorem ofAug {f : PySem.Expr → Operator → PySem.Expr → Pos → Bool} {x : PySem.Stmt} {P : PySem.Stmt → Prop} (h : onAug f x = true) (k : ∀ a b c d, f a b c d = true → P (.AugAssign a b c d)) : P x :=
  (onDit h).elim fun hi he => PySem.Stmt.AugAssign.elim (motive_2 := fun x => ∀ hi : x.ctorIdx = 7, PySem.Stmt.AugAssign.elim (motive_2 := fun _ => Bool) x hi f = true → P x) x hi (fun a b c d _ he => k a b c d he) hi he
noncomputable def onEx (f : PySem.Expr → Pos → Bool) (x : PySem.Stmt) : Bool := if h : x.ctorIdx = 24 then PySem.Stmt.Expr.elim (motive_2 := fun _ => Bool) x h f else false
theorem ofEx {f : PySem.Expr → Pos → Bool} {x : PySem.Stmt} {P : PySem.Stmt → Prop} (h : onEx f x = true) (k : ∀ a b, f a b = true → P (.Expr a b)) : P x :=
  (onDit h).elim fun hi he => PySem.Stmt.Expr.elim (motive_2 := fun x => ∀ hi : x.ctorIdx = 24, PySem.Stmt.Expr.elim (motive_2 := fun _ => Bool) x hi f = true → P x) x hi (fun a b _ he => k a b he) hi he
noncomputable def onIf (f : PySem.Expr → (List PySem.Stmt) → (List PySem.Stmt) → Pos → Bool) (x : PySem.Stmt) : Bool := if h : x.ctorIdx = 12 then PySem.Stmt.If.elim (motive_2 := fun _ => Bool) x h f else false
theorem ofIf {f : PySem.Expr → (List PySem.Stmt) → (List PySem.Stmt) → Pos → Bool} {x : PySem.Stmt} {P : PySem.Stmt → Prop} (h : onIf f x = true) (k : ∀ a b c d, f a b c d = true → P (.If a b c d)) : P x :=
  (onDit h).elim fun hi he => PySem.Stmt.If.elim (motive_2 := fun x => ∀ hi : x.ctorIdx = 12, PySem.Stmt.If.elim (motive_2 := fun _ => Bool) x hi f = true → P x) x hi (fun a b c d _ he => k a b c d he) hi he
noncomputable def onFor (f : PySem.Expr → PySem.Expr → (List PySem.Stmt) → (List PySem.Stmt) → Pos → Bool) (x : PySem.Stmt) : Bool := if h : x.ctorIdx = 9 then PySem.Stmt.For.elim (motive_2 := fun _ => Bool) x h f else false
theorem ofFor {f : PySem.Expr → PySem.Expr → (List PySem.Stmt) → (List PySem.Stmt) → Pos → Bool} {x : PySem.Stmt} {P : PySem.Stmt → Prop} (h : onFor f x = true) (k : ∀ a b c d e, f a b c d e = true → P (.For a b c d e)) : P x :=
  (onDit h).elim fun hi he => PySem.Stmt.For.elim (motive_2 := fun x => ∀ hi : x.ctorIdx = 9, PySem.Stmt.For.elim (motive_2 := fun _ => Bool) x hi f = true → P x) x hi (fun a b c d e _ he => k a b c d e he) hi he
noncomputable def onWhl (f : PySem.Expr → (List PySem.Stmt) → (List PySem.Stmt) → Pos → Bool) (x : PySem.Stmt) : Bool := if h : x.ctorIdx = 11 then PySem.Stmt.While.elim (motive_2 := fun _ => Bool) x h f else false
theorem ofWhl {f : PySem.Expr → (List PySem.Stmt) → (List PySem.Stmt) → Pos → Bool} {x : PySem.Stmt} {P : PySem.Stmt → Prop} (h : onWhl f x = true) (k : ∀ a b c d, f a b c d = true → P (.While a b c d)) : P x :=
  (onDit h).elim fun hi he => PySem.Stmt.While.elim (motive_2 := fun x => ∀ hi : x.ctorIdx = 11, PySem.Stmt.While.elim (motive_2 := fun _ => Bool) x hi f = true → P x) x hi (fun a b c d _ he => k a b c d he) hi he
noncomputable def onRet (f : (Option PySem.Expr) → Pos → Bool) (x : PySem.Stmt) : Bool := if h : x.ctorIdx = 3 then PySem.Stmt.Return.elim (motive_2 := fun _ => Bool) x h f else false
theorem ofRet {f : (Option PySem.Expr) → Pos → Bool} {x : PySem.Stmt} {P : PySem.Stmt → Prop} (h : onRet f x = true) (k : ∀ a b, f a b = true → P (.Return a b)) : P x :=
  (onDit h).elim fun hi he => PySem.Stmt.Return.elim (motive_2 := fun x => ∀ hi : x.ctorIdx = 3, PySem.Stmt.Return.elim (motive_2 := fun _ => Bool) x hi f = true → P x) x hi (fun a b _ he => k a b he) hi he
noncomputable def onCont (f : Pos → Bool) (x : PySem.Stmt) : Bool := if h : x.ctorIdx = 27 then PySem.Stmt.Continue.elim (motive_2 := fun _ => Bool) x h f else false
theorem ofCont {f : Pos → Bool} {x : PySem.Stmt} {P : PySem.Stmt → Prop} (h : onCont f x = true) (k : ∀ a, f a = true → P (.Continue a)) : P x :=
  (onDit h).elim fun hi he => PySem.Stmt.Continue.elim (motive_2 := fun x => ∀ hi : x.ctorIdx = 27, PySem.Stmt.Continue.elim (motive_2 := fun _ => Bool) x hi f = true → P x) x hi (fun a _ he => k a he) hi he
noncomputable def onTry (f : (List PySem.Stmt) → (List PySem.ExceptHandler) → (List PySem.Stmt) → (List PySem.Stmt) → Pos → Bool) (x : PySem.Stmt) : Bool := if h : x.ctorIdx = 17 then PySem.Stmt.Try.elim (motive_2 := fun _ => Bool) x h f else false
theorem ofTry {f : (List PySem.Stmt) → (List PySem.ExceptHandler) → (List PySem.Stmt) → (List PySem.Stmt) → Pos → Bool} {x : PySem.Stmt} {P : PySem.Stmt → Prop} (h : onTry f x = true) (k : ∀ a b c d e, f a b c d e = true → P (.Try a b c d e)) : P x :=
  (onDit h).elim fun hi he => PySem.Stmt.Try.elim (motive_2 := fun x => ∀ hi : x.ctorIdx = 17, PySem.Stmt.Try.elim (motive_2 := fun _ => Bool) x hi f = true → P x) x hi (fun a b c d e _ he => k a b c d e he) hi he
noncomputable def onRai (f : (Option PySem.Expr) → (Option PySem.Expr) → Pos → Bool) (x : PySem.Stmt) : Bool := if h : x.ctorIdx = 16 then PySem.Stmt.Raise.elim (motive_2 := fun _ => Bool) x h f else false
theorem ofRai {f : (Option PySem.Expr) → (Option PySem.Expr) → Pos → Bool} {x : PySem.Stmt} {P : PySem.Stmt → Prop} (h : onRai f x = true) (k : ∀ a b c, f a b c = true → P (.Raise a b c)) : P x :=
  (onDit h).elim fun hi he => PySem.Stmt.Raise.elim (motive_2 := fun x => ∀ hi : x.ctorIdx = 16, PySem.Stmt.Raise.elim (motive_2 := fun _ => Bool) x hi f = true → P x) x hi (fun a b c _ he => k a b c he) hi he
noncomputable def onCI (f : Int → Bool) (c : Const) : Bool := match c with
  | .int i => f i
  | _ => false
theorem ofCI {f : Int → Bool} {c : Const} {P : Const → Prop} (h : onCI f c = true) (k : ∀ i, f i = true → P (.int i)) : P c := by cases c <;> first | exact k _ h | cases h
noncomputable def onCS (f : Str → Bool) (c : Const) : Bool := match c with
  | .str i => f i
  | _ => false
theorem ofCS {f : Str → Bool} {c : Const} {P : Const → Prop} (h : onCS f c = true) (k : ∀ i, f i = true → P (.str i)) : P c := by cases c <;> first | exact k _ h | cases h
noncomputable def onCB (f : Bool → Bool) (c : Const) : Bool := match c with
  | .bool i => f i
  | _ => false
theorem ofCB {f : Bool → Bool} {c : Const} {P : Const → Prop} (h : onCB f c = true) (k : ∀ i, f i = true → P (.bool i)) : P c := by cases c <;> first | exact k _ h | cases h
noncomputable def onCN (c : Const) : Bool := match c with
  | .none => true
  | _ => false
theorem ofCN {c : Const} {P : Const → Prop} (h : onCN c = true) (k : P .none) : P c := by cases c <;> first | exact k | cases h
noncomputable def onH (f : Option PySem.Expr → Option Str → List Stmt → Pos → Bool) (x : PySem.ExceptHandler) : Bool := match x with
  | .ExceptHandler a b c d => f a b c d
theorem ofH {f : Option PySem.Expr → Option Str → List Stmt → Pos → Bool} {x : PySem.ExceptHandler} {P : PySem.ExceptHandler → Prop} (h : onH f x = true) (k : ∀ a b c d, f a b c d = true → P (.ExceptHandler a b c d)) : P x := by cases x; exact k _ _ _ _ h
theorem eqb {α : Type} [BEq α] [LawfulBEq α] {a b : α} {P : α → Prop} (h : (a == b) = true) (k : P a) : P b := eq_of_beq h ▸ k
noncomputable def isNm (x : PySem.Expr) : Bool := x.ctorIdx == 23
noncomputable def isStar (x : PySem.Expr) : Bool := x.ctorIdx == 22
noncomputable def isSet (x : PySem.Expr) : Bool := x.ctorIdx == 7
noncomputable def isSlc (x : PySem.Expr) : Bool := x.ctorIdx == 26
noncomputable def isCall0 (x : PySem.Expr) : Bool := onCall (fun f as ks _ => isNm f && as.isEmpty && ks.isEmpty) x
noncomputable def isCompr (x : PySem.Expr) : Bool := x.ctorIdx == 8 || x.ctorIdx == 9 || x.ctorIdx == 10
noncomputable def relabelS (scope sc : Scope) : Scope :=
  { scope with names := scope.names.map fun (n, k) => if (k == .free && sc.kind == .function && sc.names.lookup n == some .cell) then (n, .cell) else (n, k) }
noncomputable def Bi.nm : Bi → Str | .len => "len" | .range => "range" | .list => "list" | .tuple => "tuple" | .repr => "repr" | .abs => "abs" | .sum => "sum"
noncomputable def Isi.nm : Isi → Str | .int => "int" | .str => "str" | .tup => "tuple"
noncomputable def Mi.nm : Mi → Str | .append => "append" | .pop => "pop" | .extend => "extend"
noncomputable def nmOk (x : Str) : Bool := !(x == ("__debug__" : Str)) && !(x == ("__classdict__" : Str))
/-- two or three plain values of which not all are folded are stored the other way round -/
noncomputable def swaps (n : Nat) (x : PySem.Expr) : Bool := onTup (fun vs _ _ => (n == 2 || n == 3) && vs.length == n && !vs.all (foldedForSure 8)) x
section
variable (nm : List Str)
noncomputable def kLoc (sc : Scope) (x : Str) : Bool := (sc.names.lookup x == some .local || sc.names.lookup x == some .cell || sc.names.lookup x == some .free) && nmOk x
noncomputable def kSto (sc : Scope) (x : Str) : Bool := sc.names.lookup x == some .local || sc.names.lookup x == some .cell
noncomputable def kGlo (sc : Scope) (x : Str) : Bool := (sc.names.lookup x == some .globalImplicit) && nmOk x
/-- a comprehension's names -/
noncomputable def kComp (scope sc : Scope) (x : Str) : Bool :=
  scope.kind == .function && scope.names.all (fun y => y.2 != .cell) && scope.names.all (fun y => y.2 != .local || (scope.names.lookup y.1 == some .local && (y.1 == x || !nm.contains y.1))) && scope.names.lookup x == some .local && sc.kind == .function &&
  scope.names.all (fun y => y.2 != .free || ((sc.names.lookup y.1 == some .cell || sc.names.lookup y.1 == some .free) && scope.names.lookup y.1 == some .free)) && decide ((scope.names.filter fun y => y.2 == .free).map (·.1)).Nodup
noncomputable def swapNames (sc : Scope) (ts vs : List PySem.Expr) : Bool := on2 (fun a b => onName (fun x q => onName (fun y q' =>
  vs.length == 2 && sc.names.lookup x == some .local && sc.names.lookup y == some .local && q.line == q'.line && (x != y) && !vs.all (constantsAlone 8) && !vs.all (foldedForSure 8)) b) a) ts
end
end Mine
namespace Mine
theorem symNodup : symL.Nodup := by decide +kernel
theorem symOk : ∀ x ∈ symL, PyData.strOk x = true := by decide +kernel
theorem symLen : ∀ x ∈ symL, x.length ≤ 30 := by decide +kernel
theorem sym_inj {i j : Nat} {x : Str} (hi : symL[i]? = some x) (hj : symL[j]? = some x) : i = j := nodup_get symNodup hi hj
theorem LB_line : LB ≤ sizeLine := by rw [sizeLine_eq]; decide
theorem smallI_bits {a : Int} (h : SmallI a) : Builtin.Int.intBits a ≤ 1001 := by
  unfold Builtin.Int.intBits
  have := h
  unfold SmallI at this
  split
  · exact Nat.zero_le _
  · rename_i hn
    have := (Nat.log2_lt (by simpa using hn)).mpr this
    lia
theorem mulOk {a b : Int} (ha : SmallI a) (hb' : SmallI b) : IntMulOk a b := by
  have h1 := smallI_bits ha
  have h2 := smallI_bits hb'
  unfold IntMulOk Builtin.Int.intTooBig bitsLine
  simp only [Bool.and_eq_true, decide_eq_true_eq, not_and]
  intro _
  lia
section
variable {prog : Program} {w : World} {A : Around} {E : Value → Shared → Prop} {s : Shared} {hb : Heap} {σ : Sto} {v u : Value} {x y : V} {Q : V → Sto → Prop} {QQ : Value → Shared → Prop} {fr : List Env} {n : Nat}
theorem goodE {h' : Heap} {tk : Nat} {σ' : Sto} {d : V} {v : Value} (m : Mv hb No σ s.heap σ' h') (I : Inv hb σ' h') (r : Rel hb h' d v) (q : Q d σ') : GoodE hb σ s Q v { s with heap := h', toks := tk } := ⟨h', tk, σ', d, rfl, m, I, r, q⟩
theorem goodE0 {tk : Nat} {d : V} {v : Value} (I : Inv hb σ s.heap) (r : Rel hb s.heap d v) (q : Q d σ) : GoodE hb σ s Q v { s with toks := tk } := ⟨s.heap, tk, σ, d, rfl, .refl _ _, I, r, q⟩
/-- a new object that is no list of ours -/
theorem Inv.push (I : Inv hb σ s.heap) (o : Obj) : Inv hb σ (s.heap.push o) := I.grown fun _ _ e => Heap.get?_push_of_some _ e
theorem push_keeps (h : Heap) (o : Obj) : ∀ b o', h.get? b = some o' → (h.push o).get? b = some o' := fun _ _ e => Heap.get?_push_of_some _ e
theorem size_none (h : Heap) : h.get? h.objs.size = none := Heap.get?_none_of_le (Nat.le_refl _)
theorem RelL.push {h : Heap} {l : List V} {vs : List Value} (r : RelL hb h l vs) (o : Obj) : RelL hb (h.push o) l vs := r.keeps fun b o' e _ => Heap.get?_push_of_some _ e
/-- a new list of ours -/
theorem goodNew {tk : Nat} {l : List V} {xs : Array Value} (I : Inv hb σ s.heap) (r : RelL hb s.heap l xs.toList) (hz : l.length ≤ LB) (q : ∀ c, σ c = none → Q (.list c) (put σ c l)) :
    GoodE hb σ s Q (.ref s.heap.objs.size) { s with heap := s.heap.push { cls := .type "list", data := .seq xs }, toks := tk } := by
  have hn : σ s.heap.objs.size = none := by
    cases e : σ s.heap.objs.size with
    | none => rfl
    | some l' =>
      obtain ⟨_, _, _, ⟨_, p⟩, _⟩ := I.lst _ _ e
      rw [size_none] at p; cases p
  exact goodE (.new (push_keeps _ _) (size_none _)) (I.new (push_keeps _ _) (size_none _) ⟨0, Heap.get?_push_size _ rfl⟩ hz (r.push _)) (.list _) (q _ hn)
/-- a list of ours turned -/
theorem goodUpd {a : Addr} {l l' : List V} {xs : Array Value} {h' : Heap} {tk : Nat} {d : V} {v : Value} (I : Inv hb σ s.heap) (e : σ a = some l) (hs : Heap.SameBut a s.heap h') (hp : h'.PlainList a xs) (hz : l'.length ≤ LB) (r : RelL hb s.heap l' xs.toList)
    (rd : Rel hb s.heap d v) (q : Q d (put σ a l')) : GoodE hb σ s Q v { s with heap := h', toks := tk } :=
  have m : Mv hb No σ s.heap (put σ a l') h' := .upd e hs hp
  goodE m (I.upd e hs hp hz r) (m.rel I rd) q
theorem Rel.list_inv {h : Heap} {a : Addr} (r : Rel hb h (.list a) v) : v = .ref a := by cases r; rfl
theorem Rel.int_inv {h : Heap} {i : Int} (r : Rel hb h (.int i) v) : ∃ t, v = .int i t := by cases r; exact ⟨_, rfl⟩
theorem Rel.str_inv {h : Heap} {k : Nat} (r : Rel hb h (.str k) v) : ∃ x t, v = .str x t ∧ symL[k]? = some x := by cases r with | str t e => exact ⟨_, t, rfl, e⟩
@[elab_as_elim] theorem Rel.onI {h : Heap} {k : Int → Prop} {P : Value → Prop} (r : Rel hb h x v) (q : Mine.onI x k) (f : ∀ i t, k i → P (.int i t)) : P v := by
  cases r <;> first | exact f _ _ q | exact q.elim
@[elab_as_elim] theorem Rel.onS {h : Heap} {k : Nat → Prop} {P : Value → Prop} (r : Rel hb h x v) (q : Mine.onS x k) (f : ∀ i y t, symL[i]? = some y → k i → P (.str y t)) : P v := by
  cases r with
  | str t e => exact f _ _ t e q
  | _ => exact q.elim
@[elab_as_elim] theorem Rel.onL {h : Heap} {k : Addr → Prop} {P : Value → Prop} (r : Rel hb h x v) (q : Mine.onL x k) (f : ∀ a, k a → P (.ref a)) : P v := by
  cases r with
  | list a => exact f a q
  | _ => exact q.elim
theorem Inv.fresh {h : Heap} (I : Inv hb σ h) {a : Addr} (e : h.get? a = none) : σ a = none := by
  cases q : σ a with
  | none => rfl
  | some l => obtain ⟨_, _, _, ⟨_, p⟩, _⟩ := I.lst _ _ q; rw [e] at p; cases p
/-- a list of ours, read -/
theorem Inv.lists {h : Heap} {P : Prop} (I : Inv hb σ h) {a : Addr} {l : List V} (e : σ a = some l) (f : ∀ xs n, h.get? a = some { cls := .type "list", data := .seq xs n } → xs.size = l.length → l.length ≤ LB → RelL hb h l xs.toList → P) : P := by
  obtain ⟨_, z, xs, ⟨n, p⟩, r⟩ := I.lst a l e
  exact f xs n p (by rw [← Array.length_toList]; exact r.length.symm) z r
theorem isE_len {l : List V} {xs : List Value} (h : xs.length = l.length) : (!xs.isEmpty) = !l.isEmpty := by
  cases l <;> cases xs <;> first | rfl | cases h
theorem sTruth {Q : Bool → Prop} {QB : Bool → Shared → Prop} (I : Inv hb σ s.heap) (r : Rel hb s.heap x v) (h : vTruth x σ Q) (k : ∀ b tk, Q b → QB b { s with toks := tk }) : wpAny (model prog w) A (truthy v) QB E s := by
  cases r with
  | bool b => exact wpAny_truthy_bool (k b s.toks h)
  | list a =>
    obtain ⟨l, e, q⟩ := h
    refine I.lists e fun xs n p hs hz rl => ?_
    have hLB : LB < 2 ^ 63 := by decide
    refine wpAny_truthy_list (Heap.PlainList.isList ⟨n, p⟩) (by rw [hs]; exact Int.ofNat_lt.mpr (Nat.lt_of_le_of_lt hz hLB)) ?_
    rw [← Array.isEmpty_toList, isE_len (by rw [Array.length_toList]; exact hs)]
    exact k _ _ q
  | _ => exact h.elim
theorem sBin {op : Operator} (I : Inv hb σ s.heap) (r : Rel hb s.heap x v) (q : Rel hb s.heap y u) (h : vBin op x y σ Q) (k : ∀ v s', GoodE hb σ s Q v s' → QQ v s') : wpAny (model prog w) A (binaryOp op v u) QQ E s := by
  cases op with
  | Add =>
    cases r with
    | int i t => exact q.onI h fun _ _ h => add_int (k _ _ (goodE0 I (.int _ _) h))
    | str t ex =>
      refine q.onS h fun _ y' t' ey h => ?_
      obtain ⟨j, a, b, e1, e2, e3, h⟩ := h
      rw [ex] at e1; cases e1; rw [ey] at e2; cases e2
      have z1 := symLen _ (List.mem_of_getElem? ex)
      have z2 := symLen _ (List.mem_of_getElem? ey)
      refine add_str (fun t' tk => k _ _ (goodE0 I (.str t' e3) h)) ?_
      rw [sizeLine_eq]; lia
    | list a =>
      refine q.onL h fun b h => ?_
      obtain ⟨l, m, e1, e2, hz, h⟩ := h
      refine I.lists e1 fun xs n1 p1 s1 z1 r1 => I.lists e2 fun ys n2 p2 s2 z2 r2 => ?_
      have hl : xs.size + ys.size ≤ sizeLine := by rw [s1, s2]; exact Nat.le_trans hz LB_line
      exact P.add_list (hsz := hl) p1 p2 (k _ _ (goodNew (tk := s.toks) I (by rw [Array.toList_append]; exact r1.append r2) (by rw [List.length_append]; exact hz) h))
    | _ => exact h.elim
  | Sub => exact r.onI h fun _ _ h => q.onI h fun _ _ h => PyProof.Rows.sub_int (k _ _ (goodE0 I (.int _ _) h))
  | Mult =>
    refine r.onI h fun _ _ h => q.onI h fun _ _ h => ?_
    obtain ⟨ha, hb', h⟩ := h
    exact PyProof.Rows.mul_int (k _ _ (goodE0 I (.int _ _) h)) (mulOk ha hb')
  | FloorDiv =>
    refine r.onI h fun _ _ h => q.onI h fun _ _ h => ?_
    obtain ⟨hb0, ha, h⟩ := h
    refine floordiv_int hb0 (k _ _ (goodE0 I (.int _ _) h)) (.inl ?_)
    have h1 := smallI_bits ha
    unfold Builtin.divisionGoesByPylong
    unfold Builtin.Int.intBits at h1
    rw [Bool.and_eq_false_iff]
    right
    rw [decide_eq_false_iff_not]
    dsimp only
    split at h1
    · rename_i hz; rw [if_pos hz]; lia
    · rename_i hz; rw [if_neg hz]; lia
  | Mod => exact r.onI h fun _ _ h => q.onI h fun _ _ h => mod_int' h.1 (k _ _ (goodE0 I (.int _ _) h.2))
  | _ => exact h.elim
/-! data -/
mutual
noncomputable def pyD : V → PyData
  | .int i => .int i
  | .str k => .str (symL.getD k Str.empty)
  | .tup l => .tuple (pyDs l)
  | _ => .none
noncomputable def pyDs : List V → List PyData
  | [] => []
  | d :: r => pyD d :: pyDs r
end
theorem symGet {k : Nat} {x : Str} (e : symL[k]? = some x) : symL.getD k Str.empty = x := by rw [List.getD_eq_getElem?_getD, e]; rfl
/-- what a datum says -/
noncomputable def DatR (h : Heap) (n : Nat) (d : V) (v : Value) : Prop := ∃ as, Reads h v (pyD d) as ∧ (pyD d).canLay0 = true ∧ (pyD d).depth ≤ n
theorem strR {h : Heap} {n k : Nat} {x : Str} {t : Nat} (e : symL[k]? = some x) : DatR h n (.str k) (.str x t) := by
  show ∃ as, Reads h (.str x t) (.str (symL.getD k Str.empty)) as ∧ PyData.canLay0 (.str (symL.getD k Str.empty)) = true ∧ 0 ≤ n
  rw [symGet e]
  exact ⟨_, .str _ t, symOk _ (List.mem_of_getElem? e), Nat.zero_le _⟩
theorem dats_of {h : Heap} {n : Nat} (H : ∀ {d : V} {v : Value}, Rel hb h d v → V.dat n d = true → DatR h n d v) : ∀ (l : List V) (vs : List Value), RelL hb h l vs → l.all (V.dat n) = true → ∃ as, ReadsAll h vs (pyDs l) as ∧ PyData.canLayAll0 (pyDs l) = true ∧ PyData.depthAll (pyDs l) ≤ n := by
  intro l
  induction l with
  | nil => intro vs r _; cases r; exact ⟨[], .nil, rfl, Nat.zero_le _⟩
  | cons d l ih2 =>
    intro vs r hd
    cases r with
    | cons q r =>
      rw [List.all_cons] at hd
      obtain ⟨as, r1, c1, z1⟩ := H q (andL hd)
      obtain ⟨bs, r2, c2, z2⟩ := ih2 _ r (andR hd)
      exact ⟨as ++ bs, .cons r1 r2, (congr (congrArg and c1) c2 : _ = (true && true)), Nat.max_le.mpr ⟨z1, z2⟩⟩
theorem dat_reads {h : Heap} : ∀ (n : Nat) {d : V} {v : Value}, Rel hb h d v → V.dat n d = true → DatR h n d v := by
  intro n
  induction n with
  | zero =>
    intro d v r hd
    cases r with
    | non => exact ⟨_, .none, rfl, Nat.zero_le _⟩
    | int i t => exact ⟨_, .int i t, rfl, Nat.zero_le _⟩
    | str t e => exact strR e
    | _ => exact ff hd
  | succ n ih =>
    intro d v r hd
    cases r with
    | non => exact ⟨_, .none, rfl, Nat.zero_le _⟩
    | int i t => exact ⟨_, .int i t, rfl, Nat.zero_le _⟩
    | str t e => exact strR e
    | tup e c hd' rl =>
      obtain ⟨as, r1, c1, z1⟩ := dats_of ih _ _ rl hd
      exact ⟨as, .tuple e c hd' r1, c1, Nat.succ_le_succ z1⟩
    | _ => exact ff hd
theorem dats_reads {h : Heap} {n : Nat} : ∀ (l : List V) (vs : List Value), RelL hb h l vs → l.all (V.dat n) = true → ∃ as, ReadsAll h vs (pyDs l) as ∧ PyData.canLayAll0 (pyDs l) = true ∧ PyData.depthAll (pyDs l) ≤ n := dats_of (dat_reads n)
theorem eqv_str {i j : Nat} {x y : Str} (e1 : symL[i]? = some x) (e2 : symL[j]? = some y) : PyData.eqv (pyD (.str i)) (pyD (.str j)) = veq (.str i) (.str j) := by
  show (symL.getD i Str.empty == symL.getD j Str.empty) = (i == j)
  rw [symGet e1, symGet e2]
  by_cases z : i = j
  · subst z; rw [e1] at e2; cases e2; rw [beq_self_eq_true, beq_self_eq_true]
  · have : x ≠ y := fun w => z (sym_inj e1 (by rw [w]; exact e2))
    rw [beq_false_of_ne this, beq_false_of_ne z]
theorem eqv_lists {h h' : Heap} {n k : Nat} (H : ∀ {d e : V} {v u : Value}, Rel hb h d v → Rel hb h' e u → V.dat n d = true → V.dat k e = true → PyData.eqv (pyD d) (pyD e) = veq d e) :
    ∀ {l m : List V} {vs us : List Value}, RelL hb h l vs → RelL hb h' m us → l.all (V.dat n) = true → m.all (V.dat k) = true → PyData.eqvAll (pyDs l) (pyDs m) = veqs l m := by
  intro l
  induction l with
  | nil => intro m _ _ _ _ _ _; cases m <;> rfl
  | cons d l ih =>
    intro m vs us r q h1 h2
    cases m with
    | nil => rfl
    | cons e m =>
      cases r with
      | cons r1 r2 =>
        cases q with
        | cons q1 q2 =>
          rw [List.all_cons] at h1 h2
          show (PyData.eqv (pyD d) (pyD e) && PyData.eqvAll (pyDs l) (pyDs m)) = (veq d e && veqs l m)
          rw [H r1 q1 (andL h1) (andL h2), ih r2 q2 (andR h1) (andR h2)]
theorem dat_elim {n : Nat} {d : V} {P : V → Prop} (h : V.dat n d = true) (f1 : P .non) (f2 : ∀ i, P (.int i)) (f3 : ∀ k, P (.str k)) (f4 : ∀ l m, n = m + 1 → l.all (V.dat m) = true → P (.tup l)) : P d := by
  cases d with
  | non => exact f1
  | int i => exact f2 i
  | str k => exact f3 k
  | tup l => cases n with
    | zero => cases h
    | succ m => exact f4 l m rfl h
  | _ => cases n <;> cases h
theorem eqv_veq {h h' : Heap} : ∀ {n k : Nat} {d e : V} {v u : Value}, Rel hb h d v → Rel hb h' e u → V.dat n d = true → V.dat k e = true → PyData.eqv (pyD d) (pyD e) = veq d e := by
  intro n
  induction n with
  | zero =>
    intro k d e v u r q h1 h2
    refine dat_elim (P := fun d => Rel hb h d v → PyData.eqv (pyD d) (pyD e) = veq d e) h1 (fun _ => ?_) (fun i _ => ?_) (fun a r => ?_) (fun l m z => nomatch z) r
    · exact dat_elim (P := fun e => PyData.eqv (pyD .non) (pyD e) = veq .non e) h2 rfl (fun _ => rfl) (fun _ => rfl) fun _ _ _ _ => rfl
    · exact dat_elim (P := fun e => PyData.eqv (pyD (.int i)) (pyD e) = veq (.int i) e) h2 rfl (fun _ => rfl) (fun _ => rfl) fun _ _ _ _ => rfl
    · refine dat_elim (P := fun e => Rel hb h' e u → PyData.eqv (pyD (.str a)) (pyD e) = veq (.str a) e) h2 (fun _ => rfl) (fun _ _ => rfl) (fun b q => ?_) (fun _ _ _ _ _ => rfl) q
      obtain ⟨_, _, _, e1⟩ := r.str_inv; obtain ⟨_, _, _, e2⟩ := q.str_inv; exact eqv_str e1 e2
  | succ n ih =>
    intro k d e v u r q h1 h2
    refine dat_elim (P := fun d => Rel hb h d v → PyData.eqv (pyD d) (pyD e) = veq d e) h1 (fun _ => ?_) (fun i _ => ?_) (fun a r => ?_) (fun l m z hl rt => ?_) r
    · exact dat_elim (P := fun e => PyData.eqv (pyD .non) (pyD e) = veq .non e) h2 rfl (fun _ => rfl) (fun _ => rfl) fun _ _ _ _ => rfl
    · exact dat_elim (P := fun e => PyData.eqv (pyD (.int i)) (pyD e) = veq (.int i) e) h2 rfl (fun _ => rfl) (fun _ => rfl) fun _ _ _ _ => rfl
    · refine dat_elim (P := fun e => Rel hb h' e u → PyData.eqv (pyD (.str a)) (pyD e) = veq (.str a) e) h2 (fun _ => rfl) (fun _ _ => rfl) (fun b q => ?_) (fun _ _ _ _ _ => rfl) q
      obtain ⟨_, _, _, e1⟩ := r.str_inv; obtain ⟨_, _, _, e2⟩ := q.str_inv; exact eqv_str e1 e2
    · refine dat_elim (P := fun e => Rel hb h' e u → PyData.eqv (pyD (.tup l)) (pyD e) = veq (.tup l) e) h2 (fun _ => rfl) (fun _ _ => rfl) (fun _ _ => rfl) (fun l' m' _ hl' q => ?_) q
      cases z
      cases rt with
      | tup _ _ _ r1 => cases q with
        | tup _ _ _ q1 => exact eqv_lists (n := n) (k := m') (fun r q => ih r q) r1 q1 hl hl'
theorem eqv_veqs {h h' : Heap} {l m : List V} {vs us : List Value} {n k : Nat} (r : RelL hb h l vs) (q : RelL hb h' m us) (h1 : l.all (V.dat n) = true) (h2 : m.all (V.dat k) = true) : PyData.eqvAll (pyDs l) (pyDs m) = veqs l m :=
  eqv_lists (fun r q => eqv_veq r q) r q h1 h2
end
end Mine
namespace Mine
section
variable {prog : Program} {w : World} {A : Around} {E : Value → Shared → Prop} {s : Shared} {hb : Heap} {σ : Sto} {v u : Value} {x y : V} {Q : V → Sto → Prop} {QQ : Value → Shared → Prop} {fr : List Env} {n : Nat}
theorem list_size {h : Heap} {l : List V} {xs : Array Value} (r : RelL hb h l xs.toList) : xs.size = l.length := by rw [← Array.length_toList]; exact r.length.symm
theorem LB63 : LB < 2 ^ 62 := by decide
theorem shp {d : PyData} (h1 : d.canLay0 = true) (h2 : d.depth ≤ 5) : SeqAt.shaped d = true := by
  unfold SeqAt.shaped; rw [h1, Bool.true_and]; exact decide_eq_true (Nat.le_trans h2 (by decide))
/-- what == looks at -/
theorem sEqv (I : Inv hb σ s.heap) (r : Rel hb s.heap x v) (q : Rel hb s.heap y u) {QB : Bool → Prop} (h : vEq x y σ QB) {P : Value → Value → Prop} (cb : ∀ a b, QB (a == b) → P (.bool a) (.bool b)) (cs : ∀ a t b t', QB (a == b) → P (.str a t) (.str b t'))
    (cd : ∀ {v u d e as bs}, Reads s.heap v d as → Reads s.heap u e bs → SeqAt.shaped d = true → SeqAt.shaped e = true → QB (PyData.eqv d e) → P v u) : P v u := by
  have dat : ∀ {x : V} {v : Value}, Rel hb s.heap x v → datEq x y QB → P v u := fun r h => by
    obtain ⟨d1, d2, h⟩ := dats_inv h
    obtain ⟨as, a1, c1, z1⟩ := dat_reads _ r d1
    obtain ⟨bs, a2, c2, z2⟩ := dat_reads _ q d2
    exact cd a1 a2 (shp c1 (Nat.le_succ_of_le z1)) (shp c2 (Nat.le_succ_of_le z2)) (by rw [eqv_veq r q d1 d2]; exact h)
  cases r with
  | bool a => cases q with
    | bool b => exact cb _ _ h
    | _ => exact h.elim
  | txt a t => cases q with
    | txt b t' => exact cs _ _ _ _ h
    | _ => exact h.elim
  | list a =>
    refine q.onL (P := fun u => P _ u) h fun b h => ?_
    obtain ⟨l, m, e1, e2, d1, d2, h⟩ := h
    refine I.lists e1 fun xs _ p1 _ _ r1 => I.lists e2 fun ys _ p2 _ _ r2 => ?_
    obtain ⟨as, a1, c1, z1⟩ := dats_reads l _ r1 d1
    obtain ⟨bs, a2, c2, z2⟩ := dats_reads m _ r2 d2
    exact cd (Reads.list p1 rfl rfl a1) (Reads.list p2 rfl rfl a2) (shp (by rw [PyData.canLay0]; exact c1) (Nat.succ_le_succ z1)) (shp (by rw [PyData.canLay0]; exact c2) (Nat.succ_le_succ z2)) (by rw [PyData.eqv, eqv_veqs r1 r2 d1 d2]; exact h)
  | non => exact dat .non h
  | int i t => exact dat (.int i t) h
  | str t e => exact dat (.str t e) h
  | tup e c hd rl => exact dat (.tup e c hd rl) h
  | frz e rl => exact dat (.frz e rl) h
  | rng e => exact dat (.rng e) h
  | raw => exact dat (.raw _) h
theorem sEq (I : Inv hb σ s.heap) (hu : A.units + 64 < cLine) (r : Rel hb s.heap x v) (q : Rel hb s.heap y u) {QB : Bool → Prop} (h : vEq x y σ QB) (k : ∀ b, QB b → QQ (.bool b) s) : wpAny (model prog w) A (compareOp .Eq v u) QQ E s :=
  sEqv I r q h (P := fun v u => wpAny (model prog w) A (compareOp .Eq v u) QQ E s) (fun _ _ h => eq_bool (k _ h)) (fun _ _ _ _ h => eq_str (k _ h)) fun a b c d h => eq_dataH a b c d hu (k _ h)
theorem sNe (I : Inv hb σ s.heap) (hu : A.units + 64 < cLine) (r : Rel hb s.heap x v) (q : Rel hb s.heap y u) {QB : Bool → Prop} (h : vEq x y σ fun b => QB (!b)) (k : ∀ b, QB b → QQ (.bool b) s) : wpAny (model prog w) A (compareOp .NotEq v u) QQ E s :=
  sEqv I r q h (P := fun v u => wpAny (model prog w) A (compareOp .NotEq v u) QQ E s) (fun a b h => PyProof.Rows.ne_bool (show QQ (.bool (!(a == b))) s from k _ h)) (fun _ _ _ _ h => ne_str (k _ h)) fun a b c d h => ne_dataH a b c d hu (k _ h)
theorem any_eqv {h h' : Heap} {d : V} {v : Value} (r : Rel hb h' d v) (hd : V.dat 4 d = true) : ∀ (l : List V) (vs : List Value), RelL hb h l vs → l.all (V.dat 4) = true → ((pyDs l).any fun y => y.eqv (pyD d)) = l.any fun y => veq y d := by
  intro l
  induction l with
  | nil => intro _ _ _; rfl
  | cons e l ih =>
    intro vs rl hl
    cases rl with
    | cons q rl =>
      rw [List.all_cons] at hl
      rw [pyDs, List.any_cons, List.any_cons, eqv_veq q r (andL hl) hd, ih _ rl (andR hl)]
theorem sIn (hu : A.units + 64 < cLine) (r : Rel hb s.heap x v) (q : Rel hb s.heap y u) {QB : Bool → Prop} (h : vIn x y QB) (k : ∀ b, QB b → QQ (.bool b) s) : wpAny (model prog w) A (compareOp .In v u) QQ E s := by
  cases q with
  | @tup a o xs m l e c hd rl =>
    obtain ⟨d1, d2, h⟩ := vIn_inv h
    obtain ⟨as, a1, c1, z1⟩ := dats_reads l _ rl d1
    obtain ⟨bs, a2, c2, z2⟩ := dat_reads _ r d2
    exact SeqAt.in_tuple_reads (Reads.tuple e c hd a1) a2 c1 c2 (by have := Nat.min_le_right (PyData.depthAll (pyDs l)) (pyD x).depth; lia) (k _ (by rw [any_eqv r d2 l _ rl d1]; exact h))
  | _ => exact h.elim
theorem sNotIn (hu : A.units + 64 < cLine) (r : Rel hb s.heap x v) (q : Rel hb s.heap y u) {QB : Bool → Prop} (h : vIn x y fun b => QB (!b)) (k : ∀ b, QB b → QQ (.bool b) s) : wpAny (model prog w) A (compareOp .NotIn v u) QQ E s := by
  cases q with
  | @tup a o xs m l e c hd rl =>
    obtain ⟨d1, d2, h⟩ := vIn_inv h
    obtain ⟨as, a1, c1, z1⟩ := dats_reads l _ rl d1
    obtain ⟨bs, a2, c2, z2⟩ := dat_reads _ r d2
    exact SeqAt.notIn_tuple_reads (Reads.tuple e c hd a1) a2 c1 c2 (by have := Nat.min_le_right (PyData.depthAll (pyDs l)) (pyD x).depth; lia) (k _ (by rw [any_eqv r d2 l _ rl d1]; exact h))
  | _ => exact h.elim
theorem rel_none {h : Heap} {QB : Bool → Prop} (r : Rel hb h x v) (q : Rel hb h y u) (c : vIs x y QB) : u = .none ∧ QB (v == Value.none) := by
  cases q with
  | non => cases r <;> first | exact ⟨rfl, c⟩ | exact c.elim
  | _ => exact c.elim
theorem sCmp {op : CmpOp} (I : Inv hb σ s.heap) (hu : A.units + 64 < cLine) (r : Rel hb s.heap x v) (q : Rel hb s.heap y u) {QB : Bool → Prop} (h : vCmp op x y σ QB) (k : ∀ b, QB b → QQ (.bool b) s) : wpAny (model prog w) A (compareOp op v u) QQ E s := by
  cases op with
  | Eq => exact sEq I hu r q h k
  | NotEq => exact sNe I hu r q h k
  | In => exact sIn hu r q h k
  | NotIn => exact sNotIn hu r q h k
  | Is => obtain ⟨rfl, h⟩ := rel_none r q h; exact is_none (k _ h)
  | IsNot => obtain ⟨rfl, h⟩ := rel_none (QB := fun b => QB (!b)) r q h; exact isNot_none (k _ h)
  | Lt => exact r.onI h fun _ _ h => q.onI h fun _ _ h => PyProof.Rows.lt_int (k _ h)
  | LtE => exact r.onI h fun _ _ h => q.onI h fun _ _ h => PyProof.Rows.le_int (k _ h)
  | Gt => exact r.onI h fun _ _ h => q.onI h fun _ _ h => PyProof.Rows.gt_int (k _ h)
  | GtE => exact r.onI h fun _ _ h => q.onI h fun _ _ h => PyProof.Rows.ge_int (k _ h)
/-! items -/
theorem gives_getitem_bool (x : Str) (b : Bool) (t : Tok) (c : Nat) (h : (seqIndex? (if b then 1 else 0) x.length).bind (x.cps[·]?) = some c) :
    Gives (Builtin.«str.__getitem__» ⟨[.str x t, .bool b], []⟩) (.str ⟨#[c]⟩) := by
  cases b
  · show Gives (match (seqIndex? (0 : Int) x.length).bind (x.cps[·]?) with
          | some c => retStr ⟨#[c]⟩
          | none => _) _
    simp only [Bool.false_eq_true, if_false] at h
    rw [h]
    exact .of_eq rfl
  · show Gives (match (seqIndex? (1 : Int) x.length).bind (x.cps[·]?) with
          | some c => retStr ⟨#[c]⟩
          | none => _) _
    simp only [if_true] at h
    rw [h]
    exact .of_eq rfl
theorem pyAt_rel {h : Heap} {l : List V} {vs : List Value} (r : RelL hb h l vs) {i : Int} {d : V} (e : pyAt l i = some d) :
    ∃ j v, vs[j]? = some v ∧ Rel hb h d v ∧ seqIndex? i vs.length = some j ∧ ((0 ≤ i ∧ j = i.toNat) ∨ (i < 0 ∧ 0 ≤ i + l.length ∧ j = (i + l.length).toNat)) := by
  have hl := r.length
  unfold pyAt at e
  split at e
  · rename_i h0
    obtain ⟨v, a, b⟩ := r.get e
    have hlt := (List.getElem?_eq_some_iff.mp a).1
    refine ⟨_, v, a, b, ?_, .inl ⟨h0, rfl⟩⟩
    rw [PySem.seqIndex_of h0 (by lia)]
  · rename_i h0
    split at e
    · rename_i h1
      obtain ⟨v, a, b⟩ := r.get e
      have hlt := (List.getElem?_eq_some_iff.mp a).1
      refine ⟨_, v, a, b, ?_, .inr ⟨by lia, h1, rfl⟩⟩
      rw [hl] at h1 ⊢
      rw [PySem.MeetsSeq.seqIndex_neg (by lia) h1]
    · cases e
theorem sIdx {QV : V → Prop} (I : Inv hb σ s.heap) (r : Rel hb s.heap x v) (q : Rel hb s.heap y u) (h : vIdx x y σ QV) (k : ∀ d v tk, Rel hb s.heap d v → QV d → QQ v { s with toks := tk }) : wpAny (model prog w) A (getItem v u) QQ E s := by
  cases r with
  | list a =>
    refine q.onI h fun i t h => ?_
    obtain ⟨l, d, e1, e2, h⟩ := h
    refine I.lists e1 fun xs n hp hs hz rl => ?_
    have hp : s.heap.PlainList a xs := ⟨n, hp⟩
    obtain ⟨j, v, a, b, _, c⟩ := pyAt_rel rl e2
    have hlt : j < xs.size := by have := (List.getElem?_eq_some_iff.mp a).1; simpa using this
    have := LB63
    have a' : xs[j]? = some v := by rw [← Array.getElem?_toList]; exact a
    rcases c with ⟨h0, rfl⟩ | ⟨h0, h1, rfl⟩
    · exact wpAny_getItem_list hp.isList h0 (by lia) a' (k _ _ s.toks b h)
    · exact wpAny_getItem_list_neg hp.isList h0 (by lia) (by lia) (by rw [hs]; exact a') (k _ _ s.toks b h)
  | tup e c hd rl =>
    refine q.onI h fun i t h => ?_
    obtain ⟨d, h0, h1, e2, h⟩ := h
    obtain ⟨j, v, a, b, c', _⟩ := pyAt_rel rl e2
    exact getItem_tuple ⟨_, e, c, _, hd⟩ (by lia) (by lia) (by simpa using c') (by rw [← Array.getElem?_toList]; exact a) (k _ _ s.toks b h)
  | @str m x' t ex =>
    have fin : ∀ {i : Int} {k' : Nat}, SymAt m i k' → ∃ c, (seqIndex? i x'.length).bind (x'.cps[·]?) = some c ∧ i.toNat < x'.cps.size ∧ ∀ t, Rel hb s.heap (.str k') (.str ⟨#[c]⟩ t) := by
      rintro i k' ⟨a, b, c, e1, e2, h0, e3, e4⟩
      rw [ex] at e1; cases e1
      have hlt := (Array.getElem?_eq_some_iff.mp e3).1
      have hl : x'.length = x'.cps.size := rfl
      exact ⟨c, by rw [PySem.seqIndex_of h0 (by lia)]; exact e3, hlt, fun _ => .str _ (e4 ▸ e2)⟩
    cases q with
    | int =>
      obtain ⟨k', hi, hk, h⟩ := h
      obtain ⟨c, e3, hlt, rr⟩ := fin hk
      obtain ⟨_, _, _, _, _, h0, _, _⟩ := hk
      exact PyProof.Rows.getItem_str (c := c) (by simp; lia) e3 (k _ _ _ (rr _) h)
    | bool =>
      obtain ⟨k', hk, h⟩ := h
      obtain ⟨c, e3, hlt, rr⟩ := fin hk
      exact getItem_gives (typeIs_str s x' t) (by decide) F.slot_str_getitem F.entry_str_getitem (F.args_str_getitem_2 _ _) (gives_getitem_bool x' _ t c e3) ⟨(by show 1 ≤ sizeLine; decide), k _ _ _ (rr _) h⟩
    | _ => exact h.elim
  | _ => exact h.elim
theorem GoodE.after {s' : Shared} {h : Heap} {tk : Nat} {σ₁ : Sto} (m : Mv hb No σ s.heap σ₁ h) (g : GoodE hb σ₁ { s with heap := h, toks := tk } Q v s') : GoodE hb σ s Q v s' := by
  obtain ⟨h', tk', σ', d, rfl, m', I, r, q⟩ := g
  exact ⟨h', tk', σ', d, rfl, m.trans m', I, r, q⟩
theorem slice_from {items : Array Value} {i : Int} {l : List V} {h : Heap} (rl : RelL hb h l items.toList) : RelL hb h (l.drop (cutAt i l.length)) (slicePick items (some i) none none).toList := by
  have hs := list_size rl
  unfold cutAt
  split
  · rename_i hi
    obtain ⟨k, hk, rfl⟩ : ∃ k : Nat, 1 ≤ k ∧ i = -(k : Int) := ⟨(-i).toNat, by lia, by lia⟩
    rw [slicePick_last _ _ hk]
    have : (-(k : Int) + (l.length : Int)).toNat = items.size - k := by lia
    rw [this]; simpa using rl.drop _
  · rename_i hi
    obtain ⟨k, rfl⟩ := Int.eq_ofNat_of_zero_le (Int.not_lt.mp hi)
    rw [slicePick_from']
    simpa using rl.drop _
theorem slice_upto {items : Array Value} {i : Int} {l : List V} {h : Heap} (rl : RelL hb h l items.toList) : RelL hb h (l.take (cutAt i l.length)) (slicePick items none (some i) none).toList := by
  have hs := list_size rl
  unfold cutAt
  split
  · rename_i hi
    obtain ⟨k, hk, rfl⟩ : ∃ k : Nat, 1 ≤ k ∧ i = -(k : Int) := ⟨(-i).toNat, by lia, by lia⟩
    rw [slicePick_butLast _ _ hk]
    have : (-(k : Int) + (l.length : Int)).toNat = items.size - k := by lia
    rw [this]; simpa using rl.take _
  · rename_i hi
    obtain ⟨k, rfl⟩ := Int.eq_ofNat_of_zero_le (Int.not_lt.mp hi)
    rw [slicePick_upto']
    simpa using rl.take _
/-- a slice, then the list it cuts -/
theorem goodCut {tk : Nat} {l : List V} {xs : Array Value} {o : Obj} (I : Inv hb σ s.heap) (r : RelL hb s.heap l xs.toList) (hz : l.length ≤ LB) (q : ∀ c, σ c = none → Q (.list c) (put σ c l)) :
    GoodE hb σ s Q (.ref (s.heap.objs.size + 1)) { s with heap := (s.heap.push o).push { cls := .type "list", data := .seq xs }, toks := tk } := by
  have m : Mv hb No σ s.heap σ (s.heap.push o) := .grown (push_keeps _ _)
  have g := goodNew (s := { s with heap := s.heap.push o }) (Q := Q) (tk := tk) (I.push o) (r.push o) hz q
  have e : (s.heap.push o).objs.size = s.heap.objs.size + 1 := Heap.size_push ..
  dsimp only at g
  rw [e] at g
  exact g.after (h := s.heap.push o) (tk := s.toks) m
/-- what a cut hands on -/
noncomputable def CutOf (s : Shared) (v lo hi : Value) (QQ : Value → Shared → Prop) : Prop :=
  ∃ l items a b, v = .ref l ∧ s.heap.IsList l items ∧ items.size ≤ sizeLine ∧ IsPart lo a ∧ IsPart hi b ∧
      QQ (.ref (s.heap.objs.size + 1)) { s with heap := (s.heap.push { cls := .type "slice", data := .fields #[lo, hi, .none] }).push { cls := .type "list", data := .seq (slicePick items a b none) } }
theorem sSlL (I : Inv hb σ s.heap) (r : Rel hb s.heap x v) (q : Rel hb s.heap y u) (h : vSlL x y σ Q) (k : ∀ v s', GoodE hb σ s Q v s' → QQ v s') : CutOf s v u .none QQ := by
  refine r.onL h fun a h => q.onI h fun i t h => ?_
  obtain ⟨l, e, _, h⟩ := h
  refine I.lists e fun xs n hp hs hz rl => ?_
  exact ⟨_, xs, some _, none, rfl, Heap.PlainList.isList ⟨n, hp⟩, by rw [hs]; exact Nat.le_trans hz LB_line, .int _ _, .none, k _ _ (goodCut (tk := s.toks) I (slice_from rl) (Nat.le_trans (by rw [List.length_drop]; exact Nat.sub_le _ _) hz) h)⟩
theorem sSlU (I : Inv hb σ s.heap) (r : Rel hb s.heap x v) (q : Rel hb s.heap y u) (h : vSlU x y σ Q) (k : ∀ v s', GoodE hb σ s Q v s' → QQ v s') : CutOf s v .none u QQ := by
  have tk : ∀ (l : List V) n, (l.take n).length ≤ l.length := fun l n => by rw [List.length_take]; exact Nat.min_le_right _ _
  cases r with
  | list a =>
    refine q.onI h fun i t h => ?_
    obtain ⟨l, e, _, h⟩ := h
    refine I.lists e fun xs n hp hs hz rl => ?_
    exact ⟨_, xs, none, some _, rfl, Heap.PlainList.isList ⟨n, hp⟩, by rw [hs]; exact Nat.le_trans hz LB_line, .none, .int _ _, k _ _ (goodCut (tk := s.toks) I (slice_upto rl) (Nat.le_trans (tk _ _) hz) h)⟩
  | frz hl rl =>
    refine q.onI h fun i t h => ?_
    obtain ⟨hz, _, h⟩ := h
    obtain ⟨o, e, r⟩ := hl
    exact ⟨_, _, none, some _, rfl, ⟨o, I.base _ _ e, r⟩, by rw [list_size rl]; exact Nat.le_trans hz LB_line, .none, .int _ _, k _ _ (goodCut (tk := s.toks) I (slice_upto rl) (Nat.le_trans (tk _ _) hz) h)⟩
  | _ => exact h.elim
noncomputable def Mi.id : Mi → String | .append => "list.append" | .pop => "list.pop" | .extend => "list.extend"
noncomputable def Isi.val : Isi → String | .int => "int" | .str => "str" | .tup => "tuple"
theorem RelL.one_inv {h : Heap} {d : V} {us : List Value} (r : RelL hb h [d] us) : ∃ u, us = [u] ∧ Rel hb h d u := by
  cases r with
  | cons a r => cases r; exact ⟨_, rfl, a⟩
theorem one?_inv {ds : List V} {k : V → Prop} (h : one? ds k) : ∃ d, ds = [d] ∧ k d := by
  match ds, h with
  | [d], h => exact ⟨d, rfl, h⟩
theorem sMeth {m : Mi} {a : Addr} {ds : List V} {us : List Value} (I : Inv hb σ s.heap) (q : RelL hb s.heap ds us) (h : vMeth m a ds σ Q) (k : ∀ v s', GoodE hb σ s Q v s' → QQ v s') :
    wpAny (model prog w) A (call (.builtin m.id) (.ref a :: us)) QQ E s := by
  have := LB_line
  cases m with
  | append =>
    obtain ⟨d, rfl, h⟩ := one?_inv h
    obtain ⟨u, rfl, q1⟩ := q.one_inv
    obtain ⟨l, e, hz, h⟩ := h
    refine I.lists e fun xs n hp hs _ rl => ?_
    refine wpAny_list_append_plain ⟨n, hp⟩ (fun h' hp' hsb => k _ _ (goodUpd (tk := s.toks) I e hsb hp' (by rw [List.length_append]; exact hz) ?_ .non h)) (by lia)
    rw [Array.toList_push]; exact rl.append (.one q1)
  | pop =>
    cases q with
    | nil =>
      obtain ⟨l, d, e, hd, h⟩ := h
      refine I.lists e fun xs nn hp hs hz rl => ?_
      have hd' : l[l.length - 1]? = some d := by rw [← List.getLast?_eq_getElem?]; exact hd
      obtain ⟨y', a, b⟩ := rl.get hd'
      have hpos : 0 < l.length := List.length_pos_iff.mpr fun z => by rw [z] at hd; cases hd
      show wpAny _ _ (call (.builtin "list.pop") _) _ _ _
      refine call_meets F.slot_list_pop ⟨_, hp, rfl⟩ F.entry_list_pop (F.args_list_pop_1 _) (MeetsSeq.list_pop_last _ xs nn y' (by rw [hs, ← Array.getElem?_toList]; exact a) (by lia)) ⟨hp, ?_⟩
      have hup := IsL.update hp (fun xs' => xs'.eraseIdxIfInBounds (xs.size - 1))
      refine k _ _ (goodUpd (tk := s.toks) (l' := l.dropLast) I e (Heap.SameBut.update ..) ⟨_, hup⟩ (by rw [List.length_dropLast]; lia) ?_ b h)
      have : (xs.eraseIdxIfInBounds (xs.size - 1)).toList = xs.toList.dropLast := by
        unfold Array.eraseIdxIfInBounds
        rw [dif_pos (by lia), Array.toList_eraseIdx, List.dropLast_eq_take, List.eraseIdx_eq_take_drop_succ, List.drop_of_length_le (by simp; lia), List.append_nil, Array.length_toList]
      rw [this]; exact rl.dropLast
    | cons _ _ => exact h.elim
  | extend =>
    obtain ⟨x, rfl, h⟩ := one?_inv h
    obtain ⟨u, rfl, q1⟩ := q.one_inv
    refine q1.onL h fun b h => ?_
    obtain ⟨l, m', hne, e1, e2, hz, h⟩ := h
    refine I.lists e1 fun xs n1 hp hs _ rl => I.lists e2 fun ys n2 hp2 hs2 _ rl2 => ?_
    have hup := IsL.update hp (fun xs' => xs' ++ ys)
    show wpAny _ _ (call (.builtin "list.extend") _) _ _ _
    refine call_meets F.slot_list_extend ⟨_, hp, rfl⟩ F.entry_list_extend (F.args_list_extend_2 _ _) (AutoSeq1.list_extend_list_list_0 _ xs n1 _ ys n2 (extend_door (by lia)) (by lia) (by lia)) ⟨hp, hp2, ?_⟩
    refine k _ _ (goodUpd (tk := s.toks) (l' := l ++ m') I e1 (Heap.SameBut.update ..) ⟨_, hup⟩ (by rw [List.length_append]; exact hz) ?_ .non h)
    rw [Array.toList_append]; exact rl.append rl2
theorem sIsi {t : Isi} {b : Bool} (r : Rel hb s.heap x v) (h : vIsi x t = some b) (k : ∀ tk, QQ (.bool b) { s with toks := tk }) :
    wpAny (model prog w) A (call (.builtin "isinstance") [v, .type t.val]) QQ E s := by
  cases r <;> cases t <;> cases h
  · exact IsiPair.NoneType_int (k _)
  · exact IsiPair.NoneType_str (k _)
  · exact IsiPair.NoneType_tuple (k _)
  · exact IsiPair.int_int (k s.toks)
  · exact IsiPair.int_str (k _)
  · exact IsiPair.int_tuple (k _)
  · exact IsiPair.str_int (k _)
  · exact IsiPair.str_str (k s.toks)
  · exact IsiPair.str_tuple (k _)
  · rename_i e c hd _; exact IsiPair.tuple_int e c (k _)
  · rename_i e c hd _; exact IsiPair.tuple_str e c (k _)
  · rename_i e c hd _; exact IsiPair.tuple_tuple e c (k s.toks)
theorem sumV_ints {h : Heap} : ∀ {l : List V} {vs : List Value} {i : Int}, RelL hb h l vs → sumV l = some i → ∃ ns, IntsAre vs ns ∧ ns.sum = i := by
  intro l
  induction l with
  | nil => intro vs i r e; cases r; exact ⟨[], .nil, Option.some.inj e⟩
  | cons x l ih =>
    intro vs i r e
    cases x with
    | int j =>
      cases r with
      | cons q r =>
        obtain ⟨t, rfl⟩ := q.int_inv
        obtain ⟨i', e', rfl⟩ := Option.map_eq_some_iff.mp (show (sumV l).map (j + ·) = some i from e)
        obtain ⟨ns, a, b⟩ := ih r e'
        exact ⟨j :: ns, .cons _ _ a, by rw [List.sum_cons, b]⟩
    | _ => exact nns e
/-! repr -/
theorem mapO_cons {f : V → Option PyData} {d : V} {l : List V} {ps : List PyData} (h : mapO f (d :: l) = some ps) : ∃ p qs, f d = some p ∧ mapO f l = some qs ∧ p :: qs = ps := by
  have h : (match f d, mapO f l with | some a, some b => some (a :: b) | _, _ => none) = some ps := h
  cases e : f d with
  | none => rw [e] at h; exact nns h
  | some p =>
    cases e2 : mapO f l with
    | none => rw [e, e2] at h; exact nns h
    | some qs => rw [e, e2] at h; exact ⟨p, qs, rfl, rfl, Option.some.inj h⟩
theorem toPy_reads (I : Inv hb σ s.heap) : ∀ (n : Nat) {d : V} {v : Value} {p : PyData}, Rel hb s.heap d v → toPy σ n d = some p → ∃ as, Reads s.heap v p as ∧ p.depth ≤ n ∧ p.hasDict = false := by
  intro n
  induction n with
  | zero => intro d v p _ e; cases e
  | succ n ih =>
    have all : ∀ (l : List V) (vs : List Value) (ps : List PyData), RelL hb s.heap l vs → mapO (toPy σ n) l = some ps → ∃ as, ReadsAll s.heap vs ps as ∧ PyData.depthAll ps ≤ n ∧ PyData.hasDictAll ps = false := by
      intro l
      induction l with
      | nil => intro vs ps r e; cases r; cases e; exact ⟨[], .nil, Nat.zero_le _, rfl⟩
      | cons d l ih2 =>
        intro vs ps r e
        cases r with
        | cons q r =>
          obtain ⟨p, ps', e1, e2, rfl⟩ := mapO_cons e
          obtain ⟨as, a1, z1, y1⟩ := ih q e1
          obtain ⟨bs, a2, z2, y2⟩ := ih2 _ _ r e2
          exact ⟨as ++ bs, .cons a1 a2, Nat.max_le.mpr ⟨z1, z2⟩, (congr (congrArg or y1) y2 : _ = (false || false))⟩
    intro d v p r e
    cases r with
    | non => cases e; exact ⟨_, .none, Nat.zero_le _, rfl⟩
    | bool b => cases e; exact ⟨_, .bool b, Nat.zero_le _, rfl⟩
    | int i t => cases e; exact ⟨_, .int i t, Nat.zero_le _, rfl⟩
    | str t ex =>
      obtain ⟨x', h1, rfl⟩ := Option.map_eq_some_iff.mp (show (symL[_]?).map PyData.str = some p from e)
      cases h1.symm.trans ex
      exact ⟨_, .str _ t, Nat.zero_le _, rfl⟩
    | tup ea c hd rl =>
      obtain ⟨ps, e2, rfl⟩ := Option.map_eq_some_iff.mp (show (mapO (toPy σ n) _).map PyData.tuple = some p from e)
      obtain ⟨as, a, z, y⟩ := all _ _ _ rl e2
      exact ⟨as, .tuple ea c hd a, Nat.succ_le_succ z, y⟩
    | list a =>
      cases el : σ a with
      | none => exact nns ((show (match σ a with | some l => (mapO (toPy σ n) l).map PyData.list | none => none) = some p from e).symm.trans (by rw [el])).symm
      | some l =>
        have e : (mapO (toPy σ n) l).map PyData.list = some p := by
          have e : (match σ a with | some l => (mapO (toPy σ n) l).map PyData.list | none => none) = some p := e
          rwa [el] at e
        obtain ⟨ps, e2, rfl⟩ := Option.map_eq_some_iff.mp e
        obtain ⟨_, _, xs, ⟨m, hp⟩, rl⟩ := I.lst _ _ el
        obtain ⟨as, a, z, y⟩ := all _ _ _ rl e2
        exact ⟨_, .list hp rfl rfl a, Nat.succ_le_succ z, y⟩
    | _ => exact nns e
noncomputable def Bi.val : Bi → Value | .len => .builtin "len" | .range => .type "range" | .list => .type "list" | .tuple => .type "tuple" | .repr => .builtin "repr" | .abs => .builtin "abs" | .sum => .builtin "sum"
theorem sBi {b : Bi} (I : Inv hb σ s.heap) (hA : A.handled = none) (hg : A.guards = some []) (hu : A.units + 64 < cLine) (r : Rel hb s.heap x v) (h : vBi b x σ Q) (k : ∀ v s', GoodE hb σ s Q v s' → QQ v s') : wpAny (model prog w) A (call b.val [v]) QQ E s := by
  have := LB_line
  have := LB63
  have rep : ∀ {x : V} {a : Addr}, Rel hb s.heap x (.ref a) → RepC σ x Q → wpAny (model prog w) A (call (.builtin "repr") [.ref a]) QQ E s := fun r h => by
    obtain ⟨d, e, hs, hl, h⟩ := h
    obtain ⟨as, ra, z, nd⟩ := toPy_reads I _ r e
    exact repr_of_reads' ra hs (fun y => by rw [nd] at y; cases y) hg (by lia) (fun _ _ e => e) (fun h' u tk hk => k _ _ (goodE (.grown hk) (I.grown hk) (.txt _ u) h)) hl
  cases b with
  | len =>
    cases r with
    | list a =>
      obtain ⟨l, e, h⟩ := h
      exact I.lists e fun xs n hp hs hz rl => len_list (Heap.PlainList.isList ⟨n, hp⟩) (by lia) (k _ _ (goodE0 I (.int _ _) (by rw [hs]; exact h)))
    | tup e c hd rl =>
      have hs := list_size rl
      exact len_tuple ⟨_, e, c, _, hd⟩ (by have := h.1; lia) (k _ _ (goodE0 I (.int _ _) (by rw [hs]; exact h.2)))
    | str t ex =>
      obtain ⟨z, e1, h⟩ := h
      rw [ex] at e1; cases e1
      have := symLen _ (List.mem_of_getElem? ex)
      exact P.len_str (by lia) (k _ _ (goodE0 I (.int _ _) h))
    | _ => exact h.elim
  | range => exact r.onI h fun _ _ h => call_range_1 (k _ _ (goodE (.grown (push_keeps _ _)) (I.push _) (.rng (Heap.get?_push_size _ rfl)) h.2))
  | list =>
    refine r.onL h fun a h => ?_
    obtain ⟨l, e, h⟩ := h
    refine I.lists e fun xs m hp hs hz rl => ?_
    refine call_list_seq (hsz := by lia) _ (.inl rfl) hp rfl rfl fun h' c' hk hD => k _ _ ?_
    exact goodE (tk := s.toks) (.new hk (size_none _)) (I.new hk (size_none _) ⟨_, hD⟩ hz (rl.keeps fun b o e _ => hk b o e)) (.list _) (h _ (I.fresh (size_none _)))
  | tuple =>
    refine r.onL h fun a h => ?_
    obtain ⟨l, e, h⟩ := h
    refine I.lists e fun xs m hp hs hz rl => ?_
    refine call_tuple_list (Heap.PlainList.isList ⟨m, hp⟩) (fun h' hk => k _ _ ?_) (by lia)
    have hk' : ∀ b o, s.heap.get? b = some o → (h'.push { cls := .type "tuple", data := .seq xs }).get? b = some o := fun b o e => Heap.get?_push_of_some _ (hk b o e)
    exact goodE (tk := s.toks) (.grown hk') (I.grown hk') (.tup (Heap.get?_push_size _ rfl) rfl rfl (rl.keeps fun b o e _ => hk' b o e)) h
  | repr =>
    cases r with
    | list a => exact rep (.list a) h
    | tup e c hd rl => exact rep (.tup e c hd rl) h
    | _ => exact h.elim
  | abs => exact r.onI h fun _ _ h => call_abs_int fun u tk => k _ _ (goodE0 I (.int _ u) h)
  | sum =>
    refine r.onL h fun a h => ?_
    obtain ⟨l, i, e, es, h⟩ := h
    refine I.lists e fun xs m hp hs hz rl => ?_
    obtain ⟨ns, hi, hsum⟩ := sumV_ints rl es
    have hall := hi.allInts
    rw [Array.toArray_toList] at hall
    obtain ⟨ys, rfl⟩ := hall.items
    refine sum_intListG hA (Heap.PlainList.isList ⟨m, hp⟩) fun h' tk t' hk => k _ _ (goodE (.grown hk) (I.grown hk) ?_ h)
    have hn := hi.numsOf
    rw [nums_intItems] at hn
    have : preSum (numAt ys) ys.size = i := by
      rw [preSum_eq, List.take_of_length_le (by simp), hn]; exact hsum
    rw [this]; exact .int _ _
end
end Mine
namespace Mine
section
variable {prog : Program} {w : World} {A : Around} {E : Value → Shared → Prop} {s : Shared} {hb : Heap} {σ : Sto} {ρ : Loc} {env : Env} {nm : List Str} {fr : List Env} {n : Nat}
  {Q : V → Sto → Prop} {X : Sto → Prop} {QQ : Value → Shared → Prop}
noncomputable def RunE (prog : Program) (w : World) (A : Around) (t : Bool) (x : PySem.Expr) (env : Env) (QQ E : Value → Shared → Prop) (s : Shared) : Prop := match t with
  | false => wpAny (model prog w) A (eval x env) QQ E s
  | true => wpAny (model prog w) A (PySem.isTrue x env (eval x env)) (fun b s' => QQ (.bool b) s') E s
theorem BadE.after {h : Heap} {tk : Nat} {σ₁ : Sto} {S : Addr → Prop} {e : Value} {s' : Shared} (m : Mv hb S σ s.heap σ₁ h) (g : BadE hb dieC fr S σ₁ { s with heap := h, toks := tk } X e s') : BadE hb dieC fr S σ s X e s' := by
  obtain ⟨h1, h2, tk', σ', a, rfl, rfl, m', I, f, q⟩ := g
  exact ⟨h1, h2, tk', σ', a, rfl, rfl, m.trans m', I, f, q⟩
theorem At.units' (h : At A fr n) : A.units + 64 < cLine := by have := h.units; lia
theorem plainRun {t : Bool} {x : PySem.Expr} (hp : PySem.isTrue x env (eval x env) = (do let v ← eval x env; standAt x.pos; holding [v] (truthy v)))
    (h : ∀ QQ' : Value → Shared → Prop, (∀ v s', GoodE hb σ s (qq t Q) v s' → QQ' v s') → wpAny (model prog w) A (eval x env) QQ' E s) (k : ∀ v s', GoodE hb σ s Q v s' → QQ v s') : RunE prog w A t x env QQ E s := by
  cases t with
  | false => exact h _ k
  | true =>
    refine isTrue_plain (h _ fun v s' g => ?_) hp
    obtain ⟨h', tk, σ', d, rfl, m, I, r, q⟩ := g
    exact sTruth (s := { s with heap := h', toks := tk }) (Q := fun b => Q (.bool b) σ') I r q fun b tk' q => k _ _ (goodE m I (.bool b) q)
theorem Rel.base {h : Heap} (I : Inv hb σ h) {d : V} {v : Value} (r : Rel hb hb d v) : Rel hb h d v := r.keeps fun b o e _ => I.base b o e
/-- a global name -/
theorem globName (T : Top0 hb) (S : SS hb nm fr env σ ρ s.heap) {k : Nat} {x y : Str} {d : V} {pos : Pos} (hx : ((GLV[k]?).map Prod.fst == some x) = true) (hk : kGlo env.scope x = true) (hd : GLV[k]? = some (y, d))
    (q : ∀ v, Rel hb s.heap d v → QQ v s) : wpAny (model prog w) A (eval (.Name x pos) env) QQ E s := by
  rw [hd] at hx
  obtain rfl : y = x := by simpa using hx
  obtain ⟨mg, mb, h1, h2, h3, h4⟩ := T.ns
  obtain ⟨v, e, r⟩ := h3 k y d hd
  refine Calls.Name_function_global S.env.kind (eq_of_beq (andL hk)) (Calls.loadGlobal_global (mg := mg) ?_ e (q v (r.base S.inv))) (nott (andL (andR hk)))
  rw [S.env.gl]; exact h1.keeps S.inv.base
theorem biName (T : Top0 hb) (S : SS hb nm fr env σ ρ s.heap) {x : Str} {v : Value} {pos : Pos} (hk : kGlo env.scope x = true) (hb' : (x, v) ∈ biTab) (q : QQ v s) : wpAny (model prog w) A (eval (.Name x pos) env) QQ E s := by
  obtain ⟨mg, mb, h1, h2, h3, h4⟩ := T.ns
  obtain ⟨e1, e2⟩ := h4 x v hb'
  refine Calls.Name_function_global S.env.kind (eq_of_beq (andL hk)) (Calls.loadGlobal_builtin (mg := mg) (mb := mb) ?_ e1 ?_ e2 q) (nott (andL (andR hk)))
  · rw [S.env.gl]; exact h1.keeps S.inv.base
  · rw [S.env.bl]; exact h2.keeps S.inv.base
theorem locName (S : SS hb nm fr env σ ρ s.heap) {i : Nat} {x : Str} {d : V} {pos : Pos} (hx : (nm[i]? == some x) = true) (hk : kLoc env.scope x = true) (hd : lget ρ i = some d)
    (q : ∀ v, Rel hb s.heap d v → QQ v s) : wpAny (model prog w) A (eval (.Name x pos) env) QQ E s := by
  have k1 := andL hk
  obtain ⟨v, r, f⟩ := S.env.load (eq_of_beq hx) hd ((Bool.or_eq_true_iff.mp k1).elim (fun h => (Bool.or_eq_true_iff.mp h).elim (fun h => .inl (eq_of_beq h)) fun h => .inr (.inl (eq_of_beq h))) fun h => .inr (.inr (eq_of_beq h))) (nott (andL (andR hk))) (nott (andR (andR hk)))
  exact f _ _ _ _ _ _ rfl (q v r)
theorem starEach_cons {x : PySem.Expr} {xs : List PySem.Expr} (h : isStar x = false) : starEach (x :: xs) env = (false, eval x env) :: starEach xs env := by
  cases x <;> first | rfl | exact absurd (show true = false from h) nofun
noncomputable def noSt (xs : List PySem.Expr) : Bool := xs.all fun x => !isStar x
theorem backTo_no {pos : Pos} : ∀ {xs : List PySem.Expr}, noSt xs = true → ((backTo pos (starEach xs env)).any fun x => x.1) = false ∧ ((backTo pos (starEach xs env)).all fun x => !x.1) = true
  | [], _ => ⟨rfl, rfl⟩
  | x :: xs, h => by
    rw [starEach_cons (nott (andL h))]
    exact backTo_no (andR h)
/-- arguments of a call, when there are any -/
theorem evalArgs_of {pos : Pos} {f : Value} {x : PySem.Expr} {xs : List PySem.Expr} {Q : Args → Shared → Prop} (hs : isStar x = false)
    (h : wpAny (model prog w) A (spliced (backTo pos (starEach (x :: xs) env))) (fun vs s' => Q { pos := vs } s') E s) : wpAny (model prog w) A (evalArgs f true (backTo pos (starEach (x :: xs) env)) []) Q E s := by
  rw [starEach_cons hs] at h ⊢
  exact Calls.evalArgs_plain h
theorem slot_of_rel {h : Heap} {d : V} {v : Value} {c : V} {QV : V → Prop} (I : Inv hb σ h) (r : Rel hb h d v) (q : vIdx d c σ QV) (s : Shared) (e : s.heap = h) : ∃ T id, s.TypeIs v T ∧ typeLookup (.type T) "__getitem__" = pure (some (.builtin id)) := by
  subst e
  cases r with
  | tup e c hd rl => exact ⟨"tuple", _, ⟨_, e, c⟩, F.slot_tuple_getitem.lookup⟩
  | list a =>
    cases c with
    | int i => obtain ⟨l, d, e, _⟩ := q; exact I.lists e fun xs n hp _ _ _ => ⟨"list", _, (Heap.PlainList.isList ⟨n, hp⟩).typeIs, slot_list_getitem.lookup⟩
    | _ => exact q.elim
  | str t e => exact ⟨"str", _, typeIs_str _ _ _, F.slot_str_getitem.lookup⟩
  | _ => exact q.elim
theorem subscripted_plain {y : PySem.Expr} {v u : Value} (h : isSlc y = false) : subscripted y false v u = operate [v, u] (getItem v u) := by
  cases y <;> first | rfl | exact absurd (show true = false from h) nofun
theorem bim_of_set {op : CmpOp} {y : PySem.Expr} (h : isSet y = false) : behindInMarks op y = false := by
  cases y <;> first | rfl | exact absurd (show true = false from h) nofun
end
/-! ## expressions: what they look like, what they ask for, that it is enough -/
noncomputable def SndE (ck : List Str → Scope → PySem.Expr → Bool) (vc : Ctx → Nat → (Sto → Prop) → Bool → Loc → Sto → (V → Sto → Prop) → Prop) : Prop :=
  ∀ {K : Ctx} {n : Nat} {X : Sto → Prop} {nm : List Str} {A : Around} {env : Env} {fr : List Env} {s : Shared} {σ : Sto} {ρ : Loc} {t : Bool} {x : PySem.Expr} {Q : V → Sto → Prop} {QQ E : Value → Shared → Prop},
    At A fr n → SS K.hb nm fr env σ ρ s.heap → ck nm env.scope x = true → vc K n X t ρ σ Q → (∀ v s', GoodE K.hb σ s Q v s' → QQ v s') → (∀ e s', BadE K.hb dieC fr No σ s X e s' → E e s') → RunE K.prog K.w A t x env QQ E s
structure ME where
  ck : List Str → Scope → PySem.Expr → Bool
  vc : Ctx → Nat → (Sto → Prop) → Bool → Loc → Sto → (V → Sto → Prop) → Prop
  ok : SndE ck vc
noncomputable def SndEs (ck : List Str → Scope → List PySem.Expr → Bool) (vc : Ctx → Nat → (Sto → Prop) → Loc → Sto → (List V → Sto → Prop) → Prop) : Prop :=
  ∀ {K : Ctx} {n : Nat} {X : Sto → Prop} {nm : List Str} {A : Around} {env : Env} {fr : List Env} {s : Shared} {σ : Sto} {ρ : Loc} {pos : Pos} {xs : List PySem.Expr} {Q : List V → Sto → Prop} {QQ : List Value → Shared → Prop} {E : Value → Shared → Prop},
    At A fr n → SS K.hb nm fr env σ ρ s.heap → (noSt xs && ck nm env.scope xs) = true → vc K n X ρ σ Q → (∀ v s', GoodL K.hb σ s Q v s' → QQ v s') → (∀ e s', BadE K.hb dieC fr No σ s X e s' → E e s') →
    wpAny (model K.prog K.w) A (spliced (backTo pos (starEach xs env))) QQ E s
structure MEs where
  ck : List Str → Scope → List PySem.Expr → Bool
  vc : Ctx → Nat → (Sto → Prop) → Loc → Sto → (List V → Sto → Prop) → Prop
  ok : SndEs ck vc
noncomputable def SndBo (ck : List Str → Scope → List PySem.Expr → Bool) (vc : BoolOp → Ctx → Nat → (Sto → Prop) → Bool → Loc → Sto → (V → Sto → Prop) → Prop) : Prop :=
  ∀ {op : BoolOp} {K : Ctx} {n : Nat} {X : Sto → Prop} {nm : List Str} {A : Around} {env : Env} {fr : List Env} {s : Shared} {σ : Sto} {ρ : Loc} {t : Bool} {pos : Pos} {xs : List PySem.Expr} {Q : V → Sto → Prop} {QQ E : Value → Shared → Prop},
    At A fr n → SS K.hb nm fr env σ ρ s.heap → ck nm env.scope xs = true → vc op K n X t ρ σ Q → (∀ v s', GoodE K.hb σ s Q v s' → QQ v s') → (∀ e s', BadE K.hb dieC fr No σ s X e s' → E e s') →
    RunE K.prog K.w A t (.BoolOp op xs pos) env QQ E s
structure MBo where
  ck : List Str → Scope → List PySem.Expr → Bool
  vc : BoolOp → Ctx → Nat → (Sto → Prop) → Bool → Loc → Sto → (V → Sto → Prop) → Prop
  ok : SndBo ck vc
noncomputable def ME.var (i : Nat) : ME where
  ck nm sc := onName fun x _ => nm[i]? == some x && kLoc sc x
  vc K n X t ρ σ Q := onSome (lget ρ i) fun d => qq t Q d σ
  ok {K n X nm A env fr s σ ρ t x Q QQ E} hA S hm h k kE := by
    refine ofName (P := fun x => RunE K.prog K.w A t x env QQ E s) hm fun x p hm => plainRun rfl (fun QQ' k' => ?_) k
    exact ofSome h fun d hd h => locName S (andL hm) (andR hm) hd fun v r => k' _ _ (goodE0 (tk := s.toks) S.inv r h)
noncomputable def ME.non : ME where
  ck nm sc := onCon fun c _ _ => onCN c
  vc K n X t ρ σ Q := qq t Q .non σ
  ok {K n X nm A env fr s σ ρ t x Q QQ E} hA S hm h k kE :=
    ofCon (P := fun x => RunE K.prog K.w A t x env QQ E s) hm fun c _ _ hm => ofCN (P := fun c => RunE K.prog K.w A t (.Constant c _ _) env QQ E s) hm (plainRun rfl (fun QQ' k' => wpAny_Constant_none (k' _ _ (goodE0 (tk := s.toks) S.inv .non h))) k)
noncomputable def ME.bool (b : Bool) : ME where
  ck nm sc := onCon fun c _ _ => onCB (fun j => b == j) c
  vc K n X t ρ σ Q := qq t Q (.bool b) σ
  ok {K n X nm A env fr s σ ρ t x Q QQ E} hA S hm h k kE :=
    ofCon (P := fun x => RunE K.prog K.w A t x env QQ E s) hm fun c _ _ hm => ofCB (P := fun c => RunE K.prog K.w A t (.Constant c _ _) env QQ E s) hm fun j hj => eqb (P := fun j => RunE K.prog K.w A t (.Constant (.bool j) _ _) env QQ E s) hj
      (plainRun rfl (fun QQ' k' => wpAny_Constant_bool (k' _ _ (goodE0 (tk := s.toks) S.inv (.bool b) h))) k)
noncomputable def ME.int (i : Int) : ME where
  ck nm sc := onCon fun c _ _ => onCI (fun j => i == j) c
  vc K n X t ρ σ Q := qq t Q (.int i) σ
  ok {K n X nm A env fr s σ ρ t x Q QQ E} hA S hm h k kE :=
    ofCon (P := fun x => RunE K.prog K.w A t x env QQ E s) hm fun c _ _ hm => ofCI (P := fun c => RunE K.prog K.w A t (.Constant c _ _) env QQ E s) hm fun j hj => eqb (P := fun j => RunE K.prog K.w A t (.Constant (.int j) _ _) env QQ E s) hj
      (plainRun rfl (fun QQ' k' => wpAny_Constant_int (k' _ _ (goodE0 S.inv (.int i _) h))) k)
noncomputable def ME.str (j : Nat) : ME where
  ck nm sc := onCon fun c _ _ => onCS (fun x => symL[j]? == some x) c
  vc K n X t ρ σ Q := qq t Q (.str j) σ
  ok {K n X nm A env fr s σ ρ t x Q QQ E} hA S hm h k kE :=
    ofCon (P := fun x => RunE K.prog K.w A t x env QQ E s) hm fun c _ _ hm => ofCS (P := fun c => RunE K.prog K.w A t (.Constant c _ _) env QQ E s) hm fun j hj =>
      (plainRun rfl (fun QQ' k' => wpAny_Constant_str (k' _ _ (goodE0 S.inv (.str _ (eq_of_beq hj)) h))) k)
noncomputable def ME.glob (g : Nat) : ME where
  ck nm sc := onName fun x _ => (GLV[g]?).map Prod.fst == some x && kGlo sc x
  vc K n X t ρ σ Q := onSome GLV[g]? fun d => qq t Q d.2 σ
  ok {K n X nm A env fr s σ ρ t x Q QQ E} hA S hm h k kE := by
    refine ofName (P := fun x => RunE K.prog K.w A t x env QQ E s) hm fun x p hm => plainRun rfl (fun QQ' k' => ?_) k
    exact ofSome h fun d hd h => globName K.top S (andL hm) (andR hm) hd fun v r => k' _ _ (goodE0 (tk := s.toks) S.inv r h)
noncomputable def MEs.nil : MEs where
  ck _ _ xs := xs.isEmpty
  vc K n X ρ σ Q := Q [] σ
  ok {K n X nm A env fr s σ ρ pos xs Q QQ E} hA S hm h k kE := by
    obtain rfl := nilT (andR hm)
    exact wpAny_items_nil (k _ _ ⟨s.heap, s.toks, σ, [], rfl, .refl _ _, S.inv, .nil, h⟩)
noncomputable def MEs.cons (e : ME) (r : MEs) : MEs where
  ck nm sc := onC fun x xs => e.ck nm sc x && r.ck nm sc xs
  vc K n X ρ σ Q := e.vc K n X false ρ σ fun d σ => r.vc K n X ρ σ fun ds σ => Q (d :: ds) σ
  ok {K n X nm A env fr s σ ρ pos xs Q QQ E} hA S hm h k kE := by
    have h0 := andL hm
    refine ofC (P := fun xs => noSt xs = true → wpAny (model K.prog K.w) A (spliced (backTo pos (starEach xs env))) QQ E s) (andR hm) (fun x xs hm h0 => ?_) h0
    refine wpAny_items_cons (e.ok (t := false) hA S (andL hm) h (fun v s1 g => ?_) kE) (starEach_cons (nott (andL h0)))
    obtain ⟨h1, tk1, σ1, d1, rfl, m1, I1, r1, q1⟩ := g
    refine r.ok hA (S.mv m1 I1) (Bool.and_eq_true_iff.mpr ⟨andR h0, andR hm⟩) q1 (fun u s2 g => ?_) (fun e s' b => kE _ _ (b.after m1))
    obtain ⟨h2, tk2, σ2, d2, rfl, m2, I2, r2, q2⟩ := g
    exact k _ _ ⟨h2, tk2, σ2, _, rfl, m1.trans m2, I2, .cons (m2.rel I1 r1) r2, q2⟩
noncomputable def ME.tup (es : MEs) : ME where
  ck nm sc := onTup fun xs _ _ => noSt xs && es.ck nm sc xs
  vc K n X t ρ σ Q := es.vc K n X ρ σ fun ds σ => ds.length ≤ LB ∧ qq t Q (.tup ds) σ
  ok {K n X nm A env fr s σ ρ t x Q QQ E} hA S hm h k kE := by
    refine ofTup (P := fun x => RunE K.prog K.w A t x env QQ E s) hm fun xs _ p hm => plainRun rfl (fun QQ' k' => wpAny_Tuple (es.ok hA S hm h (fun vs s1 g => ?_) kE)) k
    obtain ⟨h1, tk1, σ1, d1, rfl, m1, I1, r1, hz, q1⟩ := g
    refine ⟨by rw [← r1.length]; exact Nat.le_trans hz LB_line, k' _ _ ?_⟩
    exact (goodE (s := { s with heap := h1, toks := tk1 }) (tk := tk1) (.grown (push_keeps _ _)) (I1.grown (push_keeps _ _)) (.tup (Heap.get?_push_size _ rfl) rfl rfl (r1.push _)) q1).after m1
noncomputable def ME.lst (es : MEs) : ME where
  ck nm sc := onLst fun xs _ => noSt xs && es.ck nm sc xs
  vc K n X t ρ σ Q := es.vc K n X ρ σ fun ds σ => ds.length ≤ LB ∧ New σ ds (qq t Q)
  ok {K n X nm A env fr s σ ρ t x Q QQ E} hA S hm h k kE := by
    refine ofLst (P := fun x => RunE K.prog K.w A t x env QQ E s) hm fun xs p hm => plainRun rfl (fun QQ' k' => wpAny_List (es.ok hA S hm h (fun vs s1 g => ?_) kE)) k
    obtain ⟨h1, tk1, σ1, d1, rfl, m1, I1, r1, hz, q1⟩ := g
    refine ⟨by rw [← r1.length]; exact Nat.le_trans hz LB_line, k' _ _ ?_⟩
    exact (goodNew (s := { s with heap := h1, toks := tk1 }) (tk := tk1) I1 r1 hz q1).after m1
noncomputable def ME.bin (op : Operator) (a b : ME) : ME where
  ck nm sc := onBin fun l o r _ => op == o && (a.ck nm sc l && b.ck nm sc r)
  vc K n X t ρ σ Q := a.vc K n X false ρ σ fun x σ => b.vc K n X false ρ σ fun y σ => Bar (vBin op x y σ (qq t Q))
  ok {K n X nm A env fr s σ ρ t x Q QQ E} hA S hm h k kE := by
    refine ofBin (P := fun x => RunE K.prog K.w A t x env QQ E s) hm fun l o r p hm => eqb (P := fun o => RunE K.prog K.w A t (.BinOp l o r p) env QQ E s) (andL hm) (plainRun rfl (fun QQ' k' => wpAny_BinOp ?_) k)
    refine a.ok (t := false) hA S (andL (andR hm)) h (fun v s1 g => ?_) kE
    obtain ⟨h1, tk1, σ1, d1, rfl, m1, I1, r1, q1⟩ := g
    refine b.ok (t := false) hA (S.mv m1 I1) (andR (andR hm)) q1 (fun u s2 g => ?_) (fun e s' b => kE _ _ (b.after m1))
    obtain ⟨h2, tk2, σ2, d2, rfl, m2, I2, r2, q2⟩ := g
    exact sBin (s := { s with heap := h2, toks := tk2 }) I2 (m2.rel I1 r1) r2 q2.un fun v s' g => k' _ _ (g.after (m1.trans m2))
noncomputable def ME.neg (a : ME) : ME where
  ck nm sc := onUn fun o x _ => UnaryOp.USub == o && a.ck nm sc x
  vc K n X t ρ σ Q := a.vc K n X false ρ σ fun x σ => onI x fun i => qq t Q (.int (-i)) σ
  ok {K n X nm A env fr s σ ρ t x Q QQ E} hA S hm h k kE := by
    refine ofUn (P := fun x => RunE K.prog K.w A t x env QQ E s) hm fun o x p hm => eqb (P := fun o => RunE K.prog K.w A t (.UnaryOp o x p) env QQ E s) (andL hm) (plainRun rfl (fun QQ' k' => wpAny_UnaryOp ?_) k)
    refine a.ok (t := false) hA S (andR hm) h (fun v s1 g => ?_) kE
    obtain ⟨h1, tk1, σ1, d1, rfl, m1, I1, r1, q1⟩ := g
    exact r1.onI q1 fun i _ q1 => neg_int (k' _ _ ((goodE0 (s := { s with heap := h1, toks := tk1 }) I1 (.int _ _) q1).after m1))
/-- a test's value -/
theorem ME.test (e : ME) {K : Ctx} {n : Nat} {X : Sto → Prop} {nm : List Str} {A : Around} {env : Env} {fr : List Env} {s : Shared} {σ : Sto} {ρ : Loc} {x : PySem.Expr} {Q : V → Sto → Prop} {QB : Bool → Shared → Prop} {E : Value → Shared → Prop}
    (hA : At A fr n) (S : SS K.hb nm fr env σ ρ s.heap) (hm : e.ck nm env.scope x = true) (h : e.vc K n X true ρ σ Q) (k : ∀ b s', GoodE K.hb σ s Q (.bool b) s' → QB b s') (kE : ∀ e s', BadE K.hb dieC fr No σ s X e s' → E e s') :
    wpAny (model K.prog K.w) A (PySem.isTrue x env (eval x env)) QB E s :=
  wpAny_mono (e.ok (t := true) (QQ := fun v s₂ => ∀ b, v = .bool b → QB b s₂) hA S hm h (fun v s1 g b e => k _ _ (e ▸ g)) kE) (fun b s' q => q b rfl) fun _ _ e => e
noncomputable def onB (x : V) (k : Bool → Prop) : Prop := match x with | .bool b => k b | _ => False
@[elab_as_elim] theorem Rel.onB {hb h : Heap} {d : V} {b : Bool} {k : Bool → Prop} {P : Bool → Prop} (r : Rel hb h d (.bool b)) (q : Mine.onB d k) (f : ∀ b, k b → P b) : P b := by
  cases r <;> first | exact f _ q | exact q.elim
noncomputable def ME.nt (a : ME) : ME where
  ck nm sc := onUn fun o x _ => UnaryOp.Not == o && a.ck nm sc x
  vc K n X t ρ σ Q := a.vc K n X t ρ σ fun x σ => vTruth x σ fun b => Q (.bool (!b)) σ
  ok {K n X nm A env fr s σ ρ t x Q QQ E} hA S hm h k kE := by
    refine ofUn (P := fun x => RunE K.prog K.w A t x env QQ E s) hm fun o x p hm => eqb (P := fun o => RunE K.prog K.w A t (.UnaryOp o x p) env QQ E s) (andL hm) ?_
    cases t with
    | false =>
      refine wpAny_UnaryOp (a.ok (t := false) hA S (andR hm) h (fun v s1 g => ?_) kE)
      obtain ⟨h1, tk1, σ1, d1, rfl, m1, I1, r1, q1⟩ := g
      exact not_of (sTruth (s := { s with heap := h1, toks := tk1 }) (Q := fun b => Q (.bool !b) σ1) I1 r1 q1 fun b tk q => k _ _ ((goodE0 (s := { s with heap := h1, toks := tk1 }) (tk := tk) I1 (.bool _) q).after m1))
    | true =>
      refine wpAny_isTrue_Not (a.test hA S (andR hm) h (fun b s1 g => ?_) kE)
      obtain ⟨h1, tk1, σ1, d1, rfl, m1, I1, r1, q1⟩ := g
      cases r1 with
      | bool b => exact k _ _ ((goodE0 (s := { s with heap := h1, toks := tk1 }) (tk := tk1) I1 (.bool _) q1).after m1)
      | raw => exact q1.elim
/-- two operands -/
theorem two_ops (a b : ME) {K : Ctx} {n : Nat} {X : Sto → Prop} {nm : List Str} {A : Around} {env : Env} {fr : List Env} {s : Shared} {σ : Sto} {ρ : Loc} {x y : PySem.Expr} {P : V → V → Sto → Prop} {QQ : Value → Value → Shared → Prop} {E : Value → Shared → Prop}
    (hA : At A fr n) (S : SS K.hb nm fr env σ ρ s.heap) (h1 : a.ck nm env.scope x = true) (h2 : b.ck nm env.scope y = true) (h : a.vc K n X false ρ σ fun u σ => b.vc K n X false ρ σ fun v σ => P u v σ)
    (k : ∀ v u d e h' tk σ', Mv K.hb No σ s.heap σ' h' → Inv K.hb σ' h' → SS K.hb nm fr env σ' ρ h' → Rel K.hb h' d v → Rel K.hb h' e u → P d e σ' → QQ v u { s with heap := h', toks := tk }) (kE : ∀ e s', BadE K.hb dieC fr No σ s X e s' → E e s') :
    wpAny (model K.prog K.w) A (eval x env) (fun v s1 => wpAny (model K.prog K.w) A (eval y env) (fun u s2 => QQ v u s2) E s1) E s := by
  refine a.ok (t := false) hA S h1 h (fun v s1 g => ?_) kE
  obtain ⟨h1, tk1, σ1, d1, rfl, m1, I1, r1, q1⟩ := g
  refine b.ok (t := false) hA (S.mv m1 I1) h2 q1 (fun u s2 g => ?_) (fun e s' b => kE _ _ (b.after m1))
  obtain ⟨h2, tk2, σ2, d2, rfl, m2, I2, r2, q2⟩ := g
  exact k _ _ _ _ _ _ _ (m1.trans m2) I2 ((S.mv m1 I1).mv m2 I2) (m2.rel I1 r1) r2 q2
noncomputable def ME.cmp (op : CmpOp) (a b : ME) : ME where
  ck nm sc := onCmp fun l os rs _ => on1 (fun o => on1 (fun r => op == o && (!isSet r && (a.ck nm sc l && b.ck nm sc r))) rs) os
  vc K n X t ρ σ Q := a.vc K n X false ρ σ fun x σ => b.vc K n X false ρ σ fun y σ => Bar (vCmp op x y σ fun r => Q (.bool r) σ)
  ok {K n X nm A env fr s σ ρ t x Q QQ E} hA S hm h k kE := by
    refine ofCmp (P := fun x => RunE K.prog K.w A t x env QQ E s) hm fun l os rs p hm => of1 (P := fun os => RunE K.prog K.w A t (.Compare l os rs p) env QQ E s) hm fun o hm => of1 (P := fun rs => RunE K.prog K.w A t (.Compare l [o] rs p) env QQ E s) hm fun r hm =>
      eqb (P := fun o => RunE K.prog K.w A t (.Compare l [o] [r] p) env QQ E s) (andL hm) ?_
    have hset := nott (andL (andR hm))
    have ha := andL (andR (andR hm))
    have hb' := andR (andR (andR hm))
    cases t with
    | false => exact wpAny_Compare1 (two_ops a b hA S ha hb' h (fun v u d e h' tk σ' m I _ r q hc => sCmp (s := { s with heap := h', toks := tk }) I hA.units' r q hc.un fun b q => k _ _ ((goodE0 (s := { s with heap := h', toks := tk }) (tk := tk) I (.bool b) q).after m)) kE) (bim_of_set hset)
    | true => exact wpAny_isTrue_Compare1 (two_ops a b hA S ha hb' h (fun v u d e h' tk σ' m I _ r q hc => sCmp (s := { s with heap := h', toks := tk }) I hA.units' r q hc.un fun b q => wpAny_truthy_bool (k _ _ ((goodE0 (s := { s with heap := h', toks := tk }) (tk := tk) I (.bool b) q).after m))) kE) (bim_of_set hset)
noncomputable def ME.chain (o1 o2 : CmpOp) (a b c : ME) : ME where
  ck nm sc := onCmp fun l os rs _ => on2 (fun u1 u2 => on2 (fun r1 r2 => o1 == u1 && (o2 == u2 && (!isSet r1 && (!isSet r2 && (a.ck nm sc l && (b.ck nm sc r1 && c.ck nm sc r2)))))) rs) os
  vc K n X t ρ σ Q := t = true ∧ a.vc K n X false ρ σ fun x σ => b.vc K n X false ρ σ fun y σ => Bar (vCmp o1 x y σ fun r => ifB r (c.vc K n X false ρ σ fun z σ => Bar (vCmp o2 y z σ fun r => Q (.bool r) σ)) (Q (.bool false) σ))
  ok {K n X nm A env fr s σ ρ t x Q QQ E} hA S hm h k kE := by
    refine ofCmp (P := fun x => RunE K.prog K.w A t x env QQ E s) hm fun l os rs p hm => of2 (P := fun os => RunE K.prog K.w A t (.Compare l os rs p) env QQ E s) hm fun u1 u2 hm => of2 (P := fun rs => RunE K.prog K.w A t (.Compare l [u1, u2] rs p) env QQ E s) hm fun r1 r2 hm =>
      eqb (P := fun u1 => RunE K.prog K.w A t (.Compare l [u1, u2] [r1, r2] p) env QQ E s) (andL hm) (eqb (P := fun u2 => RunE K.prog K.w A t (.Compare l [o1, u2] [r1, r2] p) env QQ E s) (andL (andR hm)) ?_)
    obtain ⟨rfl, h⟩ := h
    have hm := andR (andR hm)
    refine isTrue_chain ?_ (by unfold lastMarks lastMarks; exact bim_of_set (nott (andL (andR hm))))
    refine a.ok (t := false) hA S (andL (andR (andR hm))) h (fun v s1 g => ?_) kE
    obtain ⟨h1, tk1, σ1, d1, rfl, m1, I1, r1, q1⟩ := g
    refine test_link ?_
    refine b.ok (t := false) hA (S.mv m1 I1) (andL (andR (andR (andR hm)))) q1 (fun u s2 g => ?_) (fun e s' b => kE _ _ (b.after m1))
    obtain ⟨h2, tk2, σ2, d2, rfl, m2, I2, r2, q2⟩ := g
    refine sCmp (s := { s with heap := h2, toks := tk2 }) I2 hA.units' (m2.rel I1 r1) r2 q2.un fun b q => wpAny_truthy_bool ?_
    have m12 := m1.trans m2
    cases b with
    | false => exact k _ _ ((goodE0 (s := { s with heap := h2, toks := tk2 }) (tk := tk2) I2 (.bool _) q).after m12)
    | true =>
      refine test_last ?_
      refine c.ok (t := false) hA (S.mv m12 I2) (andR (andR (andR (andR hm)))) q (fun u s3 g => ?_) (fun e s' b => kE _ _ (b.after m12))
      obtain ⟨h3, tk3, σ3, d3, rfl, m3, I3, r3, q3⟩ := g
      exact sCmp (s := { s with heap := h3, toks := tk3 }) I3 hA.units' (m3.rel I2 r2) r3 q3.un fun b q => wpAny_truthy_bool (k _ _ ((goodE0 (s := { s with heap := h3, toks := tk3 }) (tk := tk3) I3 (.bool b) q).after (m12.trans m3)))
noncomputable def ME.bop (op : BoolOp) (es : MBo) : ME where
  ck nm sc := onBop fun o xs _ => op == o && es.ck nm sc xs
  vc K n X t ρ σ Q := es.vc op K n X t ρ σ Q
  ok {K n X nm A env fr s σ ρ t x Q QQ E} hA S hm h k kE :=
    ofBop (P := fun x => RunE K.prog K.w A t x env QQ E s) hm fun o xs p hm => eqb (P := fun o => RunE K.prog K.w A t (.BoolOp o xs p) env QQ E s) (andL hm) (es.ok hA S (andR hm) h k kE)
noncomputable def ME.ite (c a b : ME) : ME where
  ck nm sc := onIte fun x y z _ => c.ck nm sc x && (a.ck nm sc y && b.ck nm sc z)
  vc K n X t ρ σ Q := t = false ∧ c.vc K n X true ρ σ fun x σ => onB x fun x => ifB x (a.vc K n X false ρ σ Q) (b.vc K n X false ρ σ Q)
  ok {K n X nm A env fr s σ ρ t x Q QQ E} hA S hm h k kE := by
    refine ofIte (P := fun x => RunE K.prog K.w A t x env QQ E s) hm fun x y z p hm => ?_
    obtain ⟨rfl, h⟩ := h
    refine wpAny_IfExp (c.test (QB := fun b s' => if b then wpAny (model K.prog K.w) A (eval y env) QQ E s' else wpAny (model K.prog K.w) A (eval z env) QQ E s') hA S (andL hm) h (fun b1 s1 g => ?_) kE)
    obtain ⟨h1, tk1, σ1, d1, rfl, m1, I1, r1, q1⟩ := g
    refine r1.onB q1 fun bb q1 => ?_
    cases bb with
    | true => exact a.ok (t := false) hA (S.mv m1 I1) (andL (andR hm)) q1 (fun v s' g => k _ _ (g.after m1)) (fun e s' b => kE _ _ (b.after m1))
    | false => exact b.ok (t := false) hA (S.mv m1 I1) (andR (andR hm)) q1 (fun v s' g => k _ _ (g.after m1)) (fun e s' b => kE _ _ (b.after m1))
noncomputable def ME.idx (a i : ME) : ME where
  ck nm sc := onSub fun x y _ => !isSlc y && (a.ck nm sc x && i.ck nm sc y)
  vc K n X t ρ σ Q := a.vc K n X false ρ σ fun x σ => i.vc K n X false ρ σ fun y σ => Bar (vIdx x y σ fun d => qq t Q d σ)
  ok {K n X nm A env fr s σ ρ t x Q QQ E} hA S hm h k kE := by
    refine ofSub (P := fun x => RunE K.prog K.w A t x env QQ E s) hm fun x y p hm => plainRun rfl (fun QQ' k' => Subscript_ ?_) k
    refine two_ops a i hA S (andL (andR hm)) (andR (andR hm)) h (fun v u d e h' tk σ' m I _ r q hc => ?_) kE
    obtain ⟨T', id, hT', hl⟩ := slot_of_rel I r hc.un { s with heap := h', toks := tk } rfl
    exact tail_any hT' hl (sIdx (s := { s with heap := h', toks := tk }) (QV := fun d => qq t Q d σ') I r q hc.un fun d v tk2 r q => k' _ _ ((goodE0 (s := { s with heap := h', toks := tk }) (tk := tk2) I r q).after m)) (subscripted_plain (nott (andL hm)))
theorem nm_name {x : PySem.Expr} (h : onName (fun _ _ => true) x = true) (o r : Value) : letTemporaryGo x o r = pure () := ofName (P := fun x => letTemporaryGo x o r = pure ()) h fun y p _ => rfl
noncomputable def ME.slL (a i : ME) : ME where
  ck nm sc := onSub fun x y _ => onSlc (fun lo hi st _ => onO (fun lo => hi.isNone && (st.isNone && (onName (fun _ _ => true) x && (a.ck nm sc x && i.ck nm sc lo)))) lo) y
  vc K n X t ρ σ Q := a.vc K n X false ρ σ fun x σ => i.vc K n X false ρ σ fun y σ => Bar (vSlL x y σ (qq t Q))
  ok {K n X nm A env fr s σ ρ t x Q QQ E} hA S hm h k kE := by
    refine ofSub (P := fun x => RunE K.prog K.w A t x env QQ E s) hm fun x y p hm => ofSlc (P := fun y => RunE K.prog K.w A t (.Subscript x y p) env QQ E s) hm fun lo hi st q hm => ofO (P := fun lo => RunE K.prog K.w A t (.Subscript x (.Slice lo hi st q) p) env QQ E s) hm fun lo hm => ?_
    obtain rfl := nonT (andL hm)
    obtain rfl := nonT (andL (andR hm))
    have hm := andR (andR hm)
    refine plainRun rfl (fun QQ' k' => wpAny_Subscript_list_slice ?_ (nm_name (andL hm))) k
    refine a.ok (t := false) hA S (andL (andR hm)) h (fun v s1 g => ?_) kE
    obtain ⟨h1, tk1, σ1, d1, rfl, m1, I1, r1, q1⟩ := g
    refine evalPart_some_step (i.ok (t := false) hA (S.mv m1 I1) (andR (andR hm)) q1 (fun u s2 g => evalPart_none_step ?_) (fun e s' b => kE _ _ (b.after m1)))
    obtain ⟨h2, tk2, σ2, d2, rfl, m2, I2, r2, q2⟩ := g
    exact sSlL (s := { s with heap := h2, toks := tk2 }) I2 (m2.rel I1 r1) r2 q2.un fun v s' g => k' _ _ (g.after (m1.trans m2))
noncomputable def ME.slU (a i : ME) : ME where
  ck nm sc := onSub fun x y _ => onSlc (fun lo hi st _ => onO (fun hi => lo.isNone && (st.isNone && (onName (fun _ _ => true) x && (a.ck nm sc x && i.ck nm sc hi)))) hi) y
  vc K n X t ρ σ Q := a.vc K n X false ρ σ fun x σ => i.vc K n X false ρ σ fun y σ => Bar (vSlU x y σ (qq t Q))
  ok {K n X nm A env fr s σ ρ t x Q QQ E} hA S hm h k kE := by
    refine ofSub (P := fun x => RunE K.prog K.w A t x env QQ E s) hm fun x y p hm => ofSlc (P := fun y => RunE K.prog K.w A t (.Subscript x y p) env QQ E s) hm fun lo hi st q hm => ofO (P := fun hi => RunE K.prog K.w A t (.Subscript x (.Slice lo hi st q) p) env QQ E s) hm fun hi hm => ?_
    obtain rfl := nonT (andL hm)
    obtain rfl := nonT (andL (andR hm))
    have hm := andR (andR hm)
    refine plainRun rfl (fun QQ' k' => wpAny_Subscript_list_slice ?_ (nm_name (andL hm))) k
    refine a.ok (t := false) hA S (andL (andR hm)) h (fun v s1 g => evalPart_none_step ?_) kE
    obtain ⟨h1, tk1, σ1, d1, rfl, m1, I1, r1, q1⟩ := g
    refine evalPart_some_step (i.ok (t := false) hA (S.mv m1 I1) (andR (andR hm)) q1 (fun u s2 g => ?_) (fun e s' b => kE _ _ (b.after m1)))
    obtain ⟨h2, tk2, σ2, d2, rfl, m2, I2, r2, q2⟩ := g
    exact sSlU (s := { s with heap := h2, toks := tk2 }) I2 (m2.rel I1 r1) r2 q2.un fun v s' g => k' _ _ (g.after (m1.trans m2))
/-- a call of a def -/
inductive CallC (K : Ctx) (n : Nat) (X : Sto → Prop) (f : Value) (A : (List V → Sto → Prop) → Prop) (Q : V → Sto → Prop) : Prop
  | mk (S : FnSpec) (m : Nat) (hm : m ≤ n) (hF : FnOK K m f S) (k : A fun ds σ => S ds σ Q X)
theorem callIn (es : MEs) {K : Ctx} {n : Nat} {X : Sto → Prop} {nm : List Str} {A : Around} {env : Env} {fr : List Env} {s : Shared} {σ : Sto} {ρ : Loc} {pos : Pos} {xs : List PySem.Expr} {Q : V → Sto → Prop} {QQ E : Value → Shared → Prop} {f : Value}
    (hA : At A fr n) (S : SS K.hb nm fr env σ ρ s.heap) (hm : (noSt xs && es.ck nm env.scope xs) = true) (hne : xs ≠ []) (h : CallC K n X f (es.vc K n X ρ σ) Q) (k : ∀ v s', GoodE K.hb σ s Q v s' → QQ v s') (kE : ∀ e s', BadE K.hb dieC fr No σ s X e s' → E e s') :
    wpAny (model K.prog K.w) A (callWith pos f [] (backTo pos (starEach xs env)) []) QQ E s := by
  obtain ⟨Sp, m, hmn, hF, h⟩ := h
  obtain ⟨a, o, fd, rfl, ho, hd⟩ := hF.fn
  cases xs with
  | nil => exact absurd rfl hne
  | cons x xs =>
    refine Calls.callWith_function (o := o) (fd := fd) (evalArgs_of (nott (andL (andL hm))) (es.ok hA S hm h (fun vs s1 g => ?_) kE))
    obtain ⟨h1, tk1, σ1, d1, rfl, m1, I1, r1, q1⟩ := g
    refine ⟨⟨I1.base _ _ ho, hd⟩, ?_⟩
    exact hF.ok A fr { s with heap := h1, toks := tk1 } vs d1 σ1 Q X QQ E ⟨hA.handled, hA.frames, hA.guards, by have := hA.depth; lia, by have := hA.units; lia⟩ I1 (S.fr.mv S.inv m1) r1 q1 (fun v s' g => k _ _ (g.after m1)) (fun e s' b => kE _ _ (b.after m1))
noncomputable def onR (x : V) (k : Value → Prop) : Prop := match x with | .raw v => k v | _ => False
@[elab_as_elim] theorem Rel.onR {hb h : Heap} {x : V} {v : Value} {k : Value → Prop} {P : Value → Prop} (r : Rel hb h x v) (q : Mine.onR x k) (f : ∀ v, k v → P v) : P v := by
  cases r <;> first | exact f _ q | exact q.elim
noncomputable def ME.callG (g : Nat) (es : MEs) : ME where
  ck nm sc := onCall fun f xs ks _ => onName (fun x _ => ks.isEmpty && (((GLV[g]?).map Prod.fst == some x && kGlo sc x) && ((noSt xs && es.ck nm sc xs) && !xs.isEmpty))) f
  vc K n X t ρ σ Q := onSome GLV[g]? fun d => onR d.2 fun f => CallC K n X f (es.vc K n X ρ σ) (qq t Q)
  ok {K n X nm A env fr s σ ρ t x Q QQ E} hA S hm h k kE := by
    refine ofCall (P := fun x => RunE K.prog K.w A t x env QQ E s) hm fun f xs ks p hm => ofName (P := fun f => RunE K.prog K.w A t (.Call f xs ks p) env QQ E s) hm fun x q hm => ?_
    obtain rfl := nilT (andL hm)
    have hm := andR hm
    refine plainRun rfl (fun QQ' k' => wpAny_Call_NameR ?_) k
    exact ofSome h fun d hd h => globName K.top S (andL (andL hm)) (andR (andL hm)) hd fun v r => r.onR h fun f h => callIn es hA S (andL (andR hm)) (nilF (andR (andR hm))) h k' kE
noncomputable def ME.callV (i : Nat) (es : MEs) : ME where
  ck nm sc := onCall fun f xs ks _ => onName (fun x _ => ks.isEmpty && ((nm[i]? == some x && kLoc sc x) && ((noSt xs && es.ck nm sc xs) && !xs.isEmpty))) f
  vc K n X t ρ σ Q := onSome (lget ρ i) fun d => onR d fun f => CallC K n X f (es.vc K n X ρ σ) (qq t Q)
  ok {K n X nm A env fr s σ ρ t x Q QQ E} hA S hm h k kE := by
    refine ofCall (P := fun x => RunE K.prog K.w A t x env QQ E s) hm fun f xs ks p hm => ofName (P := fun f => RunE K.prog K.w A t (.Call f xs ks p) env QQ E s) hm fun x q hm => ?_
    obtain rfl := nilT (andL hm)
    have hm := andR hm
    refine plainRun rfl (fun QQ' k' => wpAny_Call_NameR ?_) k
    exact ofSome h fun d hd h => locName S (andL (andL hm)) (andR (andL hm)) hd fun v r => r.onR h fun f h => callIn es hA S (andL (andR hm)) (nilF (andR (andR hm))) h k' kE
theorem onR_raw {v : Value} {k : Value → Prop} : Mine.onR (.raw v) k = k v := rfl
noncomputable def Bi.at' : Bi → Nat | .len => 0 | .range => 1 | .list => 2 | .tuple => 3 | .repr => 4 | .abs => 5 | .sum => 6
theorem biMem (b : Bi) : (b.nm, b.val) ∈ biTab := List.mem_of_getElem? (i := b.at') (by cases b <;> rfl)
noncomputable def Isi.at' : Isi → Nat | .int => 8 | .str => 9 | .tup => 3
theorem isMem (b : Isi) : (b.nm, Value.type b.val) ∈ biTab := List.mem_of_getElem? (i := b.at') (by cases b <;> rfl)
noncomputable def ME.bi (b : Bi) (a : ME) : ME where
  ck nm sc := onCall fun f xs ks _ => onName (fun x _ => on1 (fun y => ks.isEmpty && (b.nm == x && (kGlo sc b.nm && (a.ck nm sc y && !isStar y)))) xs) f
  vc K n X t ρ σ Q := a.vc K n X false ρ σ fun x σ => Bar (vBi b x σ (qq t Q))
  ok {K n X nm A env fr s σ ρ t x Q QQ E} hA S hm h k kE := by
    refine ofCall (P := fun x => RunE K.prog K.w A t x env QQ E s) hm fun f xs ks p hm => ofName (P := fun f => RunE K.prog K.w A t (.Call f xs ks p) env QQ E s) hm fun z q hm => of1 (P := fun xs => RunE K.prog K.w A t (.Call (.Name z q) xs ks p) env QQ E s) hm fun x hm => ?_
    obtain rfl := nilT (andL hm)
    have hm := andR hm
    refine eqb (P := fun z => RunE K.prog K.w A t (.Call (.Name z q) [x] [] p) env QQ E s) (andL hm) (plainRun rfl (fun QQ' k' => wpAny_Call_NameR ?_) k)
    have hm := andR hm
    have hst := nott (andR (andR hm))
    have core : wpAny (model K.prog K.w) A (spliced (backTo p (starEach [x] env))) (fun vs s1 => wpAny (model K.prog K.w) A (call b.val vs) QQ' E s1) E s := by
      refine wpAny_items_cons ?_ (starEach_cons hst)
      refine a.ok (t := false) hA S (andL (andR hm)) h (fun v s1 g => ?_) kE
      obtain ⟨h1, tk1, σ1, d1, rfl, m1, I1, r1, q1⟩ := g
      exact wpAny_items_nil (sBi (s := { s with heap := h1, toks := tk1 }) I1 hA.handled hA.guards hA.units' r1 q1.un fun v s' g => k' _ _ (g.after m1))
    have pl : (backTo p (starEach [x] env)).any (·.1) = false := by rw [starEach_cons hst]; rfl
    refine biName K.top S (andL hm) (biMem b) ?_
    cases b <;> first | exact Calls.callWith_builtin pl (evalArgs_of hst core) | exact PySem.callWith_type pl (evalArgs_of hst core)
noncomputable def ME.isi (a : ME) (ty : Isi) : ME where
  ck nm sc := onCall fun f xs ks _ => onName (fun x _ => on2 (fun y z => onName (fun t _ => ks.isEmpty && (("isinstance" : Str) == x && (ty.nm == t && (kGlo sc "isinstance" && (kGlo sc ty.nm && (a.ck nm sc y && !isStar y)))))) z) xs) f
  vc K n X t ρ σ Q := a.vc K n X false ρ σ fun x σ => Bar (onSome (vIsi x ty) fun b => qq t Q (.bool b) σ)
  ok {K n X nm A env fr s σ ρ t x Q QQ E} hA S hm h k kE := by
    refine ofCall (P := fun x => RunE K.prog K.w A t x env QQ E s) hm fun f xs ks p hm => ofName (P := fun f => RunE K.prog K.w A t (.Call f xs ks p) env QQ E s) hm fun z q hm => of2 (P := fun xs => RunE K.prog K.w A t (.Call (.Name z q) xs ks p) env QQ E s) hm fun x y hm =>
      ofName (P := fun y => RunE K.prog K.w A t (.Call (.Name z q) [x, y] ks p) env QQ E s) hm fun y q' hm => ?_
    obtain rfl := nilT (andL hm)
    have hm := andR hm
    refine eqb (P := fun z => RunE K.prog K.w A t (.Call (.Name z q) [x, .Name y q'] [] p) env QQ E s) (andL hm) (eqb (P := fun y => RunE K.prog K.w A t (.Call (.Name "isinstance" q) [x, .Name y q'] [] p) env QQ E s) (andL (andR hm)) (plainRun rfl (fun QQ' k' => wpAny_Call_NameR ?_) k))
    have hm := andR (andR hm)
    have hst := nott (andR (andR (andR hm)))
    have pl : (backTo p (starEach [x, PySem.Expr.Name ty.nm q'] env)).any (·.1) = false := by rw [starEach_cons hst]; rfl
    refine biName (v := .builtin "isinstance") K.top S (andL hm) (List.mem_of_getElem? (i := 7) rfl) ?_
    refine Calls.callWith_builtin pl (evalArgs_of hst ?_)
    refine wpAny_items_cons ?_ (starEach_cons hst)
    refine a.ok (t := false) hA S (andL (andR (andR hm))) h (fun v s1 g => ?_) kE
    obtain ⟨h1, tk1, σ1, d1, rfl, m1, I1, r1, q1⟩ := g
    refine wpAny_items_cons ?_ (starEach_cons rfl)
    refine biName (s := { s with heap := h1, toks := tk1 }) K.top (S.mv m1 I1) (andL (andR hm)) (isMem ty) (wpAny_items_nil ?_)
    exact ofSome q1.un fun b e q1 => sIsi (s := { s with heap := h1, toks := tk1 }) r1 e fun tk => k' _ _ ((goodE0 (s := { s with heap := h1, toks := tk1 }) (tk := tk) I1 (.bool b) q1).after m1)
end Mine
namespace Mine
/-- where an iterator stands -/
noncomputable def ItAt (h : Heap) (I : Addr) (sv : V) (v : Value) (k : Nat) : Prop := match sv with
  | .list a => h.IsListIter I a k
  | .tup _ => ∃ t, v = .ref t ∧ h.IsTupleIter I t k
  | .rng n => IsRangeIter h I (k : Int) ((n.toNat : Int) - k) 1
  | _ => False
noncomputable def itemsOf (sv : V) (items : List V) : Prop := match sv with
  | .list _ => True
  | .tup l => items = l
  | .rng n => items = (List.range n.toNat).map fun (k : Nat) => V.int (k : Int)
  | _ => False
section
variable {prog : Program} {w : World} {A : Around} {E : Value → Shared → Prop} {s : Shared} {hb h h' : Heap} {σ σ' : Sto} {It : Addr} {sv : V} {v : Value} {k : Nat} {items : List V} {S : Addr → Prop}
theorem ItAt.fields (q : ItAt h It sv v k) : ∃ o xs, h.get? It = some o ∧ o.data = .fields xs ∧ o.cls ≠ .type "range" := by
  unfold ItAt at q
  split at q
  · obtain ⟨o, e, c, d⟩ := q; exact ⟨o, _, e, d, by rw [c]; decide⟩
  · obtain ⟨t, _, o, e, c, d⟩ := q; exact ⟨o, _, e, d, by rw [c]; decide⟩
  · exact ⟨_, _, q, rfl, by show ¬ (Value.type "range_iterator" = Value.type "range"); decide⟩
  · exact q.elim
theorem ItAt.at' (q : ItAt h It sv v k) (e : ∀ o, h.get? It = some o → h'.get? It = some o) : ItAt h' It sv v k := by
  unfold ItAt at q ⊢
  split at q
  · exact q.at e
  · obtain ⟨t, a, o, b, c⟩ := q; exact ⟨t, a, o, e o b, c⟩
  · exact e _ q
  · exact q.elim
theorem ItAt.no (I : Inv hb σ h) (q : ItAt h It sv v k) : σ It = none := by
  obtain ⟨o, xs, e, d, c⟩ := q.fields
  exact I.notList e fun z => by obtain ⟨_, ys, n, hd⟩ := z; rw [d] at hd; cases hd
theorem ItAt.mv (I : Inv hb σ h) (q : ItAt h It sv v k) (m : Mv hb S σ h σ' h') (n : ¬ S It) : ItAt h' It sv v k := by
  obtain ⟨o, xs, e, d, c⟩ := q.fields
  exact q.at' fun o' e' => by
    rw [e] at e'; cases e'
    exact (m.keep _ _ e (q.no I) n).fields d
theorem ItAt.side (q : ItAt h It sv v k) : Side (fun b => b = It) h := fun b o z e => by
  subst z
  obtain ⟨o', xs, e', d, c⟩ := q.fields
  rw [e] at e'; cases e'
  exact ⟨c, xs, d⟩
theorem ItAt.notOwn {nm : List Str} {env : Env} {ρ : Loc} (q : ItAt h It sv v k) (R : EnvR hb nm env ρ h) : ¬ ownA env It := fun z => by
  obtain ⟨o, xs, e, d, c⟩ := q.fields
  rcases z with rfl | ⟨x, z⟩
  · obtain ⟨m, ⟨o', es, ep, e', hd, _⟩, _⟩ := R.ns; rw [e] at e'; cases e'; rw [d] at hd; cases hd
  · obtain ⟨_, ov, o', e', hd⟩ := R.allc x It z; rw [e] at e'; cases e'; rw [d] at hd; cases hd
/-- one address beside the lists turned -/
theorem turnAt (I : Inv hb σ h) {a : Addr} (na : hb.get? a = none) (ns : σ a = none) (hs : Heap.ExtBut a h h') (so : Soft (fun b => b = a) h) : Mv hb (fun b => b = a) σ h σ h' ∧ Inv hb σ h' := by
  have m : Mv hb (fun b => b = a) σ h σ h' := ⟨fun b o e _ n => .inl (hs b o n e), fun _ e => e, fun _ _ e q => absurd e q, fun b n e q => by
    cases z : h.get? b with
    | none => exact e z
    | some o => rw [hs b o n z] at q; cases q⟩
  refine ⟨m, fun b o e => hs b o (fun z => by rw [z, na] at e; cases e) (I.base b o e), fun b l e => ?_⟩
  obtain ⟨n, z, xs, ⟨j, p⟩, r⟩ := I.lst b l e
  exact ⟨n, z, xs, ⟨j, hs b _ (fun y => by rw [y, ns] at e; cases e) p⟩, m.relLS I so r⟩
theorem sIter {QQ : Value → Shared → Prop} (I : Inv hb σ s.heap) (r : Rel hb s.heap sv v) (e : items? sv σ = some items) (hz : items.length ≤ LB)
    (q : ∀ It h' tk, s.heap.get? It = none → ItAt h' It sv v 0 → itemsOf sv items → Mv hb No σ s.heap σ h' → Inv hb σ h' → QQ (.ref It) { s with heap := h', toks := tk }) :
    wpAny (model prog w) A (pyIter v) QQ E s := by
  have hLB := LB63
  unfold items? at e
  split at e
  · obtain rfl := r.list_inv
    obtain ⟨_, _, xs, hp, rl⟩ := I.lst _ _ e
    exact wpAny_pyIter_list hp.isList (q _ _ _ (size_none _) ⟨_, Heap.get?_push_size _ rfl, rfl, rfl⟩ trivial (.grown (push_keeps _ _)) (I.push _))
  · rename_i n
    split at e
    · rename_i hlo
      cases e
      rw [List.length_map, List.length_range] at hz
      cases r with
      | rng hr =>
        refine wpAny_pyIter_range hr (small_one (by decide) (by decide) (by lia) (by lia)) (q _ _ _ (size_none _) ?_ rfl (.grown (push_keeps _ _)) (I.push _))
        have hs : Builtin.Range.rangeSize 0 n 1 = (n.toNat : Int) := by rw [rangeSize_one]; split <;> lia
        have := Heap.get?_push_size s.heap (o := { cls := .type "range_iterator", data := .fields #[rawInt 0, rawInt (Builtin.Range.rangeSize 0 n 1), rawInt 1] }) rfl
        rw [hs] at this ⊢
        show IsRangeIter _ _ _ _ _
        simpa [IsRangeIter] using this
    · cases e
  · cases e
    cases r with
    | tup e c hd rl =>
      exact wpAny_pyIter_tuple ⟨_, e, c, _, hd⟩ (q _ _ _ (size_none _) ⟨_, rfl, _, Heap.get?_push_size _ rfl, rfl, rfl⟩ rfl (.grown (push_keeps _ _)) (I.push _))
  · cases e
theorem sNext {QQ : Option Value → Shared → Prop} (hA : A.handled = none) (I : Inv hb σ s.heap) (r : Rel hb s.heap sv v) (hI : ItAt s.heap It sv v k) (hn : hb.get? It = none) (ho : itemsOf sv items) (hl : liveOk sv items σ)
    (q1 : ∀ d u h' tk, items[k]? = some d → Rel hb h' d u → ItAt h' It sv v (k + 1) → Mv hb (fun b => b = It) σ s.heap σ h' → Inv hb σ h' → QQ (some u) { s with heap := h', toks := tk })
    (q2 : ∀ h' tk, items.length ≤ k → Mv hb (fun b => b = It) σ s.heap σ h' → Inv hb σ h' → QQ none { s with heap := h', toks := tk }) :
    wpAny (model prog w) A (pyNext (.ref It)) QQ E s := by
  have ns := hI.no I
  have so := hI.side.soft
  unfold itemsOf at ho
  cases sv with
  | list a =>
    have hl' : σ a = some items := hl
    obtain rfl := r.list_inv
    obtain ⟨_, _, xs, hp, rl⟩ := I.lst _ _ hl'
    cases e : xs[k]? with
    | none =>
      refine wpAny_pyNext_list_end hA hI hp.isList e fun h' he => ?_
      obtain ⟨m, I'⟩ := turnAt I hn ns he so
      refine q2 _ _ ?_ m I'
      have := list_size rl
      have := Array.getElem?_eq_none_iff.mp e
      lia
    | some x =>
      refine wpAny_pyNext_list_item hI hp.isList e fun h' hi hs => ?_
      obtain ⟨m, I'⟩ := turnAt I hn ns hs.extBut so
      cases e2 : items[k]? with
      | none =>
        have := list_size rl
        have := List.getElem?_eq_none_iff.mp e2
        have := (Array.getElem?_eq_some_iff.mp e).1
        lia
      | some d =>
        obtain ⟨u, e3, ru⟩ := rl.get e2
        have : u = x := by rw [Array.getElem?_toList, e] at e3; cases e3; rfl
        subst this
        exact q1 _ _ _ _ e2 (m.relS I so ru) hi m I'
  | tup l =>
    subst ho
    cases r with
    | tup et c hd rl =>
      rename_i t o xs n
      obtain ⟨t', et', hi⟩ := hI
      cases et'
      cases e : xs[k]? with
      | none =>
        refine wpAny_pyNext_tuple_end hA hi ⟨_, et, c, _, hd⟩ e fun h' he => ?_
        obtain ⟨m, I'⟩ := turnAt I hn ns he so
        refine q2 _ _ ?_ m I'
        have := list_size rl
        have := Array.getElem?_eq_none_iff.mp e
        lia
      | some x =>
        refine wpAny_pyNext_tuple_item hi ⟨_, et, c, _, hd⟩ e fun h' hi' hs => ?_
        obtain ⟨m, I'⟩ := turnAt I hn ns hs.extBut so
        cases e2 : items[k]? with
        | none =>
          have := list_size rl
          have := List.getElem?_eq_none_iff.mp e2
          have := (Array.getElem?_eq_some_iff.mp e).1
          lia
        | some d =>
          obtain ⟨u, e3, ru⟩ := rl.get e2
          have : u = x := by rw [Array.getElem?_toList, e] at e3; cases e3; rfl
          subst this
          exact q1 _ _ _ _ e2 (m.relS I so ru) ⟨t, rfl, hi'⟩ m I'
  | rng n =>
    subst ho
    have hi : IsRangeIter s.heap It (k : Int) ((n.toNat : Int) - k) 1 := hI
    by_cases hk : k < n.toNat
    · refine wpAny_pyNext_range_item hi (by lia) fun h' hi' hs => ?_
      obtain ⟨m, I'⟩ := turnAt I hn ns hs.extBut so
      refine q1 (.int (k : Int)) _ _ _ (by simp [hk]) (.int _ _) ?_ m I'
      show IsRangeIter _ _ _ _ _
      have e1 : ((k + 1 : Nat) : Int) = (k : Int) + 1 := by lia
      have e2 : ((n.toNat : Int) - ((k + 1 : Nat) : Int)) = (n.toNat : Int) - k - 1 := by lia
      rw [e1, ← e1, e2, e1]; exact hi'
    · refine wpAny_pyNext_range_end hA hi (by lia) fun h' he => ?_
      obtain ⟨m, I'⟩ := turnAt I hn ns he so
      exact q2 _ _ (by simp; lia) m I'
  | _ => exact ho.elim
end
noncomputable def closAcc (cells : List (Str × Addr)) : List (Str × NameKind) → List (Str × Addr) → List (Str × Addr)
  | [], cs => cs
  | (n, k) :: r, cs => if k == .free then match cells.lookup n with
    | some a => closAcc cells r ((n, a) :: cs)
    | none => closAcc cells r cs
    else closAcc cells r cs
theorem clos_eq {scope : Scope} {env : Env} (h : ∀ y ∈ scope.names, y.2 = .free → (env.cells.lookup y.1).isSome = true) : closureFor scope env = pure (closAcc env.cells scope.names []) := by
  simp only [closureFor]
  have go : ∀ (names : List (Str × NameKind)) (cs : List (Str × Addr)), (∀ y ∈ names, y.2 = .free → (env.cells.lookup y.1).isSome = true) →
      (forIn names cs fun x r => (do
        let (name, kind) := x
        let mut cs := r
        if kind == .free then cs := (name, ← cellOf env name) :: cs
        pure (ForInStep.yield cs) : Sem (ForInStep (List (Str × Addr))))) = pure (closAcc env.cells names cs) := by
    intro names
    induction names with
    | nil => intro cs _; rfl
    | cons y r ih =>
      intro cs hy
      obtain ⟨n, k⟩ := y
      rw [List.forIn_cons]
      by_cases hk : (k == NameKind.free) = true
      · obtain ⟨a, ha⟩ := Option.isSome_iff_exists.mp (hy (n, k) List.mem_cons_self (by simpa using hk))
        have e : cellOf env n = pure a := by unfold cellOf; dsimp only at ha; rw [ha]
        simp only [hk, if_true, e, pure_bind, closAcc]
        dsimp only at ha
        rw [ha]
        exact ih _ fun y z => hy y (List.mem_cons_of_mem _ z)
      · simp only [Bool.not_eq_true] at hk
        simp only [hk, Bool.false_eq_true, if_false, pure_bind, closAcc]
        exact ih _ fun y z => hy y (List.mem_cons_of_mem _ z)
  have := go scope.names [] h
  simpa using this
theorem closAcc_mem {cells : List (Str × Addr)} : ∀ {names : List (Str × NameKind)} {cs : List (Str × Addr)} {x : Str} {c : Addr}, (x, c) ∈ closAcc cells names cs → (x, c) ∈ cs ∨ (cells.lookup x = some c ∧ (x, NameKind.free) ∈ names)
  | [], cs, x, c, h => .inl h
  | (n, k) :: r, cs, x, c, h => by
    unfold closAcc at h
    by_cases hk : (k == NameKind.free) = true
    · rw [if_pos hk] at h
      have hk' : k = .free := by simpa using hk
      subst hk'
      cases e : cells.lookup n with
      | some a =>
        rw [e] at h
        rcases closAcc_mem h with h | ⟨h, m⟩
        · rcases List.mem_cons.mp h with h | h
          · cases h; exact .inr ⟨e, List.mem_cons_self⟩
          · exact .inl h
        · exact .inr ⟨h, List.mem_cons_of_mem _ m⟩
      | none =>
        rw [e] at h
        rcases closAcc_mem h with h | ⟨h, m⟩
        · exact .inl h
        · exact .inr ⟨h, List.mem_cons_of_mem _ m⟩
    · rw [if_neg hk] at h
      rcases closAcc_mem h with h | ⟨h, m⟩
      · exact .inl h
      · exact .inr ⟨h, List.mem_cons_of_mem _ m⟩
theorem closAcc_keep {cells : List (Str × Addr)} : ∀ {names : List (Str × NameKind)} {cs : List (Str × Addr)} {y : Str × Addr}, y ∈ cs → y ∈ closAcc cells names cs
  | [], cs, y, h => h
  | (n, k) :: r, cs, y, h => by
    unfold closAcc
    split
    · split
      · exact closAcc_keep (List.mem_cons_of_mem _ h)
      · exact closAcc_keep h
    · exact closAcc_keep h
theorem closAcc_has {cells : List (Str × Addr)} : ∀ {names : List (Str × NameKind)} {cs : List (Str × Addr)} {x : Str}, (x, NameKind.free) ∈ names → (cells.lookup x).isSome = true → ∃ c, (x, c) ∈ closAcc cells names cs
  | [], cs, x, h, _ => by simp at h
  | (n, k) :: r, cs, x, h, hc => by
    rcases List.mem_cons.mp h with h | h
    · cases h
      obtain ⟨a, ha⟩ := Option.isSome_iff_exists.mp hc
      refine ⟨a, ?_⟩
      unfold closAcc
      rw [if_pos (by decide), ha]
      exact closAcc_keep List.mem_cons_self
    · unfold closAcc
      split
      · split
        · exact closAcc_has h hc
        · exact closAcc_has h hc
      · exact closAcc_has h hc
theorem closAcc_nodup {cells : List (Str × Addr)} : ∀ {names : List (Str × NameKind)} {cs : List (Str × Addr)}, (cs.map (·.1)).Nodup → ((names.filter fun y => y.2 == .free).map (·.1)).Nodup →
    (∀ x ∈ cs.map (·.1), x ∉ (names.filter fun y => y.2 == .free).map (·.1)) → ((closAcc cells names cs).map (·.1)).Nodup
  | [], cs, h1, _, _ => h1
  | (n, k) :: r, cs, h1, h2, h3 => by
    unfold closAcc
    by_cases hk : (k == NameKind.free) = true
    · rw [if_pos hk]
      rw [List.filter_cons_of_pos (by exact hk), List.map_cons, List.nodup_cons] at h2
      rw [List.filter_cons_of_pos (by exact hk), List.map_cons] at h3
      split
      · refine closAcc_nodup ?_ h2.2 ?_
        · rw [List.map_cons, List.nodup_cons]
          exact ⟨fun z => h3 _ z List.mem_cons_self, h1⟩
        · intro x hx
          rcases List.mem_cons.mp hx with rfl | hx
          · exact h2.1
          · exact fun z => h3 x hx (List.mem_cons_of_mem _ z)
      · exact closAcc_nodup h1 h2.2 fun x hx z => h3 x hx (List.mem_cons_of_mem _ z)
    · rw [if_neg hk]
      rw [List.filter_cons_of_neg (by exact hk)] at h2 h3
      exact closAcc_nodup h1 h2 h3
theorem lookup_of_mem_nodup {x : Str} {c : Addr} : ∀ {l : List (Str × Addr)}, (x, c) ∈ l → (l.map (·.1)).Nodup → l.lookup x = some c
  | [], h, _ => by simp at h
  | (y, d) :: l, h, hn => by
    rw [List.map_cons, List.nodup_cons] at hn
    rcases List.mem_cons.mp h with h | h
    · cases h; simp
    · have : x ≠ y := fun z => hn.1 (z ▸ List.mem_map_of_mem (f := (·.1)) h)
      rw [List.lookup_cons, beq_false_of_ne this]
      exact lookup_of_mem_nodup h hn.2
theorem relabelS_eq (scope : Scope) (env : Env) : relabel scope env = relabelS scope env.scope := rfl
theorem lookup_relabel {env : Env} : ∀ {names : List (Str × NameKind)} {x : Str} {k' : NameKind},
    (names.map fun (n, k) => if (k == NameKind.free && env.scope.kind == .function && env.kindOf n == some .cell) then (n, NameKind.cell) else (n, k)).lookup x = some k' →
    ∃ k, names.lookup x = some k ∧ (k' = k ∨ (k = .free ∧ k' = .cell))
  | [], x, k', h => by simp at h
  | (n, k) :: r, x, k', h => by
    rw [List.map_cons] at h
    cases e : (k == NameKind.free && env.scope.kind == .function && env.kindOf n == some .cell) with
    | true =>
      simp only [e, if_true, List.lookup_cons] at h ⊢
      cases hx : x == n with
      | true =>
        rw [hx] at h
        simp only [Bool.and_eq_true, beq_iff_eq] at e
        cases h
        exact ⟨_, rfl, .inr ⟨e.1.1, rfl⟩⟩
      | false => rw [hx] at h; exact lookup_relabel h
    | false =>
      simp only [e, Bool.false_eq_true, if_false, List.lookup_cons] at h ⊢
      cases hx : x == n with
      | true => rw [hx] at h; exact ⟨_, rfl, .inl (by simpa using h.symm)⟩
      | false => rw [hx] at h; exact lookup_relabel h
theorem lget_lset_ne {ρ : Loc} {i j : Nat} {v : Option V} (h : i ≠ j) : lget (lset ρ i v) j = lget ρ j := by
  induction ρ generalizing i j with
  | nil => rfl
  | cons x r ih =>
    cases i with
    | zero => cases j with
      | zero => exact absurd rfl h
      | succ j => rfl
    | succ i => cases j with
      | zero => rfl
      | succ j => exact ih (by lia)
theorem lset_lset {ρ : Loc} {i : Nat} {u v : Option V} : lset (lset ρ i u) i v = lset ρ i v := by
  induction ρ generalizing i with
  | nil => rfl
  | cons x r ih => cases i with
    | zero => rfl
    | succ i => simp only [lset, ih]
variable {hb h h' : Heap} {σ : Sto} {nm : List Str} {env : Env} {ρ : Loc}
theorem compStat {scope : Scope} {x : Str} (R : EnvR hb nm env ρ h) (hk : kComp nm scope env.scope x = true) :
    closureFor scope env = pure (closAcc env.cells scope.names []) ∧ (∀ y ∈ scope.names, y.2 ≠ .cell) ∧ scope.kind = .function ∧
      (∀ y ∈ scope.names, y.2 = .local → scope.names.lookup y.1 = some .local) ∧ scope.names.lookup x = some .local := by
  unfold kComp at hk
  simp only [Bool.and_eq_true, List.all_eq_true, Bool.or_eq_true, bne_iff_ne, ne_eq, beq_iff_eq, decide_eq_true_eq, Bool.not_eq_true', List.contains_eq_mem, decide_eq_false_iff_not] at hk
  obtain ⟨⟨⟨⟨⟨⟨k1, k2⟩, k3⟩, k4⟩, k5⟩, k6⟩, k7⟩ := hk
  have hloc : ∀ y ∈ scope.names, y.2 = .local → scope.names.lookup y.1 = some .local := fun y hy e => ((k3 y hy).resolve_left (fun z => z e)).1
  have hsome : ∀ y ∈ scope.names, y.2 = .free → (env.cells.lookup y.1).isSome = true := fun y hy e => R.has _ ((k6 y hy).resolve_left (fun z => z e)).1
  exact ⟨clos_eq hsome, fun y hy e => k2 y hy e, k1, hloc, k4⟩
/-- the frame of a comprehension -/
theorem compEnvR {scope : Scope} {x : Str} {i : Nat} {C : Addr} (R : EnvR hb nm env ρ h) (hk : kComp nm scope env.scope x = true) (hi : nm[i]? = some x) (hC : h.get? C = none) (base : hb.StaysIn h)
    (keep : ∀ b o, h.get? b = some o → h'.get? b = some o) (hns : h'.Ns C fun _ => none) :
    EnvR hb nm (compEnvC scope (closAcc env.cells scope.names []) C env) (lset ρ i none) h' := by
  unfold kComp at hk
  simp only [Bool.and_eq_true, List.all_eq_true, Bool.or_eq_true, bne_iff_ne, ne_eq, beq_iff_eq, decide_eq_true_eq, Bool.not_eq_true', List.contains_eq_mem, decide_eq_false_iff_not] at hk
  obtain ⟨⟨⟨⟨⟨⟨k1, k2⟩, k3⟩, k4⟩, k5⟩, k6⟩, k7⟩ := hk
  have hloc : ∀ y ∈ scope.names, y.2 = .local → scope.names.lookup y.1 = some .local := fun y hy e => ((k3 y hy).resolve_left (fun z => z e)).1
  have hsome : ∀ y ∈ scope.names, y.2 = .free → (env.cells.lookup y.1).isSome = true := fun y hy e => R.has _ ((k6 y hy).resolve_left (fun z => z e)).1
  have hnd : ((closAcc env.cells scope.names []).map (·.1)).Nodup := closAcc_nodup (by simp) k7 (by simp)
  have look : ∀ y c, (y, c) ∈ closAcc env.cells scope.names [] → env.cells.lookup y = some c ∧ (y, NameKind.free) ∈ scope.names := fun y c m => (closAcc_mem m).resolve_left (by simp)
  have kinds : ∀ y k', (compEnvC scope (closAcc env.cells scope.names []) C env).kindOf y = some k' → ∃ k, scope.names.lookup y = some k ∧ (k' = k ∨ (k = .free ∧ k' = .cell)) := fun y k' e => lookup_relabel (env := env) e
  have mem_of : ∀ y k, scope.names.lookup y = some k → (y, k) ∈ scope.names := fun y k e => mem_of_lookup e
  refine ⟨k1, R.gl, R.bl, ?_, ⟨_, hns, ?_⟩, ?_, ?_, ?_, ?_, R.nodup⟩
  · cases e : hb.get? C with
    | none => exact e
    | some o => have := base C o e; rw [hC] at this; cases this
  · intro j y d h1 h2 h3
    obtain ⟨k, e, hh⟩ := kinds y _ h3
    rcases hh with hh | ⟨_, hh⟩
    · subst hh
      rcases ((k3 _ (mem_of _ _ e)).resolve_left (fun z => z rfl)).2 with z | z
      · dsimp only at z; subst z
        have := nodup_get R.nodup hi h1
        subst this
        rcases lget_lset h2 with ⟨_, q⟩ | ⟨q, _⟩
        · cases q
        · exact absurd rfl q
      · exact absurd (List.mem_of_getElem? h1) z
    · cases hh
  · intro y c e
    obtain ⟨l1, l2⟩ := look y c (mem_of_lookup e)
    obtain ⟨nb, ov, hc, rr⟩ := R.cells y c l1
    refine ⟨nb, ov, Keep.cell (hb := hb) hc fun o e => .inl (keep _ _ e), fun j d h1 h2 h3 => ?_⟩
    have h6 := ((k6 _ l2).resolve_left (fun z => z rfl)).1
    rcases lget_lset h2 with ⟨_, q⟩ | ⟨q, h2⟩
    · cases q
    · obtain ⟨v, a, b⟩ := rr j d h1 h2 h6
      exact ⟨v, a, b.keeps fun b o e _ => keep b o e⟩
  · intro y hy
    have : scope.names.lookup y = some .free := by
      rcases hy with hy | hy
      · obtain ⟨k, e, hh⟩ := kinds y _ hy
        rcases hh with hh | ⟨hh, _⟩
        · subst hh; exact absurd rfl (k2 _ (mem_of _ _ e))
        · subst hh; exact e
      · obtain ⟨k, e, hh⟩ := kinds y _ hy
        rcases hh with hh | ⟨hh, _⟩
        · subst hh; exact e
        · subst hh; exact e
    have m := mem_of _ _ this
    obtain ⟨c, hc⟩ := closAcc_has (cs := []) m (hsome _ m rfl)
    exact Option.isSome_iff_exists.mpr ⟨c, lookup_of_mem_nodup hc hnd⟩
  · have : ∀ (l : List (Str × Addr)), (l.map (·.1)).Nodup → (∀ z ∈ l, z ∈ closAcc env.cells scope.names []) → l.Pairwise fun x y => x.2 ≠ y.2 := by
      intro l
      induction l with
      | nil => intro _ _; exact .nil
      | cons z l ih =>
        intro hn hm
        rw [List.map_cons, List.nodup_cons] at hn
        refine .cons (fun z' hz' e => ?_) (ih hn.2 fun z hz => hm z (List.mem_cons_of_mem _ hz))
        obtain ⟨a1, _⟩ := look z.1 z.2 (hm z List.mem_cons_self)
        obtain ⟨a2, _⟩ := look z'.1 z'.2 (hm z' (List.mem_cons_of_mem _ hz'))
        have := name_of_addr R.apart (mem_of_lookup a1) (e ▸ mem_of_lookup a2)
        exact hn.1 (this ▸ List.mem_map_of_mem (f := (·.1)) hz')
    exact this _ hnd fun _ z => z
  · intro y c m
    obtain ⟨l1, l2⟩ := look y c m
    obtain ⟨nb, ov, hc⟩ := R.allc y c (mem_of_lookup l1)
    exact ⟨nb, ov, Keep.cell (hb := hb) hc fun o e => .inl (keep _ _ e)⟩
end Mine
namespace Mine
/-! and, or -/
noncomputable def vcBoI (op : BoolOp) (b : Bool) (P R : Prop) : Prop := match op, b with
  | .And, false => P
  | .And, true => R
  | .Or, true => P
  | .Or, false => R
/-- the last of them -/
noncomputable def MBo.one (e : ME) : MBo where
  ck nm sc := on1 fun x => e.ck nm sc x
  vc op K n X t ρ σ Q := e.vc K n X t ρ σ (qq t Q)
  ok {op K n X nm A env fr s σ ρ t pos xs Q QQ E} hA S hm h k kE := by
    refine of1 (P := fun xs => RunE K.prog K.w A t (.BoolOp op xs pos) env QQ E s) hm fun x hm => ?_
    cases t with
    | false => exact BoolOp_one (e.ok (t := false) hA S hm h k kE)
    | true =>
      have core : wpAny (model K.prog K.w) A (PySem.isTrue x env (eval x env)) (fun b s' => QQ (.bool b) s') E s := e.test hA S hm h (fun b s1 g => by
        obtain ⟨h1, tk1, σ1, d1, rfl, m1, I1, r1, q1⟩ := g
        cases r1 with
        | raw => exact q1.elim
        | bool b => exact k _ _ ((goodE0 (s := { s with heap := h1, toks := tk1 }) (tk := tk1) (Q := Q) I1 (.bool b) q1).after m1)) kE
      cases op with
      | And => exact isTrue_and (wpAny_mono core (fun b s' q => by cases b with
        | true => exact isTrue_and_nil q
        | false => exact q) fun _ _ e => e)
      | Or => exact isTrue_or (wpAny_mono core (fun b s' q => by cases b with
        | true => exact q
        | false => exact isTrue_or_nil q) fun _ _ e => e)
/-- one, and more behind it -/
noncomputable def MBo.more (e : ME) (r : MBo) : MBo where
  ck nm sc := onC fun x xs => e.ck nm sc x && (r.ck nm sc xs && !xs.isEmpty)
  vc op K n X t ρ σ Q := e.vc K n X t ρ σ fun x σ => vTruth x σ fun b => vcBoI op b (qq t Q x σ) (r.vc op K n X t ρ σ Q)
  ok {op K n X nm A env fr s σ ρ t pos xs Q QQ E} hA S hm h k kE := by
    refine ofC (P := fun xs => RunE K.prog K.w A t (.BoolOp op xs pos) env QQ E s) hm fun x xs hm => ?_
    have hm1 := andL hm
    have hm2 := andL (andR hm)
    obtain ⟨x', ys', rfl⟩ : ∃ x' ys', xs = x' :: ys' := by
      cases xs with
      | nil => exact absurd rfl (nilF (andR (andR hm)))
      | cons a b => exact ⟨a, b, rfl⟩
    cases t with
    | false =>
      have core : wpAny (model K.prog K.w) A (eval x env) (fun v s₁ => wpAny (model K.prog K.w) A (truthy v) (fun c s₂ => vcBoI op c (QQ v s₂) (wpAny (model K.prog K.w) A (eval (.BoolOp op (x' :: ys') pos) env) QQ E s₂)) E s₁) E s := by
        refine e.ok (t := false) hA S hm1 h (fun v s1 g => ?_) kE
        obtain ⟨h1, tk1, σ1, d1, rfl, m1, I1, r1, q1⟩ := g
        refine sTruth (s := { s with heap := h1, toks := tk1 }) I1 r1 q1 fun b tk q => ?_
        have fin : ∀ q : Q d1 σ1, QQ v { s with heap := h1, toks := tk } := fun q => k _ _ ((goodE0 (s := { s with heap := h1, toks := tk1 }) (tk := tk) I1 r1 q).after m1)
        have go : ∀ q : r.vc op K n X false ρ σ1 Q, wpAny (model K.prog K.w) A (eval (.BoolOp op (x' :: ys') pos) env) QQ E { s with heap := h1, toks := tk } := fun q =>
          r.ok (t := false) (s := { s with heap := h1, toks := tk }) hA (S.mv m1 I1) hm2 q (fun v s' g => k _ _ (g.after (tk := tk) m1)) (fun e s' b => kE _ _ (b.after (tk := tk) m1))
        cases op <;> cases b <;> first | exact fin q | exact go q
      cases op with
      | And => exact BoolOp_and (wpAny_mono core (fun v s' q => wpAny_mono q (fun c s2 q => by cases c <;> exact q) fun _ _ e => e) fun _ _ e => e)
      | Or => exact BoolOp_or (wpAny_mono core (fun v s' q => wpAny_mono q (fun c s2 q => by cases c <;> exact q) fun _ _ e => e) fun _ _ e => e)
    | true =>
      have core : wpAny (model K.prog K.w) A (PySem.isTrue x env (eval x env)) (fun c s₂ => vcBoI op c (QQ (.bool c) s₂) (wpAny (model K.prog K.w) A (PySem.isTrue (.BoolOp op (x' :: ys') pos) env (eval (.BoolOp op (x' :: ys') pos) env)) (fun b s' => QQ (.bool b) s') E s₂)) E s := by
        refine e.test hA S hm1 h (fun b s1 g => ?_) kE
        obtain ⟨h1, tk1, σ1, d1, rfl, m1, I1, r1, q1⟩ := g
        have go : ∀ q : r.vc op K n X true ρ σ1 Q, wpAny (model K.prog K.w) A (PySem.isTrue (.BoolOp op (x' :: ys') pos) env (eval (.BoolOp op (x' :: ys') pos) env)) (fun b s' => QQ (.bool b) s') E { s with heap := h1, toks := tk1 } := fun q =>
          r.ok (t := true) (s := { s with heap := h1, toks := tk1 }) hA (S.mv m1 I1) hm2 q (fun v s' g => k _ _ (g.after m1)) (fun e s' b => kE _ _ (b.after m1))
        cases r1 with
        | raw => exact q1.elim
        | bool b =>
          have fin : ∀ q : Q (.bool b) σ1, QQ (.bool b) { s with heap := h1, toks := tk1 } := fun q => k _ _ ((goodE0 (s := { s with heap := h1, toks := tk1 }) (tk := tk1) I1 (.bool b) q).after m1)
          cases op <;> cases b <;> first | exact fin q1 | exact go q1
      cases op with
      | And => exact isTrue_and (wpAny_mono core (fun c s' q => by cases c <;> exact q) fun _ _ e => e)
      | Or => exact isTrue_or (wpAny_mono core (fun c s' q => by cases c <;> exact q) fun _ _ e => e)
/-! methods -/
theorem evalArgs_nil {M : Model} {A : Around} {E : Value → Shared → Prop} {s : Shared} {f : Value} {Q : Args → Shared → Prop} (h : wpAny M A (spliced []) (fun vs s' => Q ⟨vs, []⟩ s') E s) : wpAny M A (evalArgs f true [] []) Q E s := by
  unfold evalArgs
  show wpAny M A (spliced [] >>= _) Q E s
  refine wpAny_bind (wpAny_mono h (fun vs s' h' => ?_) fun _ _ x => x)
  refine wpAny_bind (wpAny_pure ?_)
  refine wpAny_holding ?_
  exact wpAny_bind (wpAny_pure (wpAny_bind (wpAny_pure (wpAny_pure h'))))
noncomputable def ME.meth (m : Mi) (a : ME) (es : MEs) : ME where
  ck nm sc := onCall fun f xs ks p => onAtt (fun o x q => ks.isEmpty && (m.nm == x && ((q.endLine == p.line) && (onName (fun _ _ => true) o && (a.ck nm sc o && ((noSt xs && es.ck nm sc xs) && decide (xs.length ≤ 2))))))) f
  vc K n X t ρ σ Q := a.vc K n X false ρ σ fun x σ => onL x fun a => σ a ≠ none ∧ es.vc K n X ρ σ fun ds σ => Bar (vMeth m a ds σ (qq t Q))
  ok {K n X nm A env fr s σ ρ t x Q QQ E} hA S hm h k kE := by
    refine ofCall (P := fun x => RunE K.prog K.w A t x env QQ E s) hm fun f xs ks p hm => ofAtt (P := fun f => RunE K.prog K.w A t (.Call f xs ks p) env QQ E s) hm fun o x q hm => ?_
    obtain rfl := nilT (andL hm)
    have hm := andR hm
    refine eqb (P := fun x => RunE K.prog K.w A t (.Call (.Attribute o x q) xs [] p) env QQ E s) (andL hm) ?_
    have hpos := andL (andR hm)
    have hm := andR (andR hm)
    have hm1 := andL (andR hm)
    have hm2 := andL (andR (andR hm))
    have hl := of_decide_eq_true (andR (andR (andR hm)))
    have hb2 := backTo_no (env := env) (pos := p) (andL hm2)
    refine plainRun rfl (fun QQ' k' => wpAny_Call_method_late (ofName (P := fun o => attributeBase o m.nm env (eval o env) = eval o env) (andL hm) fun _ _ _ => rfl) (by rw [hb2.2]; exact decide_eq_true (Nat.lt_of_le_of_lt hl (by decide : 2 < 30))) hpos rfl ?_) k
    refine a.ok (t := false) hA S hm1 h (fun v s1 g => ?_) kE
    obtain ⟨h1, tk1, σ1, d1, rfl, m1, I1, r1, q1⟩ := g
    refine r1.onL q1 fun ad q1 => ?_
    obtain ⟨hne, q1⟩ := q1
    obtain ⟨l0, e0⟩ := Option.ne_none_iff_exists'.mp hne
    refine I1.lists e0 fun xs0 n0 hp0 _ _ _ => ?_
    have hty := (Heap.PlainList.isList ⟨n0, hp0⟩).typeIs (s := { s with heap := h1, toks := tk1 })
    have core : wpAny (model K.prog K.w) A (callWith p (.builtin m.id) [.ref ad] (backTo p (starEach xs env)) []) QQ' E { s with heap := h1, toks := tk1 } := by
      refine Calls.callWith_builtin hb2.1 ?_
      have fin : ∀ {vs : List Value} {s2 : Shared}, GoodL K.hb σ1 { s with heap := h1, toks := tk1 } (fun ds σ => Bar (vMeth m ad ds σ (qq t Q))) vs s2 → wpAny (model K.prog K.w) A (call (.builtin m.id) (.ref ad :: vs)) QQ' E s2 := fun g => by
        obtain ⟨h2, tk2, σ2, d2, rfl, m2, I2, r2, q2⟩ := g
        exact sMeth (s := { s with heap := h2, toks := tk2 }) I2 r2 q2.un fun v s' g => k' _ _ (g.after (m1.trans m2))
      have all := es.ok (pos := p) (s := { s with heap := h1, toks := tk1 }) hA (S.mv m1 I1) hm2 q1 (fun vs s2 g => fin g) (fun e s' b => kE _ _ (b.after m1))
      cases xs with
      | nil => exact evalArgs_nil all
      | cons x xs => exact evalArgs_of (nott (andL (andL hm2))) all
    have nd : ∀ a : Addr, Value.ref ad = .ref a → ∃ ob, h1.get? a = some ob ∧ ob.dict = none := by
      rintro _ ⟨⟩; exact ⟨_, hp0, rfl⟩
    cases m
    · exact ⟨"list", _, F.plainAttrs_list, F.slot_list_append, type_list_append, hty, nd, core⟩
    · exact ⟨"list", _, F.plainAttrs_list, F.slot_list_pop, F.type_list_pop, hty, nd, core⟩
    · exact ⟨"list", _, F.plainAttrs_list, F.slot_list_extend, F.type_list_extend, hty, nd, core⟩
section
variable {hb : Heap}
theorem foldl_flat (xs : Array Value) : ∀ (k : Nat) (acc : Array Value), ((List.foldl (fun x1 x2 => x1 ++ x2) acc (List.replicate k xs))).toList = acc.toList ++ (List.replicate k xs.toList).flatten
  | 0, acc => by simp
  | k + 1, acc => by rw [List.replicate_succ, List.foldl_cons, foldl_flat xs k]; simp [List.replicate_succ]
theorem rep_relL {h : Heap} {l : List V} {vs : List Value} (r : RelL hb h l vs) : ∀ k : Nat, RelL hb h (List.replicate k l).flatten (List.replicate k vs).flatten
  | 0 => .nil
  | k + 1 => by simp only [List.replicate_succ, List.flatten_cons]; exact r.append (rep_relL r k)
theorem rep_rel {h : Heap} {l : List V} {xs : Array Value} {k : Nat} (r : RelL hb h l xs.toList) :
    RelL hb h (List.replicate k l).flatten (List.foldl (fun x1 x2 => x1 ++ x2) #[] (List.replicate (if xs.isEmpty = true then 0 else k) xs)).toList := by
  rw [foldl_flat]
  split
  · rename_i e
    have e' : xs.toList = [] := by simpa using e
    have : l = [] := List.eq_nil_of_length_eq_zero (by rw [r.length, e']; rfl)
    subst this
    simp; exact .nil
  · simpa using rep_relL r k
end
noncomputable def ME.rep (es : MEs) (c : ME) : ME where
  ck nm sc := onBin fun l o r _ => onLst (fun xs _ => Operator.Mult == o && ((noSt xs && es.ck nm sc xs) && c.ck nm sc r)) l
  vc K n X t ρ σ Q := es.vc K n X ρ σ fun ds σ => ds.length ≤ LB ∧ ∀ c0, σ c0 = none → c.vc K n X false ρ (put σ c0 ds) fun x σ => onI x fun i =>
    σ c0 = some ds ∧ 0 ≤ i ∧ i ≤ 1000000 ∧ ds.length * i.toNat ≤ LB ∧ New σ (List.replicate i.toNat ds).flatten (qq t Q)
  ok {K n X nm A env fr s σ ρ t x Q QQ E} hA S hm h k kE := by
    refine ofBin (P := fun x => RunE K.prog K.w A t x env QQ E s) hm fun l o y p hm => ofLst (P := fun l => RunE K.prog K.w A t (.BinOp l o y p) env QQ E s) hm fun xs q hm => eqb (P := fun o => RunE K.prog K.w A t (.BinOp (.List xs q) o y p) env QQ E s) (andL hm) ?_
    refine plainRun rfl (fun QQ' k' => wpAny_BinOp (wpAny_List (es.ok hA S (andL (andR hm)) h (fun vs s1 g => ?_) kE))) k
    obtain ⟨h1, tk1, σ1, d1, rfl, m1, I1, r1, hz, q1⟩ := g
    refine ⟨by rw [← r1.length]; exact Nat.le_trans hz LB_line, ?_⟩
    have pk := push_keeps h1 { cls := .type "list", data := .seq vs.toArray }
    have hpl : (h1.push { cls := .type "list", data := .seq vs.toArray }).PlainList h1.objs.size vs.toArray := ⟨_, Heap.get?_push_size _ rfl⟩
    have m2 : Mv K.hb No σ1 h1 (put σ1 h1.objs.size d1) (h1.push { cls := .type "list", data := .seq vs.toArray }) := .new pk (size_none _)
    have I2 : Inv K.hb (put σ1 h1.objs.size d1) (h1.push { cls := .type "list", data := .seq vs.toArray }) := I1.new pk (size_none _) hpl hz (r1.push _)
    have m12 := m1.trans m2
    refine c.ok (t := false) (s := { s with heap := h1.push { cls := .type "list", data := .seq vs.toArray }, toks := tk1 }) hA (S.mv m12 I2) (andR (andR hm)) (q1 _ (I1.fresh (size_none _))) (fun u s3 g => ?_) (fun e s' b => kE _ _ (b.after m12))
    obtain ⟨h3, tk3, σ3, d3, rfl, m3, I3, r3, q3⟩ := g
    refine r3.onI q3 fun i ti q3 => ?_
    obtain ⟨e3, h0, hlo, hle, q3⟩ := q3
    refine I3.lists e3 fun xs3 n3 hp3 hs3 hz3 rl3 => ?_
    have hLB := LB_line
    rw [← hs3] at hle
    refine wpAny_binaryOp_repeat_ref (T := "list") (U := "int") (by decide) ⟨_, hp3, rfl⟩ (fun s' => typeIs_int s' i ti) noFill_list_mul F.fills_int_mul F.slot_int_rmul repeat_list F.slot_int_index.lookup
      (call_meets F.slot_int_rmul (typeIs_int _ i ti) F.entry_int_rmul (F.args_int_rmul_2 _ _) (int___rmul___int_list i ti _ xs3 n3)
        ⟨hp3, rfl, ⟨_, hp3, rfl⟩, call_meets F.slot_list_mul ⟨_, hp3, rfl⟩ F.entry_list_mul (F.args_list_mul_2 _ _)
          (AutoListH.list___mul___list_int_3 _ xs3 n3 i ti (by simp [Builtin.List.listFitsIndex]; lia) (by unfold LB at hle; lia) (by simp [Builtin.List.listTooLong]; lia))
          ⟨hp3, k' _ _ ?_⟩⟩)
    refine GoodE.after (s := s) (h := h3) (tk := tk3) (m12.trans m3) ?_
    refine goodNew (s := { s with heap := h3, toks := tk3 }) (tk := tk3) I3 (rep_rel rl3) ?_ q3
    rw [List.length_flatten, List.map_replicate, List.sum_replicate_nat, Nat.mul_comm, ← hs3]; exact hle
/-! the table of the top -/
inductive TabC (K : Ctx) (f : Value) (j : Nat) (Q : V → Prop) : Prop
  | mk (tab : Nat → Option V) (d : V) (h : DictOK K f tab) (e : tab j = some d) (k : Q d)
/-- the key, then what stands behind it -/
theorem TabC.use {K : Ctx} {f : Value} {j : Nat} {Q : V → Prop} {h : Heap} {σ : Sto} (c : TabC K f j Q) (I : Inv K.hb σ h) {x : Str} (ex : symL[j]? = some x) {P : Prop}
    (k : ∀ a φ d v, f = .ref a → (a == sysModules) = false → h.MapOf (strKind K.prog K.w) a φ → φ x = some v → Rel K.hb K.hb d v → Q d → P) : P := by
  obtain ⟨tab, d, ⟨a, φ, rfl, hsys, ⟨o, es, ep, ho, r⟩, htab⟩, e, q⟩ := c
  obtain ⟨v, e2, r2⟩ := htab _ _ _ e ex
  exact k a φ d v rfl hsys ⟨o, es, ep, I.base _ _ ho, r⟩ e2 r2 q
noncomputable def ME.shN (g : Nat) (e : ME) : ME where
  ck nm sc := onCmp fun l os rs _ => on1 (fun o => on1 (fun r => onName (fun y _ => CmpOp.NotIn == o && (((GLV[g]?).map Prod.fst == some y && kGlo sc y) && e.ck nm sc l)) r) rs) os
  vc K n X t ρ σ Q := onSome GLV[g]? fun d => onR d.2 fun f => e.vc K n X false ρ σ fun x σ => onS x fun j => TabC K f j fun _ => Q (.bool false) σ
  ok {K n X nm A env fr s σ ρ t x Q QQ E} hA S hm h k kE := by
    refine ofCmp (P := fun x => RunE K.prog K.w A t x env QQ E s) hm fun l os rs p hm => of1 (P := fun os => RunE K.prog K.w A t (.Compare l os rs p) env QQ E s) hm fun o hm => of1 (P := fun rs => RunE K.prog K.w A t (.Compare l [o] rs p) env QQ E s) hm fun r hm =>
      ofName (P := fun r => RunE K.prog K.w A t (.Compare l [o] [r] p) env QQ E s) hm fun y p1 hm => eqb (P := fun o => RunE K.prog K.w A t (.Compare l [o] [.Name y p1] p) env QQ E s) (andL hm) ?_
    have hm := andR hm
    have core : ∀ {QQ' : Value → Shared → Prop}, (∀ b s', GoodE K.hb σ s Q (.bool b) s' → QQ' (.bool b) s') → wpAny (model K.prog K.w) A (eval l env) (fun v s1 => wpAny (model K.prog K.w) A (eval (.Name y p1) env) (fun u s2 => wpAny (model K.prog K.w) A (compareOp .NotIn v u) QQ' E s2) E s1) E s := by
      intro QQ' k'
      refine ofSome h fun d hd h => ?_
      obtain ⟨z, d⟩ := d
      cases d with
      | raw f =>
        refine e.ok (t := false) hA S (andR hm) h (fun v s1 g => ?_) kE
        obtain ⟨h1, tk1, σ1, d1, rfl, m1, I1, r1, q1⟩ := g
        refine r1.onS q1 fun j x tx ex q1 => TabC.use q1 I1 ex fun a φ d v ef hsys hmap e2 r2 q2 => ?_
        refine globName (s := { s with heap := h1, toks := tk1 }) K.top (S.mv m1 I1) (andL (andL hm)) (andR (andL hm)) hd fun v r => r.onR (k := fun v => v = f) rfl fun v ev => ?_
        subst ev; subst ef
        refine wpAny_notIn_of (knd := strKind K.prog K.w) (s := { s with heap := h1, toks := tk1 }) (strKind_is K.prog K.w x tx) hsys hmap ?_
        rw [e2]
        exact k' false _ ((goodE0 (s := { s with heap := h1, toks := tk1 }) I1 (.bool _) q2).after m1)
      | _ => exact h.elim
    cases t with
    | false => exact wpAny_Compare1 (core fun b s' g => k _ _ g) (bim_of_set rfl)
    | true => exact wpAny_isTrue_Compare1 (wpAny_mono (core (QQ' := fun v s' => ∃ b, v = .bool b ∧ QQ (.bool b) s') fun b s' g => ⟨b, rfl, k _ _ g⟩) (fun v s1 q => wpAny_mono q (fun u s2 q => wpAny_mono q (fun r s3 q => by obtain ⟨b, rfl, q⟩ := q; exact wpAny_truthy_bool q) fun _ _ e => e) fun _ _ e => e) fun _ _ e => e) (bim_of_set rfl)
noncomputable def ME.shG (g : Nat) (e : ME) : ME where
  ck nm sc := onSub fun x y _ => onName (fun z _ => !isSlc y && (((GLV[g]?).map Prod.fst == some z && kGlo sc z) && e.ck nm sc y)) x
  vc K n X t ρ σ Q := onSome GLV[g]? fun d => onR d.2 fun f => e.vc K n X false ρ σ fun x σ => onS x fun j => TabC K f j fun d => qq t Q d σ
  ok {K n X nm A env fr s σ ρ t x Q QQ E} hA S hm h k kE := by
    refine ofSub (P := fun x => RunE K.prog K.w A t x env QQ E s) hm fun x l p hm => ofName (P := fun x => RunE K.prog K.w A t (.Subscript x l p) env QQ E s) hm fun y p1 hm => plainRun rfl (fun QQ' k' => Subscript_ ?_) k
    have hslc := nott (andL hm)
    have hm := andR hm
    refine ofSome h fun d hd h => ?_
    refine globName K.top S (andL (andL hm)) (andR (andL hm)) hd fun v r => r.onR h fun f h => ?_
    refine e.ok (t := false) hA S (andR hm) h (fun v s1 g => ?_) kE
    obtain ⟨h1, tk1, σ1, d1, rfl, m1, I1, r1, q1⟩ := g
    refine r1.onS q1 fun j x tx ex q1 => TabC.use q1 I1 ex fun a φ d v ef hsys hmap e2 r2 q2 => ?_
    subst ef
    have hT : ({ s with heap := h1, toks := tk1 } : Shared).TypeIs (.ref a) "dict" := hmap.typeIs
    refine tail_any hT slot_dict_getitem.lookup (wpAny_getItem_of (knd := strKind K.prog K.w) (s := { s with heap := h1, toks := tk1 }) (strKind_is K.prog K.w x tx) hmap e2 ?_) (subscripted_plain hslc)
    exact k' _ _ ((goodE0 (s := { s with heap := h1, toks := tk1 }) I1 (r2.base I1) q2).after m1)
end Mine
namespace Mine
/-- a comprehension's test -/
noncomputable def SndC (ck : List Str → Scope → List PySem.Expr → Bool) (vc : Ctx → Nat → (Sto → Prop) → Loc → Sto → (Bool → Sto → Prop) → Prop) : Prop :=
  ∀ {K : Ctx} {n : Nat} {X : Sto → Prop} {nm : List Str} {A : Around} {env : Env} {fr : List Env} {s : Shared} {σ : Sto} {ρ : Loc} {xs : List PySem.Expr} {Q : Bool → Sto → Prop} {QQ : Bool → Shared → Prop} {E : Value → Shared → Prop},
    At A fr n → SS K.hb nm fr env σ ρ s.heap → ck nm env.scope xs = true → vc K n X ρ σ Q → (∀ v s', GoodB K.hb σ s Q v s' → QQ v s') → (∀ e s', BadE K.hb dieC fr No σ s X e s' → E e s') →
    wpAny (model K.prog K.w) A (forIn xs true fun c r => if r = true then do let ok ← PySem.isTrue c env (eval c env); pure (ForInStep.yield ok) else pure (ForInStep.yield r)) QQ E s
structure MC where
  ck : List Str → Scope → List PySem.Expr → Bool
  vc : Ctx → Nat → (Sto → Prop) → Loc → Sto → (Bool → Sto → Prop) → Prop
  ok : SndC ck vc
noncomputable def MC.nil : MC where
  ck _ _ xs := xs.isEmpty
  vc K n X ρ σ Q := Q true σ
  ok {K n X nm A env fr s σ ρ xs Q QQ E} hA S hm h k kE := by
    obtain rfl := nilT hm
    exact wpAny_tests_nil (k _ _ ⟨s.heap, s.toks, σ, rfl, .refl _ _, S.inv, h⟩)
noncomputable def MC.iff (e : ME) : MC where
  ck nm sc := on1 fun x => e.ck nm sc x
  vc K n X ρ σ Q := e.vc K n X true ρ σ fun x σ => onB x fun b => Q b σ
  ok {K n X nm A env fr s σ ρ xs Q QQ E} hA S hm h k kE := by
    refine of1 (P := fun xs => wpAny (model K.prog K.w) A (forIn xs true fun c r => if r = true then do let ok ← PySem.isTrue c env (eval c env); pure (ForInStep.yield ok) else pure (ForInStep.yield r)) QQ E s) hm fun x hm => wpAny_tests_one (e.test hA S hm h (fun b1 s1 g => ?_) kE)
    obtain ⟨h1, tk1, σ1, d1, rfl, m1, I1, r1, q1⟩ := g
    exact r1.onB q1 fun b q1 => k _ _ ⟨h1, tk1, σ1, rfl, m1, I1, q1⟩
inductive AccC (σ : Sto) (c : Addr) (v : V) (I : Sto → Prop) : Prop | mk (acc : List V) (h : σ c = some acc) (hz : acc.length + 1 ≤ LB) (k : I (put σ c (acc ++ [v])))
/-- the invariant of a comprehension -/
inductive CompI (sv : V) (items : List V) (σ : Sto) (c : Addr) (body : (Sto → Prop) → V → Sto → Prop) (fin : V → Sto → Prop) : Prop
  | mk (I : Nat → Sto → Prop) (h0 : I 0 (put σ c [])) (hs : ∀ k d σ, items[k]? = some d → I k σ → liveOk sv items σ ∧ body (I (k + 1)) d σ) (he : ∀ σ, I items.length σ → liveOk sv items σ ∧ fin (.list c) σ)
inductive CompC (X : Sto → Prop) (sv : V) (items : List V) (σ : Sto) (k : Addr → Prop) : Prop
  | mk (hnt : ∀ l, sv ≠ .tup l) (hX : ∀ σ, ¬ X σ) (hz : items.length ≤ LB) (h : ∀ c, σ c = none → k c)
theorem fold_of_set {y : PySem.Expr} {env : Env} {z : Value} (h : isSet y = false) : foldedSetIterable y env z = pure z := by
  cases y <;> first | rfl | exact absurd (show true = false from h) nofun
section
variable {prog : Program} {w : World} {A : Around} {E : Value → Shared → Prop} {s : Shared} {hb : Heap} {X : Sto → Prop}
theorem sSelf {QQ : Value → Shared → Prop} {It : Addr} {sv : V} {v : Value} {k : Nat} (h : ItAt s.heap It sv v k) (hn : ∀ l, sv ≠ .tup l) (q : QQ (.ref It) s) : wpAny (model prog w) A (pyIter (.ref It)) QQ E s := by
  cases sv with
  | list a => exact wpAny_pyIter_listiter h q
  | tup l => exact absurd rfl (hn l)
  | rng m => exact wpAny_pyIter_rangeiter h q
  | _ => exact h.elim
theorem noBad {fr : List Env} {S : Addr → Prop} {σ : Sto} {e : Value} {s' : Shared} {P : Prop} (hX : ∀ σ, ¬ X σ) (b : BadE hb dieC fr S σ s X e s') : P := by
  obtain ⟨_, _, _, _, _, _, _, _, _, _, x⟩ := b; exact (hX _ x).elim
end
noncomputable def ME.comp (elt : ME) (i : Nat) (src : ME) (cond : MC) : ME where
  ck nm sc := onLC fun y gs scope _ => on1 (fun g => onName (fun x _ => g.is_async == 0 && (nm[i]? == some x && (!isSet g.iter && (kComp nm scope sc x && (src.ck nm sc g.iter && (elt.ck nm (relabelS scope sc) y && cond.ck nm (relabelS scope sc) g.ifs)))))) g.target) gs
  vc K n X t ρ σ Q := src.vc K n X false ρ σ fun sv σ => Bar (onSome (items? sv σ) fun items => CompC X sv items σ fun c =>
    CompI sv items σ c (fun J d σ => cond.vc K n X (lset ρ i (some d)) σ fun b σ => ifB b (elt.vc K n X false (lset ρ i (some d)) σ fun v σ => AccC σ c v J) (J σ)) (qq t Q))
  ok {K n X nm A env fr s σ ρ t x Q QQ E} hA S hm h k kE := by
    refine ofLC (P := fun x => RunE K.prog K.w A t x env QQ E s) hm fun y gs scope p hm => of1 (P := fun gs => RunE K.prog K.w A t (.ListComp y gs scope p) env QQ E s) hm fun g hm => ?_
    obtain ⟨tg, it, ifs, z⟩ := g
    refine ofName (P := fun tg => RunE K.prog K.w A t (.ListComp y [⟨tg, it, ifs, z⟩] scope p) env QQ E s) hm fun x q hm => ?_
    obtain rfl : z = 0 := eq_of_beq (andL hm)
    have hm := andR hm
    have hi := eq_of_beq (andL hm)
    have hset := nott (andL (andR hm))
    have hk := andL (andR (andR hm))
    have hm1 := andL (andR (andR (andR hm)))
    have hm2 := andL (andR (andR (andR (andR hm))))
    have hm3 := andR (andR (andR (andR (andR hm))))
    have hSrc := @src.ok
    have hElt := @elt.ok
    have hC := @cond.ok
    obtain ⟨hclos, hcell, hkind, hnames, hx⟩ := compStat S.env hk
    refine plainRun rfl (fun QQ' k' => ?_) k
    rw [eval_ListComp]
    refine wpAny_comprehension_free (use := none) rfl (by intro z; exact fold_of_set hset) hclos hkind hnames ?_
    refine hSrc (t := false) hA S hm1 h (fun v s1 g => ?_) kE
    obtain ⟨h1, tk1, σ1, sv, rfl, m1, I1, r1, q1⟩ := g
    have S1 := S.mv m1 I1
    refine ofSome q1.un fun items e q1 => ?_
    obtain ⟨hnt, hX, hz, q1⟩ := q1
    refine sIter (s := { s with heap := h1, toks := tk1 }) I1 r1 e hz fun It h2 tk2 hIt it2 io m2 I2 => ?_
    have S2 := S1.mv m2 I2
    have r2 := m2.rel I1 r1
    refine wpAny_newObj_type (wpAny_newFunctionEnv hcell (by intro y hy; simp at hy) (fun h4 hns hsb => ?_) hkind)
    dsimp only at hns hsb ⊢
    generalize hH3 : h2.push { cls := .type "list", dict := none, data := .seq ([] : List Value).toArray } = h3 at hns hsb ⊢
    have hD : h2.get? h2.objs.size = none := size_none _
    have hnD : σ1 h2.objs.size = none := by
      cases e : σ1 h2.objs.size with
      | none => rfl
      | some l => obtain ⟨_, _, xs, ⟨m, p⟩, _⟩ := I2.lst _ _ e; rw [hD] at p; cases p
    have k23 : ∀ b o, h2.get? b = some o → h3.get? b = some o := fun b o e => hH3 ▸ Heap.get?_push_of_some _ e
    have hp3 : h3.PlainList h2.objs.size #[] := ⟨_, hH3 ▸ Heap.get?_push_size _ rfl⟩
    have k34 : ∀ b o, h3.get? b = some o → h4.get? b = some o := fun b o e => hsb.extBut b o (fun z => by rw [z, size_none] at e; cases e) (Heap.get?_push_of_some _ e)
    have I3 : Inv K.hb (put σ1 h2.objs.size []) h3 := I2.new k23 hD hp3 (by simp) .nil
    have I4 := I3.grown k34
    have m4 : Mv K.hb No σ1 h1 (put σ1 h2.objs.size []) h4 := m2.trans ((Mv.new k23 hD).trans (.grown k34))
    have it4 := (it2.at' (k23 _)).at' (k34 _)
    have r4 : Rel K.hb h4 sv v := (r2.keeps fun b o e _ => k23 b o e).keeps fun b o e _ => k34 b o e
    obtain ⟨IV, hI0, hstep, hend⟩ := q1 h2.objs.size hnD
    have R3 : EnvR K.hb nm env ρ h3 := S2.env.mv I2 (.grown (σ := σ1) k23)
    have EN := compEnvR R3 hk hi (size_none h3) I3.base k34 hns
    have F4 : FrOk K.hb fr h4 := (S2.fr.mv I2 (.grown (σ := σ1) k23)).mv I3 (.grown k34)
    have hIb : K.hb.get? It = none := by
      cases e : K.hb.get? It with
      | none => rfl
      | some o => have := I1.base _ _ e; rw [hIt] at this; cases this
    have hC1 : h1.get? h3.objs.size = none := by
      cases e : h1.get? h3.objs.size with
      | none => rfl
      | some o =>
        have := m2.live h3.objs.size id (by rw [e]; exact nofun)
        obtain ⟨o', e'⟩ := Option.ne_none_iff_exists'.mp this
        have := k23 _ _ e'
        rw [size_none] at this; cases this
    have loop : codeAny (model K.prog K.w) A (.compLoop (.ListComp y [⟨.Name x q, it, ifs, 0⟩] scope p) 0 (.ref It) (.ref h2.objs.size) (compEnvC scope (closAcc env.cells scope.names []) h3.objs.size env))
        (compPost (model K.prog K.w) A E none QQ' (.ref h2.objs.size) h3.objs.size) { s with heap := h4, toks := tk2 } := by
      refine codeAny_compLoop_tests (fun n' s' => ∃ h' tk σ' kk o, s' = { s with heap := h', toks := tk } ∧ Mv K.hb (fun b => b = h3.objs.size ∨ b = It) σ1 h1 σ' h' ∧
        SS K.hb nm fr (compEnvC scope (closAcc env.cells scope.names []) h3.objs.size env) σ' (lset ρ i o) h' ∧ ItAt h' It sv v kk ∧ Rel K.hb h' sv v ∧ IV kk σ' ∧ kk ≤ items.length ∧ n' = items.length + 1 - kk) ?_ (items.length + 1)
        ⟨h4, tk2, _, 0, none, rfl, m4.no, ⟨I4, EN, F4⟩, it4, r4, hI0, Nat.zero_le _, rfl⟩
      rintro n' s' ⟨h5, tk5, σ5, kk, o, rfl, m5, S5, it5, r5, iv5, hkk, rfl⟩
      have lv : liveOk sv items σ5 := by
        rcases Nat.lt_or_eq_of_le hkk with hlt | rfl
        · exact (hstep kk items[kk] σ5 (List.getElem?_eq_getElem hlt) iv5).1
        · exact (hend σ5 iv5).1
      refine sNext (s := { s with heap := h5, toks := tk5 }) hA.handled S5.inv r5 it5 hIb io lv (fun d u h6 tk6 e6 ru it6 m6 I6 => ?_) (fun h6 tk6 hle m6 I6 => ?_)
      · have S6 := S5.mvX m6 I6 it5.side
        have r6 := m6.relS S5.inv it5.side.soft r5
        have hlt : kk < items.length := (List.getElem?_eq_some_iff.mp e6).1
        refine wpAny_assign_Name (S6.storeL (s := { s with heap := h6, toks := tk6 }) hi ru (lookup_relabel_local hx) rfl fun h7 tk7 m7 S7 => ?_)
        rw [lset_lset] at S7
        have so6 : Soft (fun b => b = h3.objs.size) h6 := fun b o z e => S6.env.softOwn b o (.inl z) e
        have hne : ¬ (It = h3.objs.size) := fun z => it6.notOwn S6.env (.inl z)
        have it7 := it6.mv I6 m7 hne
        have r7 := m7.relS I6 so6 r6
        have m57 : Mv K.hb (fun b => b = h3.objs.size ∨ b = It) σ1 h1 σ5 h7 := (m5.trans (m6.mono fun b z => .inr z)).trans (m7.mono fun b z => .inl z)
        refine hC (s := { s with heap := h7, toks := tk7 }) hA S7 hm3 (hstep kk d σ5 e6 iv5).2 (fun ok s8 g => ?_) (fun e s' b => noBad hX b)
        obtain ⟨h8, tk8, σ8, rfl, m8, I8, q8⟩ := g
        have S8 := S7.mv m8 I8
        have it8 := it7.mv S7.inv m8 id
        have r8 := m8.rel S7.inv r7
        cases ok with
        | false =>
          exact ⟨_, by lia, h8, tk8, σ8, kk + 1, some d, rfl, m57.trans m8.no, S8, it8, r8, q8, hlt, rfl⟩
        | true =>
          refine hElt (t := false) (s := { s with heap := h8, toks := tk8 }) hA S8 hm2 q8 (fun u9 s9 g => ?_) (fun e s' b => noBad hX b)
          obtain ⟨h9, tk9, σ9, d9, rfl, m9, I9, r9, acc, ea, hza, iv9⟩ := g
          have S9 := S8.mv m9 I9
          have it9 := it8.mv I8 m9 id
          have rr9 := m9.rel I8 r8
          obtain ⟨_, hzz, xs9, hp9, rl9⟩ := I9.lst _ _ ea
          have hs9 := list_size rl9
          have hLB := LB_line
          refine wpAny_list_append_plain (s := { s with heap := h9, toks := tk9 }) (hsz := by lia) hp9 fun h10 hp10 hs10 => ?_
          have I10 : Inv K.hb (put σ9 h2.objs.size (acc ++ [d9])) h10 := I9.upd ea hs10 hp10 (by simpa using hza) (by rw [Array.toList_push]; exact rl9.append (.one r9))
          have m10 : Mv K.hb No σ9 h9 (put σ9 h2.objs.size (acc ++ [d9])) h10 := .upd ea hs10 hp10
          exact ⟨_, by lia, h10, tk9, _, kk + 1, some d, rfl, ((m57.trans m8.no).trans m9.no).trans m10.no, S9.mv m10 I10, it9.mv I9 m10 id, m10.rel I9 rr9, iv9, hlt, rfl⟩
      · have hke : kk = items.length := by lia
        subst hke
        have S6 := S5.mvX m6 I6 it5.side
        have so6 : Soft (fun b => b = h3.objs.size) h6 := fun b o z e => S6.env.softOwn b o (.inl z) e
        obtain ⟨mm, hnm, _⟩ := S6.env.ns
        refine ⟨mm, hnm, fun h11 hs11 => k' _ _ ?_⟩
        have ns6 : σ5 h3.objs.size = none := by
          obtain ⟨o', es, ep, e', hd, _⟩ := hnm
          exact I6.notList e' (not_list_dict hd)
        obtain ⟨m11, I11⟩ := turnAt I6 S6.env.noL ns6 hs11.extBut so6
        have mall : Mv K.hb (fun b => b = h3.objs.size ∨ b = It) σ1 h1 σ5 h11 := (m5.trans (m6.mono fun b z => .inr z)).trans (m11.mono fun b z => .inl z)
        exact ⟨h11, tk6, σ5, .list h2.objs.size, rfl, m1.trans (mall.shrink fun b z _ => by rcases z with rfl | rfl; exact hC1; exact hIt), I11, .list _, (hend σ5 iv5).2⟩
    exact codeAny_compStart_list loop (sSelf it4 hnt loop)
end Mine
namespace Mine
noncomputable def ckA (nm : List Str) (sc : Scope) : AE → PySem.Expr → Bool
  | .var i => onName fun x _ => nm[i]? == some x && kLoc sc x
  | .int i => onCon fun c _ _ => onCI (fun j => i == j) c
  | .bin op a b => onBin fun l o r _ => op == o && (ckA nm sc a l && ckA nm sc b r)
noncomputable def ckAs (nm : List Str) (sc : Scope) : List AE → List PySem.Expr → Bool
  | [], xs => xs.isEmpty
  | e :: r, xs => onC (fun x xs => ckA nm sc e x && ckAs nm sc r xs) xs
noncomputable def ckK : List Nat → List (Option PySem.Expr) → Bool
  | [], xs => xs.isEmpty
  | j :: r, xs => onC (fun x xs => onO (fun e => onCon (fun c _ _ => onCS (fun s => symL[j]? == some s && ckK r xs) c) e) x) xs
section
variable {prog : Program} {w : World} {A : Around} {E : Value → Shared → Prop} {s : Shared} {hb : Heap} {nm : List Str} {n : Nat} {X : Sto → Prop} {fr : List Env} {env : Env} {σ : Sto} {ρ : Loc}
theorem sA : ∀ (e : AE) {x : PySem.Expr} {Q : V → Prop} {QQ : Value → Shared → Prop} {s : Shared}, SS hb nm fr env σ ρ s.heap → ckA nm env.scope e x = true → vcA e ρ Q →
    (∀ d v tk, Rel hb s.heap d v → Q d → QQ v { s with toks := tk }) → wpAny (model prog w) A (eval x env) QQ E s := by
  intro e
  induction e with
  | var i =>
    intro x Q QQ s S hm h k
    refine ofName (P := fun x => wpAny (model prog w) A (eval x env) QQ E s) hm fun x p hm => ?_
    exact ofSome h fun d hd h => locName S (andL hm) (andR hm) hd fun v r => k _ _ s.toks r h
  | int i =>
    intro x Q QQ s S hm h k
    exact ofCon (P := fun x => wpAny (model prog w) A (eval x env) QQ E s) hm fun c _ _ hm => ofCI (P := fun c => wpAny (model prog w) A (eval (.Constant c _ _) env) QQ E s) hm fun j hj => eqb (P := fun j => wpAny (model prog w) A (eval (.Constant (.int j) _ _) env) QQ E s) hj (wpAny_Constant_int (k _ _ _ (.int i _) h))
  | bin op a b iha ihb =>
    intro x Q QQ s S hm h k
    refine ofBin (P := fun x => wpAny (model prog w) A (eval x env) QQ E s) hm fun l o r p hm => eqb (P := fun o => wpAny (model prog w) A (eval (.BinOp l o r p) env) QQ E s) (andL hm) ?_
    refine wpAny_BinOp (iha S (andL (andR hm)) h fun x v tk r1 h1 => ?_)
    refine ihb (s := { s with toks := tk }) S (andR (andR hm)) h1 fun y u tk2 r2 h2 => ?_
    refine r1.onI h2 fun i t h2 => r2.onI h2 fun j t' h2 => ?_
    cases op with
    | Add => exact add_int (k _ _ _ (.int _ _) h2)
    | Sub => exact PyProof.Rows.sub_int (k _ _ _ (.int _ _) h2)
    | Mult => exact PyProof.Rows.mul_int (k _ _ _ (.int _ _) h2.2.2) (mulOk h2.1 h2.2.1)
    | Mod => exact mod_int' h2.1 (k _ _ _ (.int _ _) h2.2)
    | _ => exact h2.elim
inductive PrsOf (hb h : Heap) : List Nat → List V → List (Value × Value) → Prop
  | nil : PrsOf hb h [] [] []
  | cons {k ks d ds x t v vs} (e : symL[k]? = some x) (r : Rel hb h d v) (q : PrsOf hb h ks ds vs) : PrsOf hb h (k :: ks) (d :: ds) ((.str x t, v) :: vs)
theorem sPairs {pos : Pos} : ∀ (ks : List Nat) {es : List AE} {keys : List (Option PySem.Expr)} {xs : List PySem.Expr} {Q : List V → Prop} {QQ : List (Value × Value) → Shared → Prop} {s : Shared}, SS hb nm fr env σ ρ s.heap → ckK ks keys = true → ckAs nm env.scope es xs = true → ks.length = es.length → vcAs es ρ Q →
    (∀ ds vs tk, PrsOf hb s.heap ks ds vs → Q ds → QQ vs { s with toks := tk }) → wpAny (model prog w) A (evalPairs (pairTrees keys xs env pos)) QQ E s := by
  intro ks
  induction ks with
  | nil =>
    intro es keys xs Q QQ s S hk hx hl h k
    cases es with
    | nil => obtain rfl := nilT hk; obtain rfl := nilT hx; exact pairTrees_nil_walk (k [] [] s.toks .nil h)
    | cons _ _ => cases hl
  | cons j ks ih =>
    intro es keys xs Q QQ s S hk hx hl h k
    cases es with
    | nil => cases hl
    | cons e es =>
      refine ofC (P := fun keys => wpAny (model prog w) A (evalPairs (pairTrees keys xs env pos)) QQ E s) hk fun x keys hk => ofO (P := fun x => wpAny (model prog w) A (evalPairs (pairTrees (x :: keys) xs env pos)) QQ E s) hk fun x hk =>
        ofCon (P := fun x => wpAny (model prog w) A (evalPairs (pairTrees (some x :: keys) xs env pos)) QQ E s) hk fun c kk pp hk => ofCS (P := fun c => wpAny (model prog w) A (evalPairs (pairTrees (some (.Constant c kk pp) :: keys) xs env pos)) QQ E s) hk fun x hk =>
        ofC (P := fun xs => wpAny (model prog w) A (evalPairs (pairTrees (some (.Constant (.str x) kk pp) :: keys) xs env pos)) QQ E s) hx fun y xs hx => ?_
      refine pairTrees_cons_walk (wpAny_Constant_str ?_)
      refine sA e (s := { s with toks := s.toks + 1 }) S (andL hx) h fun d v tk r h1 => ?_
      refine ih (s := { s with toks := tk }) S (andR hk) (andR hx) (Nat.succ.inj hl) h1 fun ds vs tk2 q h2 => ?_
      exact k (d :: ds) _ _ (.cons (eq_of_beq (andL hk)) r q) h2
theorem PrsOf.facts {h : Heap} {ks : List Nat} {ds : List V} {vs : List (Value × Value)} (q : PrsOf hb h ks ds vs) : allStrKeys vs = true ∧ (strPairs vs).map (fun p => some p.1) = ks.map (fun k => symL[k]?) ∧
    ∀ j d x, dselV ks ds j = some d → symL[j]? = some x → ∃ v, valueAt (strPairs vs) x = some v ∧ Rel hb h d v := by
  induction q with
  | nil => exact ⟨rfl, rfl, fun j d x h => by cases h⟩
  | @cons k ks d ds x t v vs e r q ih =>
    obtain ⟨a, b, c⟩ := ih
    refine ⟨a, by simp only [strPairs, List.map_cons, e]; rw [b], fun j d' x' h1 h2 => ?_⟩
    unfold dselV at h1
    unfold valueAt strPairs
    by_cases hj : (k == j) = true
    · rw [if_pos hj] at h1
      cases h1
      obtain rfl : k = j := eq_of_beq hj
      rw [e] at h2; cases h2
      exact ⟨v, by simp, r⟩
    · rw [if_neg hj] at h1
      have hne : ¬ x = x' := fun z => hj (by subst z; simpa using sym_inj e h2)
      obtain ⟨v', a', b'⟩ := c j d' x' h1 h2
      exact ⟨v', by simp only [List.find?_cons, hne, decide_false]; exact a', b'⟩
theorem ckK_facts : ∀ {ks : List Nat} {keys : List (Option PySem.Expr)}, ckK ks keys = true → keys.all (·.isSome) = true ∧ keys.length = ks.length
  | [], _, h => by obtain rfl := nilT h; exact ⟨rfl, rfl⟩
  | _ :: ks, _, h => ofC (P := fun keys => keys.all (·.isSome) = true ∧ keys.length = ks.length + 1) h fun x keys h => ofO (P := fun x => (x :: keys).all (·.isSome) = true ∧ (x :: keys).length = ks.length + 1) h fun x h =>
    ofCon (P := fun x => (some x :: keys).all (·.isSome) = true ∧ (some x :: keys).length = ks.length + 1) h fun c _ _ h => ofCS (P := fun c => (some (PySem.Expr.Constant c _ _) :: keys).all (·.isSome) = true ∧ (some (PySem.Expr.Constant c _ _) :: keys).length = ks.length + 1) h fun _ h =>
      have ⟨a, b⟩ := ckK_facts (andR h); ⟨a, congrArg Nat.succ b⟩
theorem ckAs_len {sc : Scope} : ∀ {es : List AE} {xs : List PySem.Expr}, ckAs nm sc es xs = true → xs.length = es.length
  | [], _, h => by obtain rfl := nilT h; rfl
  | _ :: es, _, h => ofC (P := fun xs => xs.length = es.length + 1) h fun x xs h => congrArg Nat.succ (ckAs_len (andR h))
theorem sym_nodup : ∀ {ks : List Nat} {ps : List Str}, ks.Nodup → ps.map some = ks.map (fun k => symL[k]?) → ps.Nodup
  | [], [], _, _ => .nil
  | [], _ :: _, _, h => by simp at h
  | _ :: _, [], _, h => by simp at h
  | k :: ks, p :: ps, hn, h => by
    rw [List.map_cons, List.map_cons, List.cons.injEq] at h
    rw [List.nodup_cons] at hn
    refine List.nodup_cons.mpr ⟨fun m => ?_, sym_nodup hn.2 h.2⟩
    have : some p ∈ ks.map (fun k => symL[k]?) := h.2 ▸ List.mem_map_of_mem m
    obtain ⟨j, hj, e⟩ := List.mem_map.mp this
    exact hn.1 (sym_inj h.1.symm e ▸ hj)
end
inductive DselC (ks : List Nat) (ds : List V) (j : Nat) (Q : V → Prop) : Prop | mk (d : V) (h : dselV ks ds j = some d) (k : Q d)
noncomputable def ME.dsel (ks : List Nat) (es : List AE) (a : Nat) (i : Int) : ME where
  ck nm sc := onSub fun u v _ => onDict (fun keys xs _ => onSub (fun y z _ => onName (fun t _ => onCon (fun c _ _ => onCI (fun j => i == j && (nm[a]? == some t && (kLoc sc t && (ckK ks keys && (ckAs nm sc es xs && (decide (ks.length ≤ 8) && (decide (ks.length = es.length) && (!ks.isEmpty && decide ks.Nodup)))))))) c) z) y) v) u
  vc K n X t ρ σ Q := vcAs es ρ fun ds => onSome (lget ρ a) fun z => Bar (vIdx z (.int i) σ fun x => onS x fun j => DselC ks ds j fun d => qq t Q d σ)
  ok {K n X nm A env fr s σ ρ t x Q QQ E} hA S hm h k kE := by
    refine ofSub (P := fun x => RunE K.prog K.w A t x env QQ E s) hm fun u v p hm => ofDict (P := fun u => RunE K.prog K.w A t (.Subscript u v p) env QQ E s) hm fun keys xs q hm => ofSub (P := fun v => RunE K.prog K.w A t (.Subscript (.Dict keys xs q) v p) env QQ E s) hm fun y z p3 hm =>
      ofName (P := fun y => RunE K.prog K.w A t (.Subscript (.Dict keys xs q) (.Subscript y z p3) p) env QQ E s) hm fun x p1 hm => ofCon (P := fun z => RunE K.prog K.w A t (.Subscript (.Dict keys xs q) (.Subscript (.Name x p1) z p3) p) env QQ E s) hm fun c kk p2 hm =>
      ofCI (P := fun c => RunE K.prog K.w A t (.Subscript (.Dict keys xs q) (.Subscript (.Name x p1) (.Constant c kk p2) p3) p) env QQ E s) hm fun j hm => eqb (P := fun j => RunE K.prog K.w A t (.Subscript (.Dict keys xs q) (.Subscript (.Name x p1) (.Constant (.int j) kk p2) p3) p) env QQ E s) (andL hm) ?_
    have hx := andL (andR hm)
    have hk := andL (andR (andR hm))
    have hm := andR (andR (andR hm))
    have hm1 := andL hm
    have hm2 := andL (andR hm)
    have hm := andR (andR hm)
    have hl8 := of_decide_eq_true (andL hm)
    have hle := of_decide_eq_true (andL (andR hm))
    have hne := nilF (andL (andR (andR hm)))
    have hnd := of_decide_eq_true (andR (andR (andR hm)))
    obtain ⟨f1, f2⟩ := ckK_facts hm1
    refine plainRun rfl (fun QQ' k' => Subscript_ ?_) k
    have pk := push_keeps s.heap { cls := .type "dict", data := .dict #[] }
    refine wpAny_Dict_walk (knd := strKind K.prog K.w) f1 (by rw [f2, ckAs_len hm2]; exact hle) (fun z => by subst z; exact hne (List.length_eq_zero_iff.mp f2.symm)) (by lia) ?_
    refine sPairs ks (s := { s with heap := s.heap.push { cls := .type "dict", data := .dict #[] } }) (S.mv (.grown pk) (S.inv.grown pk)) hm1 hm2 hle h fun ds vs tk hp h1 => ?_
    obtain ⟨a1, a2, a3⟩ := hp.facts
    have hn' : ((strPairs vs).map (·.1)).Nodup := sym_nodup hnd (by rw [← a2, List.map_map]; rfl)
    refine display_done_str a1 hn' (Heap.DictOf.new _) fun h' hd hs => ?_
    have keep : ∀ b o, s.heap.get? b = some o → h'.get? b = some o := fun b o e => hs.extBut b o (fun z => by rw [z, size_none] at e; cases e) (pk b o e)
    have keep2 : ∀ b o, s.heap.get? b = some o → h'.get? b = some o := keep
    have m : Mv K.hb No σ s.heap σ h' := .grown keep
    have I' := S.inv.grown keep
    have S' := S.mv m I'
    refine ofSome h1 fun z hz h1 => ?_
    refine Subscript_ ?_
    refine locName (s := { s with heap := h', toks := tk + vs.length }) S' hx hk hz fun v r => wpAny_Constant_int ?_
    obtain ⟨T', id, hT', hl⟩ := slot_of_rel I' r h1.un { s with heap := h', toks := tk + vs.length + 1 } rfl
    refine tail_any hT' hl ?_ (subscripted_plain rfl)
    refine sIdx (s := { s with heap := h', toks := tk + vs.length + 1 }) I' r (.int i _) h1.un fun d u tk2 r2 h2 => ?_
    refine r2.onS h2 fun j y ty hy h2 => ?_
    obtain ⟨d', e', h3⟩ := h2
    obtain ⟨v', e2, r3⟩ := a3 j d' y e' hy
    have r4 : Rel K.hb h' d' v' := r3.keeps fun b o e tp => hs.extBut b o (fun z => by
      subst z
      have := Heap.get?_push_size s.heap (o := { cls := .type "dict", data := .dict #[] }) rfl
      dsimp only at e
      rw [this] at e
      cases e
      rcases tp with ⟨tp, _⟩ | ⟨tp, _⟩
      · exact absurd tp (by show ¬ (Value.type "dict" = Value.type "tuple"); decide)
      · exact absurd tp (by show ¬ (Value.type "dict" = Value.type "range"); decide)) e
    refine tail_any hd.typeIs slot_dict_getitem.lookup (wpAny_getItem_of (knd := strKind K.prog K.w) (strKind_is K.prog K.w y ty) hd.mapOf e2 ?_) (subscripted_plain rfl)
    exact k' _ _ (goodE m I' r4 h3)
end Mine
namespace Mine
noncomputable def FlOf (hb h : Heap) : FL → Flow → Prop
  | .next, f => f = .next
  | .cont, f => f = .cont
  | .ret d, f => ∃ v, f = .ret v ∧ Rel hb h d v
inductive GoodS (hb : Heap) (nm : List Str) (fr : List Env) (env : Env) (σ : Sto) (s : Shared) (Q : FL → Loc → Sto → Prop) (f : Flow) (s' : Shared) : Prop
  | mk (h' : Heap) (tk : Nat) (σ' : Sto) (ρ' : Loc) (fl : FL) (e : s' = { s with heap := h', toks := tk }) (m : Mv hb (ownA env) σ s.heap σ' h') (S : SS hb nm fr env σ' ρ' h') (hf : FlOf hb h' fl f) (q : Q fl ρ' σ')
noncomputable def Raw (dieC : Addr) (h h' : Heap) (a : Addr) : Prop :=
  h.get? a = none ∧ (∀ b o, h.get? b = some o → h'.get? b = some o) ∧ ∃ oe vs a0, h'.get? a = some oe ∧ oe.cls = .ref dieC ∧ oe.data = .fields vs ∧ vs[1]? = some .none ∧ vs[0]? = some a0
inductive BadR (hb : Heap) (dieC : Addr) (fr : List Env) (S : Addr → Prop) (σ : Sto) (s : Shared) (X : Sto → Prop) (e : Value) (s' : Shared) : Prop
  | mk (h h' : Heap) (tk : Nat) (σ' : Sto) (a : Addr) (ea : e = .ref a) (es : s' = { s with heap := h', toks := tk }) (m : Mv hb S σ s.heap σ' h) (I : Inv hb σ' h) (F : FrOk hb fr h) (r : Raw dieC h h' a) (x : X σ')
noncomputable def BadS (hb : Heap) (dieC : Addr) (fr : List Env) (S : Addr → Prop) (σ : Sto) (s : Shared) (X : Sto → Prop) (e : Value) (s' : Shared) : Prop :=
  BadE hb dieC fr S σ s X e s' ∨ BadR hb dieC fr S σ s X e s'
noncomputable def DieRaise (K : Ctx) (n : Nat) : Prop :=
  ∀ {A : Around} {fr : List Env} {env : Env} {σ : Sto} {ρ : Loc} {nm : List Str} {s : Shared} {pos q : Pos} {x : Str} {k : Nat} {p1 p2 : Pos} {QQ : Flow → Shared → Prop} {E : Value → Shared → Prop},
    At A fr n → SS K.hb nm fr env σ ρ s.heap → kGlo env.scope dieN = true → (∀ e s', BadR K.hb dieC fr No σ s (fun σ' => σ' = σ) e s' → E e s') →
    wpAny (model K.prog K.w) A (exec (.Raise (some (.Call (.Name dieN q) [.Constant (.str x) k p1] [] p2)) none pos) env) QQ E s
section
variable {prog : Program} {w : World} {A : Around} {E : Value → Shared → Prop} {s : Shared} {hb : Heap} {nm : List Str} {n : Nat} {X : Sto → Prop} {fr : List Env} {env : Env} {σ : Sto} {ρ : Loc} {S T : Addr → Prop}
theorem BadE.mono {e : Value} {s' : Shared} (h : ∀ b, S b → T b) (b : BadE hb dieC fr S σ s X e s') : BadE hb dieC fr T σ s X e s' := by
  obtain ⟨h1, h2, tk, σ', a, r1, r2, m, r3, r4, r5⟩ := b; exact ⟨h1, h2, tk, σ', a, r1, r2, m.mono h, r3, r4, r5⟩
theorem BadE.up {e : Value} {s' : Shared} (b : BadE hb dieC fr No σ s X e s') : BadS hb dieC fr T σ s X e s' := .inl (b.mono fun _ q => q.elim)
theorem BadR.mono {e : Value} {s' : Shared} (h : ∀ b, S b → T b) (b : BadR hb dieC fr S σ s X e s') : BadR hb dieC fr T σ s X e s' := by
  obtain ⟨h1, h2, tk, σ', a, r1, r2, m, r3, r4, r5, r6⟩ := b; exact ⟨h1, h2, tk, σ', a, r1, r2, m.mono h, r3, r4, r5, r6⟩
theorem BadR.after {h : Heap} {tk : Nat} {σ₁ : Sto} {e : Value} {s' : Shared} (m : Mv hb S σ s.heap σ₁ h) (g : BadR hb dieC fr S σ₁ { s with heap := h, toks := tk } X e s') : BadR hb dieC fr S σ s X e s' := by
  obtain ⟨h1, h2, tk', σ', a, rfl, rfl, m', r3, r4, r5, r6⟩ := g
  exact ⟨h1, h2, tk', σ', a, rfl, rfl, m.trans m', r3, r4, r5, r6⟩
theorem BadS.after {h : Heap} {tk : Nat} {σ₁ : Sto} {e : Value} {s' : Shared} (m : Mv hb S σ s.heap σ₁ h) (g : BadS hb dieC fr S σ₁ { s with heap := h, toks := tk } X e s') : BadS hb dieC fr S σ s X e s' := by
  rcases g with g | g
  · exact .inl (g.after m)
  · exact .inr (g.after m)
theorem noBadS {e : Value} {s' : Shared} {P : Prop} (hX : ∀ σ, ¬ X σ) (b : BadS hb dieC fr S σ s X e s') : P := by
  rcases b with b | b
  · exact noBad hX b
  · obtain ⟨_, _, _, _, _, _, _, _, _, _, _, x⟩ := b; exact (hX _ x).elim
theorem GoodS.after {h : Heap} {tk : Nat} {σ₁ : Sto} {Q : FL → Loc → Sto → Prop} {f : Flow} {s' : Shared} (m : Mv hb (ownA env) σ s.heap σ₁ h) (g : GoodS hb nm fr env σ₁ { s with heap := h, toks := tk } Q f s') : GoodS hb nm fr env σ s Q f s' := by
  obtain ⟨h', tk', σ', ρ', fl, rfl, m', r1, r2, r3⟩ := g
  exact ⟨h', tk', σ', ρ', fl, rfl, m.trans m', r1, r2, r3⟩
theorem kSto_kind {x : Str} (h : kSto env.scope x = true) : env.kindOf x = some .local ∨ env.kindOf x = some .cell :=
  (Bool.or_eq_true_iff.mp h).imp eq_of_beq eq_of_beq
theorem swapsWith_no {v : PySem.Expr} {t : Option PySem.Expr} {l : Nat} (h : isCompr v = false) : swapsWith v t l env = pure false := by
  cases v <;> first | rfl | exact absurd (show true = false from h) nofun
theorem swapsSole_no {v t : PySem.Expr} {l : Nat} (h : isCompr v = false) : swapsWithSole [t] v l env = pure false := swapsWith_no h
/-- what a name holds, before a statement turns it -/
theorem loadN {Q : Value → Shared → Prop} (R : SS hb nm fr env σ ρ s.heap) {i : Nat} {x : Str} {d : V} (hi : nm[i]? = some x) (hd : lget ρ i = some d) (hk : env.kindOf x = some .local ∨ env.kindOf x = some .cell)
    (q : ∀ v, Rel hb s.heap d v → Q v s) : wpAny (model prog w) A (loadName env x) Q E s := by
  rcases hk with hk | hk
  · obtain ⟨m, hn, hv⟩ := R.env.ns
    obtain ⟨v, e, r⟩ := hv i x d hi hd hk
    exact wpAny_loadName_local R.env.kind hk hn e (q v r)
  · obtain ⟨c, hc⟩ := Option.isSome_iff_exists.mp (R.env.has x (.inl hk))
    obtain ⟨_, ov, cc, r⟩ := R.env.cells x c hc
    obtain ⟨v, rfl, r2⟩ := r i d hi hd (.inl hk)
    exact wpAny_loadName_cell R.env.kind hk hc cc (q v r2)
theorem extBut_keep {h h' : Heap} (x : Heap.ExtBut h.objs.size h h') : ∀ b o, h.get? b = some o → h'.get? b = some o := fun b o e => x b o (fun z => by rw [z, size_none] at e; cases e) e
noncomputable def ckN (nm : List Str) (sc : Scope) : List Nat → List PySem.Expr → Bool
  | [], xs => xs.isEmpty
  | i :: is, xs => onC (fun x xs => onName (fun y _ => nm[i]? == some y && (kSto sc y && ckN nm sc is xs)) x) xs
/-- names stored in order -/
theorem sAssign {QQ : Unit → Shared → Prop} : ∀ (is : List Nat) {ts : List PySem.Expr} {ds : List V} {vs : List Value} {ρ : Loc} {s : Shared}, SS hb nm fr env σ ρ s.heap → ckN nm env.scope is ts = true → RelL hb s.heap ds vs → ds.length = is.length →
    (∀ h' tk, Mv hb (ownA env) σ s.heap σ h' → SS hb nm fr env σ (lsets ρ is ds) h' → QQ () { s with heap := h', toks := tk }) → wpAny (model prog w) A (assignInOrder ((assignEach ts env).map (·.2)) vs) QQ E s := by
  intro is
  induction is with
  | nil =>
    intro ts ds vs ρ s R hm r hl k
    obtain rfl := nilT hm
    obtain rfl : ds = [] := List.eq_nil_of_length_eq_zero hl
    cases r
    exact wpAny_pure (k s.heap s.toks (.refl _ _) R)
  | cons i is ih =>
    intro ts ds vs ρ s R hm r hl k
    refine ofC (P := fun ts => wpAny (model prog w) A (assignInOrder ((assignEach ts env).map (·.2)) vs) QQ E s) hm fun x t hm => ofName (P := fun x => wpAny (model prog w) A (assignInOrder ((assignEach (x :: t) env).map (·.2)) vs) QQ E s) hm fun x q hm => ?_
    cases r with
    | nil => cases hl
    | cons r rl =>
      refine PyProof.Rows.assignInOrder_cons (wpAny_assign_Name (R.store (eq_of_beq (andL hm)) r (kSto_kind (andL (andR hm))) rfl fun h1 tk1 m1 R1 => ?_))
      refine ih (s := { s with heap := h1, toks := tk1 }) R1 (andR (andR hm)) (m1.relLS R.inv R.env.softOwn rl) (Nat.succ.inj hl) fun h2 tk2 m2 R2 => ?_
      exact k h2 tk2 (m1.trans m2) R2
theorem ckN_len : ∀ {is : List Nat} {sc : Scope} {ts : List PySem.Expr}, ckN nm sc is ts = true → ts.length = is.length ∧ ∀ env : Env, (assignEach ts env).length = ts.length ∧ (assignEach ts env).findIdx? (·.1) = none
  | [], _, _, h => by obtain rfl := nilT h; exact ⟨rfl, fun _ => ⟨rfl, rfl⟩⟩
  | _ :: is, sc, _, h => by
    refine ofC (P := fun ts => ts.length = is.length + 1 ∧ ∀ env : Env, (assignEach ts env).length = ts.length ∧ (assignEach ts env).findIdx? (·.1) = none) h fun x t h => ofName (P := fun x => (x :: t).length = is.length + 1 ∧ ∀ env : Env, (assignEach (x :: t) env).length = (x :: t).length ∧ (assignEach (x :: t) env).findIdx? (·.1) = none) h fun x q h => ?_
    obtain ⟨a, b⟩ := ckN_len (andR (andR h))
    refine ⟨congrArg Nat.succ a, fun env => ?_⟩
    obtain ⟨c, d⟩ := b env
    refine ⟨congrArg Nat.succ c, ?_⟩
    show (List.findIdx? (·.1) ((false, _) :: assignEach t env)) = none
    rw [List.findIdx?_cons, if_neg (show ¬ false = true by decide), d]; rfl
theorem noSwap {ts : List PySem.Expr} {k : Nat} {q : Pos} {v : PySem.Expr} (h : swaps ts.length v = false) : swappedStores [.Tuple ts k q] v env = pure none := by
  unfold swappedStores
  cases v with
  | Tuple vs k' q' =>
    have h : ((ts.length == 2 || ts.length == 3) && vs.length == ts.length && !vs.all (foldedForSure 8)) = false := h
    simp only [Bool.and_eq_false_iff, Bool.or_eq_false_iff, Bool.not_eq_false', beq_eq_false_iff_ne] at h
    dsimp only
    split
    · rfl
    · rename_i h1
      simp only [Bool.or_eq_true, Bool.not_eq_true', Bool.or_eq_false_iff, beq_eq_false_iff_ne, bne_iff_ne, not_or, not_and, Decidable.not_not, ne_eq, beq_iff_eq] at h1
      have hall : vs.all (foldedForSure 8) = true := by
        rcases h with (h | h) | h
        · exact absurd h.2 (by simpa using h1.1.1 h.1)
        · exact absurd h1.1.2 h
        · exact h
      split
      · rfl
      · split
        · rfl
        · first | rfl | (rw [if_pos hall]; rfl)
  | _ => rfl
theorem mapSeq_set_plain (its : Array Value) (n j : Nat) (x : Value) :
    ∃ n', Obj.mapSeq (·.setIfInBounds j x) { cls := .type "list", data := .seq its n } = { cls := .type "list", data := .seq (its.setIfInBounds j x) n' } := by
  simp [Obj.mapSeq]
theorem setItem_plain {l : Addr} {items : Array Value} {k : Int} {t : Tok} {v : Value} {Q : Unit → Shared → Prop} (hl : s.heap.PlainList l items)
    (h0 : 0 ≤ k) (hfit : k < 2 ^ 63) (hn : k < items.size)
    (hQ : ∀ h', h'.PlainList l (items.setIfInBounds k.toNat v) → Heap.SameBut l s.heap h' → Q () { s with heap := h' }) :
    wpAny (model prog w) A (setItem (.ref l) (.int k t) v) Q E s := by
  obtain ⟨ne, ho⟩ := id hl
  have hT : s.TypeIs (.ref l) "list" := hl.isList.typeIs
  unfold setItem
  try with_reducible refine wpAny_holding ?_
  first | refine wpAny_bind (wpAny_pure ?_) | skip
  refine wpAny_bind (wpAny_sequenceKey hT (by decide) ?_)
  refine wpAny_bind (wpAny_callSpecial?_slot (name := Str.ofString "__setitem__") hT slot_list_setitem
    (wpAny_call_entry slot_list_setitem hT entry_list_setitem ?_ (args_list_setitem _ _ _)))
  show wpAny _ _ (Builtin.List.listSubscript? (.int k t) >>= _) _ _ s
  refine wpAny_bind (wpAny_listSubscript_int (fitsIndex_of h0 hfit) ?_)
  clear hfit
  obtain ⟨j, rfl⟩ := Int.eq_ofNat_of_zero_le h0
  have hj : j < items.size := by lia
  have hx' : items[j]? = some items[j] := Array.getElem?_eq_getElem hj
  show wpAny _ _ ((seqItemAt l j >>= fun r => pure (r.map (j, ·))) >>= _) _ _ s
  refine wpAny_bind (wpAny_bind (wpAny_seqItemAt ho rfl (wpAny_pure ?_)))
  rw [hx']
  show wpAny _ _ (setSeqItemAt l j v >>= _) _ _ s
  obtain ⟨n', e⟩ := mapSeq_set_plain items ne j v
  have hfin : (s.heap.update l (Obj.mapSeq (·.setIfInBounds j v))).PlainList l (items.setIfInBounds j v) := by
    refine ⟨n', ?_⟩
    rw [Heap.get?_update_self _ ho (by rw [e]; rfl), e]
  refine wpAny_bind (wpAny_setSeqItemAt ho rfl ?_)
  first
    | exact wpAny_bind (wpAny_pure (wpAny_pure ⟨.none, rfl, wpAny_pure (hQ _ hfin (Heap.SameBut.update ..))⟩))
    | exact wpAny_pure ⟨.none, rfl, wpAny_pure (hQ _ hfin (Heap.SameBut.update ..))⟩
/-- the exception lands: everything of before stands -/
theorem flyLand {base h1 h2 : Heap} {e : Addr} {a0 : Value} {σ' : Sto} (hfl : Heap.FlyingW base fr e (.ref dieC) a0 h2) (up : h1.UpToSlots h2) (hk : ∀ b o, h1.get? b = some o → base.get? b = some o ∨ (hb.get? b = none ∧ ∃ es n, o.data = .dict es n))
    (I : Inv hb σ' h1) : (∀ b o, h1.get? b = some o → Keep hb h2 b o) ∧ Inv hb σ' h2 ∧ Mv hb No σ' h1 σ' h2 := by
  have k : ∀ b o, h1.get? b = some o → Keep hb h2 b o := fun b o e => by
    rcases hk b o e with q | ⟨nb, es, m, hd⟩
    · exact .inl (hfl.1 b o q)
    · obtain ⟨sl, e'⟩ := up b o e (by intro vs z; rw [hd] at z; cases z)
      exact .inr ⟨nb, ⟨es, m, hd⟩, sl, e'⟩
  have m : Mv hb No σ' h1 σ' h2 := ⟨fun b o e _ _ => k b o e, fun _ e => e, fun _ _ e q => absurd e q, fun b _ e q => by
    obtain ⟨o, e'⟩ := Option.ne_none_iff_exists'.mp e
    obtain ⟨o', q', _⟩ := (k b o e').data
    rw [q] at q'; cases q'⟩
  refine ⟨k, ⟨fun b o e => ?_, fun b l e => ?_⟩, m⟩
  · rcases k b o (I.base b o e) with q | ⟨nb, _⟩
    · exact q
    · rw [e] at nb; cases nb
  · obtain ⟨nb, z, xs, ⟨j, p⟩, r⟩ := I.lst b l e
    exact ⟨nb, z, xs, ⟨j, (k _ _ p).seq rfl⟩, m.relL I r⟩
end
/-! ## what a handler gives back -/
noncomputable def SndR (ck : List Str → Scope → PySem.Expr → Bool) (vc : Loc → (V → Prop) → Prop) : Prop :=
  ∀ {hb : Heap} {prog : Program} {w : World} {nm : List Str} {A : Around} {env : Env} {fr : List Env} {σ : Sto} {ρ : Loc} {x : PySem.Expr} {Q : V → Prop} {QQ E : Value → Shared → Prop} {s : Shared}, SS hb nm fr env σ ρ s.heap → ck nm env.scope x = true → vc ρ Q →
    (∀ d v h' tk, (∀ b o, s.heap.get? b = some o → h'.get? b = some o) → Rel hb h' d v → Q d → QQ v { s with heap := h', toks := tk }) → wpAny (model prog w) A (eval x env) QQ E s
structure RE where
  ck : List Str → Scope → PySem.Expr → Bool
  vc : Loc → (V → Prop) → Prop
  ok : SndR ck vc
noncomputable def RE.var (i : Nat) : RE where
  ck nm sc := onName fun x _ => nm[i]? == some x && kLoc sc x
  vc ρ Q := onSome (lget ρ i) Q
  ok {hb prog w nm A env fr σ ρ x Q QQ E s} S hm h k := by
    refine ofName (P := fun x => wpAny (model prog w) A (eval x env) QQ E s) hm fun x p hm => ?_
    exact ofSome h fun d hd h => locName S (andL hm) (andR hm) hd fun v r => k _ _ s.heap s.toks (fun _ _ e => e) r h
noncomputable def RE.non : RE where
  ck nm sc := onCon fun c _ _ => onCN c
  vc ρ Q := Q .non
  ok {hb prog w nm A env fr σ ρ x Q QQ E s} S hm h k :=
    ofCon (P := fun x => wpAny (model prog w) A (eval x env) QQ E s) hm fun c _ _ hm => ofCN (P := fun c => wpAny (model prog w) A (eval (.Constant c _ _) env) QQ E s) hm (wpAny_Constant_none (k _ _ s.heap s.toks (fun _ _ e => e) .non h))
noncomputable def RE.bool (b : Bool) : RE where
  ck nm sc := onCon fun c _ _ => onCB (fun j => b == j) c
  vc ρ Q := Q (.bool b)
  ok {hb prog w nm A env fr σ ρ x Q QQ E s} S hm h k :=
    ofCon (P := fun x => wpAny (model prog w) A (eval x env) QQ E s) hm fun c _ _ hm => ofCB (P := fun c => wpAny (model prog w) A (eval (.Constant c _ _) env) QQ E s) hm fun j hj => eqb (P := fun j => wpAny (model prog w) A (eval (.Constant (.bool j) _ _) env) QQ E s) hj (wpAny_Constant_bool (k _ _ s.heap s.toks (fun _ _ e => e) (.bool b) h))
noncomputable def RE.str (j : Nat) : RE where
  ck nm sc := onCon fun c _ _ => onCS (fun x => symL[j]? == some x) c
  vc ρ Q := Q (.str j)
  ok {hb prog w nm A env fr σ ρ x Q QQ E s} S hm h k :=
    ofCon (P := fun x => wpAny (model prog w) A (eval x env) QQ E s) hm fun c _ _ hm => ofCS (P := fun c => wpAny (model prog w) A (eval (.Constant c _ _) env) QQ E s) hm fun j hj => wpAny_Constant_str (k _ _ s.heap _ (fun _ _ e => e) (.str _ (eq_of_beq hj)) h)
noncomputable def RE.tup2 (a b : RE) : RE where
  ck nm sc := onTup fun xs _ _ => on2 (fun x y => !isStar x && (!isStar y && (a.ck nm sc x && b.ck nm sc y))) xs
  vc ρ Q := a.vc ρ fun x => b.vc ρ fun y => Q (.tup [x, y])
  ok {hb prog w nm A env fr σ ρ x Q QQ E s} R hm h k := by
    refine ofTup (P := fun x => wpAny (model prog w) A (eval x env) QQ E s) hm fun xs _ _ hm => of2 (P := fun xs => wpAny (model prog w) A (eval (.Tuple xs _ _) env) QQ E s) hm fun x y hm => ?_
    refine wpAny_Tuple (wpAny_items_cons ?_ (starEach_cons (nott (andL hm))))
    refine a.ok R (andL (andR (andR hm))) h fun d1 v1 h1 tk1 k1 r1 q1 => ?_
    refine wpAny_items_cons ?_ (starEach_cons (nott (andL (andR hm))))
    refine b.ok (s := { s with heap := h1, toks := tk1 }) (R.mv (.grown (σ := σ) k1) (R.inv.grown k1)) (andR (andR (andR hm))) q1 fun d2 v2 h2 tk2 k2 r2 q2 => ?_
    refine wpAny_items_nil ⟨by rw [sizeLine_eq]; show 2 ≤ 16777216; decide, ?_⟩
    refine k (.tup [d1, d2]) _ _ _ (fun b o e => push_keeps h2 _ b o (k2 b o (k1 b o e))) ?_ q2
    refine .tup (Heap.get?_push_size _ rfl) rfl rfl (RelL.push (.cons (r1.keeps fun b o e _ => k2 b o e) (.cons r2 .nil)) _)
end Mine
namespace Mine
theorem RelL.two {hb h : Heap} {d e : V} {us : List Value} (r : RelL hb h [d, e] us) : ∃ u1 u2, us = [u1, u2] ∧ Rel hb h d u1 ∧ Rel hb h e u2 := by
  cases r with
  | cons a r => cases r with
    | cons b r => cases r; exact ⟨_, _, rfl, a, b⟩
/-! ## statements -/
noncomputable abbrev KS := FL → Loc → Sto → Prop
noncomputable abbrev RS := Loc → Sto → KS → Prop
/-- what comes behind a statement -/
inductive kont (R : RS) (Q : KS) : KS
  | next {ρ : Loc} {σ : Sto} (h : R ρ σ Q) : kont R Q .next ρ σ
  | cont {ρ : Loc} {σ : Sto} (h : Q .cont ρ σ) : kont R Q .cont ρ σ
  | ret {d : V} {ρ : Loc} {σ : Sto} (h : Q (.ret d) ρ σ) : kont R Q (.ret d) ρ σ
/-- the two arms of an if -/
inductive brk (T E : RS) (Q : KS) (ρ : Loc) : V → Sto → Prop
  | t {σ : Sto} (h : T ρ σ Q) : brk T E Q ρ (.bool true) σ
  | f {σ : Sto} (h : E ρ σ Q) : brk T E Q ρ (.bool false) σ
/-- behind a loop's body -/
inductive lop (P : Loc → Sto → Prop) (Q : KS) : KS
  | next {ρ : Loc} {σ : Sto} (h : P ρ σ) : lop P Q .next ρ σ
  | cont {ρ : Loc} {σ : Sto} (h : P ρ σ) : lop P Q .cont ρ σ
  | ret {d : V} {ρ : Loc} {σ : Sto} (h : Q (.ret d) ρ σ) : lop P Q (.ret d) ρ σ
/-- the two ways of a while -/
inductive wrk (B : RS) (P : Loc → Sto → Prop) (Q : KS) (ρ : Loc) : V → Sto → Prop
  | t {σ : Sto} (h : B ρ σ (lop P Q)) : wrk B P Q ρ (.bool true) σ
  | f {σ : Sto} (h : Q .next ρ σ) : wrk B P Q ρ (.bool false) σ
inductive StoC (σ : Sto) (a : Addr) (k : Int) (d : V) (P : Sto → Prop) : Prop
  | mk (l : List V) (h : σ a = some l) (h0 : 0 ≤ k) (hlt : k.toNat < l.length) (q : P (put σ a (l.set k.toNat d)))
inductive ForC (X : Sto → Prop) (sv : V) (items : List V) (i : Nat) (B : RS) (Q : KS) (ρ : Loc) (σ : Sto) : Prop
  | mk (hX : ∀ σ, ¬ X σ) (hz : items.length ≤ LB) (I : Nat → Loc → Sto → Prop) (h0 : I 0 ρ σ) (hs : ∀ k d ρ σ, items[k]? = some d → I k ρ σ → liveOk sv items σ ∧ B (lset ρ i (some d)) σ (lop (I (k + 1)) Q)) (he : ∀ ρ σ, I items.length ρ σ → liveOk sv items σ ∧ Q .next ρ σ)
inductive Less (I : Nat → Loc → Sto → Prop) (m : Nat) (ρ : Loc) (σ : Sto) : Prop | mk (m' : Nat) (h : m' < m) (k : I m' ρ σ)
inductive WhlC (X : Sto → Prop) (C : (V → Sto → Prop) → Loc → Sto → Prop) (B : RS) (Q : KS) (ρ : Loc) (σ : Sto) : Prop
  | mk (hX : ∀ σ, ¬ X σ) (I : Nat → Loc → Sto → Prop) (h0 : ∃ m, I m ρ σ) (hs : ∀ m ρ σ, I m ρ σ → C (wrk B (Less I m) Q ρ) ρ σ)
noncomputable def onT (x : V) (k : List V → Prop) : Prop := x.pick no1 no1 no1 k no1
noncomputable def swp2 (is : List Nat) (ds : List V) (k : Nat → Nat → V → V → Prop) : Prop := match is, ds with
  | [i, j], [x, y] => k i j x y
  | _, _ => False
theorem ofSwp2 {is : List Nat} {ds : List V} {k : Nat → Nat → V → V → Prop} (h : swp2 is ds k) : ∃ i j x y, is = [i, j] ∧ ds = [x, y] ∧ k i j x y := by
  match is, ds, h with
  | [i, j], [x, y], h => exact ⟨i, j, x, y, rfl, rfl, h⟩
noncomputable def SndS (ck : List Str → Scope → Stmt → Bool) (vc : Ctx → Nat → (Sto → Prop) → RS) : Prop :=
  ∀ {K : Ctx} {n : Nat} {X : Sto → Prop}, ((∀ σ, ¬ X σ) ∨ DieRaise K n) → ∀ {nm : List Str} {A : Around} {env : Env} {outer : List Env} {s : Shared} {σ : Sto} {ρ : Loc} {x : Stmt} {Q : KS} {QQ : Flow → Shared → Prop} {E : Value → Shared → Prop},
    At A (env :: outer) n → SS K.hb nm (env :: outer) env σ ρ s.heap → ck nm env.scope x = true → vc K n X ρ σ Q →
    (∀ f s', GoodS K.hb nm (env :: outer) env σ s Q f s' → QQ f s') → (∀ e s', BadS K.hb dieC (env :: outer) (ownA env) σ s X e s' → E e s') → wpAny (model K.prog K.w) A (exec x env) QQ E s
structure MS where
  ck : List Str → Scope → Stmt → Bool
  vc : Ctx → Nat → (Sto → Prop) → RS
  ok : SndS ck vc
noncomputable def SndSs (ck : List Str → Scope → List Stmt → Bool) (vc : Ctx → Nat → (Sto → Prop) → RS) : Prop :=
  ∀ {K : Ctx} {n : Nat} {X : Sto → Prop}, ((∀ σ, ¬ X σ) ∨ DieRaise K n) → ∀ {nm : List Str} {A : Around} {env : Env} {outer : List Env} {s : Shared} {σ : Sto} {ρ : Loc} {x : List Stmt} {Q : KS} {QQ : Flow → Shared → Prop} {E : Value → Shared → Prop},
    At A (env :: outer) n → SS K.hb nm (env :: outer) env σ ρ s.heap → ck nm env.scope x = true → vc K n X ρ σ Q →
    (∀ f s', GoodS K.hb nm (env :: outer) env σ s Q f s' → QQ f s') → (∀ e s', BadS K.hb dieC (env :: outer) (ownA env) σ s X e s' → E e s') → wpAny (model K.prog K.w) A (execs x env) QQ E s
structure MSs where
  ck : List Str → Scope → List Stmt → Bool
  vc : Ctx → Nat → (Sto → Prop) → RS
  ok : SndSs ck vc
noncomputable def MSs.nil : MSs where
  ck _ _ xs := xs.isEmpty
  vc K n X ρ σ Q := Q .next ρ σ
  ok {K n X} hR {nm A env outer s σ ρ x Q QQ E} hA S hm h k kE := by
    obtain rfl := nilT hm
    exact wpAny_execs_nil (k _ _ ⟨s.heap, s.toks, σ, ρ, .next, rfl, .refl _ _, S, rfl, h⟩)
noncomputable def MSs.cons (m : MS) (r : MSs) : MSs where
  ck nm sc := onC fun x xs => m.ck nm sc x && r.ck nm sc xs
  vc K n X ρ σ Q := m.vc K n X ρ σ (kont (r.vc K n X) Q)
  ok {K n X} hR {nm A env outer s σ ρ x Q QQ E} hA S hm h k kE := by
    refine ofC (P := fun x => wpAny (model K.prog K.w) A (execs x env) QQ E s) hm fun y ys hm => wpAny_execs_cons (m.ok hR hA S (andL hm) h (fun f s1 g => ?_) kE)
    obtain ⟨h1, tk1, σ1, ρ1, fl, rfl, m1, S1, hf, hq⟩ := g
    cases hq with
    | next hq => have hf : f = .next := hf; subst hf; exact r.ok hR (s := { s with heap := h1, toks := tk1 }) hA S1 (andR hm) hq (fun f s' g => k _ _ (g.after m1)) (fun e s' b => kE _ _ (b.after m1))
    | cont hq => have hf : f = .cont := hf; subst hf; exact k _ _ ⟨h1, tk1, σ1, ρ1, .cont, rfl, m1, S1, rfl, hq⟩
    | ret hq => obtain ⟨u, rfl, ru⟩ := hf; exact k _ _ ⟨h1, tk1, σ1, ρ1, .ret _, rfl, m1, S1, ⟨u, rfl, ru⟩, hq⟩
noncomputable def MS.asg (i : Nat) (e : ME) : MS where
  ck nm sc := onAsg fun ts v _ => on1 (fun t => onName (fun x _ => nm[i]? == some x && (kSto sc x && (!isCompr v && e.ck nm sc v))) t) ts
  vc K n X ρ σ Q := e.vc K n X false ρ σ fun d σ => Q .next (lset ρ i (some d)) σ
  ok {K n X} hR {nm A env outer s σ ρ x Q QQ E} hA S hm h k kE := by
    refine ofAsg (P := fun x => wpAny (model K.prog K.w) A (exec x env) QQ E s) hm fun ts v p hm => of1 (P := fun ts => wpAny (model K.prog K.w) A (exec (.Assign ts v p) env) QQ E s) hm fun t hm => ofName (P := fun t => wpAny (model K.prog K.w) A (exec (.Assign [t] v p) env) QQ E s) hm fun x q hm => ?_
    refine wpAny_Assign_Name (e.ok (t := false) hA S (andR (andR (andR hm))) h (fun v s1 g => ?_) (fun e s' b => kE _ _ b.up)) (swapsWith_no (nott (andL (andR (andR hm)))))
    obtain ⟨h1, tk1, σ1, d1, rfl, m1, I1, r1, q1⟩ := g
    exact (S.mv m1 I1).store (s := { s with heap := h1, toks := tk1 }) (eq_of_beq (andL hm)) r1 (kSto_kind (andL (andR hm))) rfl fun h2 tk2 m2 S2 => k _ _ ⟨h2, tk2, σ1, _, .next, rfl, m1.no.trans m2, S2, rfl, q1⟩
noncomputable def MS.unp (is : List Nat) (e : ME) : MS where
  ck nm sc := onAsg fun ts v _ => on1 (fun t => onTup (fun xs _ _ => ckN nm sc is xs && (!isCompr v && (!swaps xs.length v && e.ck nm sc v))) t) ts
  vc K n X ρ σ Q := e.vc K n X false ρ σ fun d σ => onT d fun ds => ds.length = is.length ∧ Q .next (lsets ρ is ds) σ
  ok {K n X} hR {nm A env outer s σ ρ x Q QQ E} hA S hm h k kE := by
    refine ofAsg (P := fun x => wpAny (model K.prog K.w) A (exec x env) QQ E s) hm fun ts v p hm => of1 (P := fun ts => wpAny (model K.prog K.w) A (exec (.Assign ts v p) env) QQ E s) hm fun t hm => ofTup (P := fun t => wpAny (model K.prog K.w) A (exec (.Assign [t] v p) env) QQ E s) hm fun xs kk q hm => ?_
    refine PyProof.Rows.Assign_Tuple (e.ok (t := false) hA S (andR (andR (andR hm))) h (fun v s1 g => ?_) (fun e s' b => kE _ _ b.up)) (swapsSole_no (nott (andL (andR hm)))) (noSwap (nott (andL (andR (andR hm)))))
    obtain ⟨h1, tk1, σ1, d1, rfl, m1, I1, r1, q1⟩ := g
    cases r1 with
    | tup e c hd rl =>
      obtain ⟨hl, q1⟩ := q1
      obtain ⟨a1, a2⟩ := ckN_len (andL hm)
      have hs := list_size rl
      refine wpAny_assign_Tuple hA.handled ⟨_, e, c, _, hd⟩ (by rw [(a2 env).1, a1, hs, hl]) (a2 env).2 fun h2 he => ?_
      have kp := extBut_keep he
      have S1 := S.mv m1 I1
      have m2 : Mv K.hb No σ1 h1 σ1 h2 := .grown kp
      refine sAssign is (s := { s with heap := h2, toks := tk1 }) (S1.mv m2 (I1.grown kp)) (andL hm) (m2.relL I1 rl) hl fun h3 tk3 m3 S3 => ?_
      exact k _ _ ⟨h3, tk3, σ1, _, .next, rfl, (m1.trans m2).no.trans m3, S3, rfl, q1⟩
    | _ => exact q1.elim
theorem noStars : ∀ {xs : List PySem.Expr}, noSt xs = true → (xs.any fun | .Starred .. => true | _ => false) = false
  | [], _ => rfl
  | x :: ys, h => by
    rw [List.any_cons, noStars (andR h), Bool.or_false]
    have h1 := nott (andL h)
    cases x <;> first | rfl | exact absurd (show true = false from h1) nofun
theorem swapYes {env : Env} (hk : env.scope.kind = .function) {ts vs : List PySem.Expr} {k k' : Nat} {q q' : Pos} (h : swapNames env.scope ts vs = true) (hs : noSt vs = true) :
    ∃ x y qx qy, ts = [.Name x qx, .Name y qy] ∧ swappedStores [.Tuple ts k q] (.Tuple vs k' q') env = pure (some [x, y]) := by
  refine of2 (P := fun ts => ∃ x y qx qy, ts = [.Name x qx, .Name y qy] ∧ swappedStores [.Tuple ts k q] (.Tuple vs k' q') env = pure (some [x, y])) h fun a b h => ofName (P := fun a => ∃ x y qx qy, [a, b] = [.Name x qx, .Name y qy] ∧ swappedStores [.Tuple [a, b] k q] (.Tuple vs k' q') env = pure (some [x, y])) h fun x qx h =>
    ofName (P := fun b => ∃ x' y qx' qy, [.Name x qx, b] = [.Name x' qx', .Name y qy] ∧ swappedStores [.Tuple [.Name x qx, b] k q] (.Tuple vs k' q') env = pure (some [x', y])) h fun y qy h => ?_
  simp only [Bool.and_eq_true, beq_iff_eq, bne_iff_ne, ne_eq, Bool.not_eq_true'] at h
  obtain ⟨⟨⟨⟨⟨⟨h1, h2⟩, h3⟩, h4⟩, h5⟩, h6⟩, h7⟩ := h
  refine ⟨x, y, qx, qy, rfl, ?_⟩
  have hb : env.blockKind = .function := by unfold Env.blockKind; rw [hk]; rfl
  have k1 : env.kindOf x = some .local := h2
  have k2 : env.kindOf y = some .local := h3
  unfold swappedStores
  have e1 : (y == x) = false := by simpa using fun z => h5 z.symm
  have hyx : ¬ y = x := fun z => h5 z.symm
  have hs := noStars hs
  have p1 : (Expr.Name x qx).pos.line = qx.line := rfl
  simp only [h1, hb, k1, k2, h4, h6, h7, p1, List.filterMap_cons, List.filterMap_nil, List.head?_cons, Option.map_some, Option.getD_some, List.length_cons, List.length_nil, beq_self_eq_true, Bool.and_true, Bool.true_and, if_true, bne_self_eq_false, Bool.or_false, Bool.not_true, Bool.true_or, Bool.false_eq_true, if_false]
  split
  · rename_i hc; exact absurd (hc.symm.trans hs) (by decide)
  · simp [List.eraseDups, List.eraseDupsBy, List.eraseDupsBy.loop, e1, h5, hyx]
noncomputable def MS.swp (is : List Nat) (es : MEs) : MS where
  ck nm sc := onAsg fun ts v _ => on1 (fun t => onTup (fun xs _ _ => onTup (fun vs _ _ => ckN nm sc is xs && (swapNames sc xs vs && (noSt vs && es.ck nm sc vs))) v) t) ts
  vc K n X ρ σ Q := es.vc K n X ρ σ fun ds σ => swp2 is ds fun i j x y => i ≠ j ∧ Q .next (lset (lset ρ j (some y)) i (some x)) σ
  ok {K n X} hR {nm A env outer s σ ρ x Q QQ E} hA S hm h k kE := by
    refine ofAsg (P := fun x => wpAny (model K.prog K.w) A (exec x env) QQ E s) hm fun ts v p hm => of1 (P := fun ts => wpAny (model K.prog K.w) A (exec (.Assign ts v p) env) QQ E s) hm fun t hm => ofTup (P := fun t => wpAny (model K.prog K.w) A (exec (.Assign [t] v p) env) QQ E s) hm fun ts kk q hm =>
      ofTup (P := fun v => wpAny (model K.prog K.w) A (exec (.Assign [.Tuple ts kk q] v p) env) QQ E s) hm fun vs k' q' hm => ?_
    obtain ⟨x, y, qx, qy, rfl, hw⟩ := swapYes (k := kk) (q := q) (k' := k') (q' := q') S.env.kind (andL (andR hm)) (andL (andR (andR hm)))
    refine PyProof.Rows.Assign_Tuple_swapped (wpAny_Tuple (es.ok hA S (andR (andR hm)) h (fun us s1 g => ?_) (fun e s' b => kE _ _ b.up))) (swapsSole_no rfl) hw
    obtain ⟨h1, tk1, σ1, d1, rfl, m1, I1, r1, q1⟩ := g
    obtain ⟨i, j, d, e, rfl, rfl, hij, q1⟩ := ofSwp2 q1
    obtain ⟨u1, u2, rfl, ra, rb⟩ := r1.two
    have hn : (nm[i]? == some x && (kSto env.scope x && (nm[j]? == some y && (kSto env.scope y && true)))) = true := andL hm
    refine ⟨by rw [sizeLine_eq]; show 2 ≤ 16777216; decide, ?_⟩
    have kp := push_keeps h1 { cls := .type "tuple", data := .seq [u1, u2].toArray }
    refine wpAny_unpackItems_tuple (items := [u1, u2].toArray) hA.handled ⟨_, Heap.get?_push_size _ rfl, rfl, _, rfl⟩ fun h2 he => ?_
    have kp2 := extBut_keep he
    have S1 := S.mv m1 I1
    have m2 : Mv K.hb No σ1 h1 σ1 h2 := .grown fun b o e => kp2 b o (kp b o e)
    have S2 := S1.mv m2 (I1.grown fun b o e => kp2 b o (kp b o e))
    refine PyProof.Rows.assignInOrder_cons (PyProof.Rows.bindName_ (S2.store (s := { s with heap := h2, toks := tk1 }) (eq_of_beq (andL (andR (andR hn)))) (m2.rel I1 rb) (kSto_kind (andL (andR (andR (andR hn))))) rfl fun h3 tk3 m3 S3 => ?_))
    refine PyProof.Rows.assignInOrder_cons (PyProof.Rows.bindName_ (S3.store (s := { s with heap := h3, toks := tk3 }) (eq_of_beq (andL hn)) (m3.relS S2.inv S2.env.softOwn (m2.rel I1 ra)) (kSto_kind (andL (andR hn))) rfl fun h4 tk4 m4 S4 => ?_))
    exact PyProof.Rows.assignInOrder_nil (k _ _ ⟨h4, tk4, σ1, _, .next, rfl, ((m1.trans m2).no.trans m3).trans m4, S4, rfl, q1⟩)
noncomputable def MS.sto (a i e : ME) : MS where
  ck nm sc := onAsg fun ts v _ => on1 (fun t => onSub (fun x y _ => !isCompr v && (a.ck nm sc x && (i.ck nm sc y && e.ck nm sc v))) t) ts
  vc K n X ρ σ Q := e.vc K n X false ρ σ fun d σ => a.vc K n X false ρ σ fun x σ => i.vc K n X false ρ σ fun y σ => onL x fun ad => onI y fun k => StoC σ ad k d (Q .next ρ)
  ok {K n X} hR {nm A env outer s σ ρ x Q QQ E} hA S hm h k kE := by
    refine ofAsg (P := fun x => wpAny (model K.prog K.w) A (exec x env) QQ E s) hm fun ts v p hm => of1 (P := fun ts => wpAny (model K.prog K.w) A (exec (.Assign ts v p) env) QQ E s) hm fun t hm => ofSub (P := fun t => wpAny (model K.prog K.w) A (exec (.Assign [t] v p) env) QQ E s) hm fun x y q hm => ?_
    refine wpAny_Assign_Subscript (e.ok (t := false) hA S (andR (andR (andR hm))) h (fun v s1 g => ?_) (fun e s' b => kE _ _ b.up)) (swapsWith_no (nott (andL hm)))
    obtain ⟨h1, tk1, σ1, d1, rfl, m1, I1, r1, q1⟩ := g
    refine two_ops a i (s := { s with heap := h1, toks := tk1 }) hA (S.mv m1 I1) (andL (andR hm)) (andL (andR (andR hm))) q1 (fun u z d e h3 tk3 σ3 m3 I3 S3 ru rz q3 => ?_) (fun e s' b => kE _ _ (BadS.after m1.no b.up))
    refine ru.onL q3 fun ad q3 => rz.onI q3 fun kk _ q3 => ?_
    obtain ⟨l, e3, h0, hlt, q3⟩ := q3
    refine I3.lists e3 fun xs nn hp hs hz rl => ?_
    have hLB := LB63
    refine setItem_plain (s := { s with heap := h3, toks := tk3 }) ⟨nn, hp⟩ h0 (by lia) (by lia) fun h4 hp4 hs4 => ?_
    have I4 := I3.upd (l' := l.set _ d1) e3 hs4 hp4 (by simpa using hz) (by rw [Array.toList_setIfInBounds]; exact rl.set (m3.rel I1 r1) _)
    have m4 : Mv K.hb No σ3 h3 (put σ3 ad (l.set kk.toNat d1)) h4 := .upd e3 hs4 hp4
    exact k .next _ ⟨h4, tk3, put σ3 ad (l.set kk.toNat d1), ρ, .next, rfl, ((m1.trans m3).trans m4).no, S3.mv m4 I4, rfl, q3⟩
noncomputable def MS.aug (i : Nat) (e : ME) : MS where
  ck nm sc := onAug fun t o v _ => onName (fun x _ => Operator.Add == o && (nm[i]? == some x && (kSto sc x && e.ck nm sc v))) t
  vc K n X ρ σ Q := onSome (lget ρ i) fun a => onI a fun a => e.vc K n X false ρ σ fun d σ => onI d fun b => Q .next (lset ρ i (some (.int (a + b)))) σ
  ok {K n X} hR {nm A env outer s σ ρ x Q QQ E} hA S hm h k kE := by
    refine ofAug (P := fun x => wpAny (model K.prog K.w) A (exec x env) QQ E s) hm fun t o v p hm => ofName (P := fun t => wpAny (model K.prog K.w) A (exec (.AugAssign t o v p) env) QQ E s) hm fun x q hm => eqb (P := fun o => wpAny (model K.prog K.w) A (exec (.AugAssign (.Name x q) o v p) env) QQ E s) (andL hm) ?_
    have hx := eq_of_beq (andL (andR hm))
    have hk := kSto_kind (andL (andR (andR hm)))
    refine ofSome h fun a ha h => wpAny_AugAssign_Name (loadN S hx ha hk fun u ru => ru.onI h fun a t h => ?_)
    refine e.ok (t := false) hA S (andR (andR (andR hm))) h (fun v s1 g => ?_) (fun e s' b => kE _ _ b.up)
    obtain ⟨h1, tk1, σ1, d1, rfl, m1, I1, r1, q1⟩ := g
    refine r1.onI q1 fun b _ q1 => PyProof.Rows.iadd_int ?_
    exact (S.mv m1 I1).store (s := { s with heap := h1, toks := tk1 + 1 }) hx (.int _ _) hk rfl fun h2 tk2 m2 S2 => k _ _ ⟨h2, tk2, σ1, _, .next, rfl, m1.no.trans m2, S2, rfl, q1⟩
noncomputable def MS.ex (e : ME) : MS where
  ck nm sc := onEx fun v _ => !isCompr v && e.ck nm sc v
  vc K n X ρ σ Q := e.vc K n X false ρ σ fun _ σ => Q .next ρ σ
  ok {K n X} hR {nm A env outer s σ ρ x Q QQ E} hA S hm h k kE := by
    refine ofEx (P := fun x => wpAny (model K.prog K.w) A (exec x env) QQ E s) hm fun v p hm => wpAny_Expr_any (e.ok (t := false) hA S (andR hm) h (fun v s1 g => ?_) (fun e s' b => kE _ _ b.up)) (by unfold interactive; rw [S.env.kind]; rfl) (swapsWith_no (nott (andL hm)))
    obtain ⟨h1, tk1, σ1, d1, rfl, m1, I1, r1, q1⟩ := g
    exact k _ _ ⟨h1, tk1, σ1, ρ, .next, rfl, m1.no, S.mv m1 I1, rfl, q1⟩
noncomputable def MS.ifs (c : ME) (t e : MSs) : MS where
  ck nm sc := onIf fun x b o _ => c.ck nm sc x && (t.ck nm sc b && e.ck nm sc o)
  vc K n X ρ σ Q := c.vc K n X true ρ σ (brk (t.vc K n X) (e.vc K n X) Q ρ)
  ok {K n X} hR {nm A env outer s σ ρ x Q QQ E} hA S hm h k kE := by
    refine ofIf (P := fun x => wpAny (model K.prog K.w) A (exec x env) QQ E s) hm fun x b o p hm => wpAny_If (c.test hA S (andL hm) h (fun b1 s1 g => ?_) (fun e s' b => kE _ _ b.up))
    obtain ⟨h1, tk1, σ1, d1, rfl, m1, I1, r1, q1⟩ := g
    have S1 := S.mv m1 I1
    cases q1 with
    | t q1 => cases r1; exact t.ok hR (s := { s with heap := h1, toks := tk1 }) hA S1 (andL (andR hm)) q1 (fun f s' g => k _ _ (g.after m1.no)) (fun e s' b => kE _ _ (b.after m1.no))
    | f q1 => cases r1; exact e.ok hR (s := { s with heap := h1, toks := tk1 }) hA S1 (andR (andR hm)) q1 (fun f s' g => k _ _ (g.after m1.no)) (fun e s' b => kE _ _ (b.after m1.no))
noncomputable def MS.ret (e : ME) : MS where
  ck nm sc := onRet fun v _ => onO (fun v => e.ck nm sc v) v
  vc K n X ρ σ Q := e.vc K n X false ρ σ fun d σ => Q (.ret d) ρ σ
  ok {K n X} hR {nm A env outer s σ ρ x Q QQ E} hA S hm h k kE := by
    refine ofRet (P := fun x => wpAny (model K.prog K.w) A (exec x env) QQ E s) hm fun v p hm => ofO (P := fun v => wpAny (model K.prog K.w) A (exec (.Return v p) env) QQ E s) hm fun v hm => wpAny_Return_some (e.ok (t := false) hA S hm h (fun v s1 g => ?_) (fun e s' b => kE _ _ b.up))
    obtain ⟨h1, tk1, σ1, d1, rfl, m1, I1, r1, q1⟩ := g
    exact k _ _ ⟨h1, tk1, σ1, ρ, .ret d1, rfl, m1.no, S.mv m1 I1, ⟨_, rfl, r1⟩, q1⟩
noncomputable def MS.ret0 : MS where
  ck nm sc := onRet fun v _ => v.isNone
  vc K n X ρ σ Q := Q (.ret .non) ρ σ
  ok {K n X} hR {nm A env outer s σ ρ x Q QQ E} hA S hm h k kE := by
    refine ofRet (P := fun x => wpAny (model K.prog K.w) A (exec x env) QQ E s) hm fun v p hm => ?_
    obtain rfl := nonT hm
    exact wpAny_Return_none (k _ _ ⟨s.heap, s.toks, σ, ρ, .ret .non, rfl, .refl _ _, S, ⟨_, rfl, .non⟩, h⟩)
noncomputable def MS.cont : MS where
  ck nm sc := onCont fun _ => true
  vc K n X ρ σ Q := Q .cont ρ σ
  ok {K n X} hR {nm A env outer s σ ρ x Q QQ E} hA S hm h k kE :=
    ofCont (P := fun x => wpAny (model K.prog K.w) A (exec x env) QQ E s) hm fun p hm => wpAny_Continue (k _ _ ⟨s.heap, s.toks, σ, ρ, .cont, rfl, .refl _ _, S, rfl, h⟩)
noncomputable def MS.bad : MS where
  ck nm sc := onRai fun _ c _ => c.isNone
  vc K n X ρ σ Q := False
  ok {K n X} hR {nm A env outer s σ ρ x Q QQ E} hA S hm h k kE := h.elim
noncomputable def MS.die : MS where
  ck nm sc := onRai fun a c _ => onO (fun x => onCall (fun f xs ks _ => onName (fun d _ => on1 (fun t => onCon (fun k _ _ => onCS (fun _ => c.isNone && (ks.isEmpty && (dieN == d && kGlo sc dieN))) k) t) xs) f) x) a
  vc K n X ρ σ Q := X σ
  ok {K n X} hR {nm A env outer s σ ρ x Q QQ E} hA S hm h k kE := by
    refine ofRai (P := fun x => wpAny (model K.prog K.w) A (exec x env) QQ E s) hm fun a c p hm => ofO (P := fun a => wpAny (model K.prog K.w) A (exec (.Raise a c p) env) QQ E s) hm fun x hm => ofCall (P := fun x => wpAny (model K.prog K.w) A (exec (.Raise (some x) c p) env) QQ E s) hm fun f xs ks p2 hm =>
      ofName (P := fun f => wpAny (model K.prog K.w) A (exec (.Raise (some (.Call f xs ks p2)) c p) env) QQ E s) hm fun d q hm => of1 (P := fun xs => wpAny (model K.prog K.w) A (exec (.Raise (some (.Call (.Name d q) xs ks p2)) c p) env) QQ E s) hm fun t hm =>
      ofCon (P := fun t => wpAny (model K.prog K.w) A (exec (.Raise (some (.Call (.Name d q) [t] ks p2)) c p) env) QQ E s) hm fun kc kk p1 hm => ofCS (P := fun kc => wpAny (model K.prog K.w) A (exec (.Raise (some (.Call (.Name d q) [.Constant kc kk p1] ks p2)) c p) env) QQ E s) hm fun x hm => ?_
    obtain rfl := nonT (andL hm)
    obtain rfl := nilT (andL (andR hm))
    obtain rfl : dieN = d := eq_of_beq (andL (andR (andR hm)))
    rcases hR with hX | hR
    · exact (hX _ h).elim
    · refine hR hA S (andR (andR (andR hm))) fun e s' b => kE _ _ (.inr ?_)
      obtain ⟨h1, h2, tk, σ', a, r1, r2, m, I, F, r, rfl⟩ := b
      exact ⟨h1, h2, tk, _, a, r1, r2, m.no, I, F, r, h⟩
/-! try, with one clause that gives something back -/
theorem sTry {K : Ctx} {n : Nat} {nm : List Str} {A : Around} {env : Env} {outer : List Env} {s : Shared} {σ : Sto} {ρ : Loc} {r : RE} {v : PySem.Expr} {q p1 p2 : Pos} {Q : KS} {QQ : Flow → Shared → Prop} {E : Value → Shared → Prop}
    (hA : At A (env :: outer) n) (R : SS K.hb nm (env :: outer) env σ ρ s.heap) (hk : kGlo env.scope dieN = true) (hm : r.ck nm env.scope v = true)
    (k : ∀ f s', GoodS K.hb nm (env :: outer) env σ s Q f s' → QQ f s') (e : Value) (s' : Shared) (b : BadE K.hb dieC (env :: outer) No σ s (fun σ => r.vc ρ fun d => Q (.ret d) ρ σ) e s') :
    wpAny (model K.prog K.w) A (noteFrame e env) (fun _ s₂ => wpAny (model K.prog K.w) A (setFlight e none) (fun _ s₃ => wpAny (model K.prog K.w) A (handleBy e env [.ExceptHandler (some (.Name dieN q)) none [.Return (some v) p1] p2]) QQ E s₃) E s₂) E s' := by
  obtain ⟨h1, h2, tk, σ', a, rfl, rfl, m, I, ⟨base, a0, hfl, up, hkk⟩, x⟩ := b
  obtain ⟨_, L, o, es, nn, hL, _⟩ := R.fr env List.mem_cons_self
  refine wpAny_looks_onW hA.frames hL hfl fun h3 held up3 => ?_
  refine wpAny_landsW held fun h4 hfl4 up4 => ?_
  have up14 : h1.UpToSlots h4 := (up.trans up3).trans up4
  obtain ⟨k14, I4, m4⟩ := flyLand hfl4 up14 hkk I
  have R4 : SS K.hb nm (env :: outer) env σ' ρ h4 := (R.mv m I).mv m4 I4
  obtain ⟨cn, cq, cN, cbs, cbm, chd, csn, csub, cab, ccol, cdd, c0, c1, c2, c3, c5, cid, hcls, hbase⟩ := K.cls
  refine wpAny_handleBy_cons (codeAny_handlers_test ?_) (by intro q; cases q)
  refine globName (s := { s with heap := h4, toks := tk }) K.top R4 (k := 1) (by decide) hk rfl fun u r => ?_
  cases r
  obtain ⟨oe, he, hec⟩ := hfl4.there
  refine wpAny_excMatches_sub_self (I4.base _ _ hcls) he hec hbase ?_
  refine codeAny_handlers_suite ?_
  obtain ⟨oe', vs', T', oT', ts', he', hc', hd', hv1, hnT, hTe, hT', hdT', hv3⟩ := hfl4.2.2.2
  refine wpAny_setFlight_noneW (base := base) (l := env :: outer) (e := a) (cls := .ref dieC) (a0 := a0) (fl := .none) hfl4.1 hfl4.2.2.1 hfl4.2.2.2 fun h5 b5 f5 t5 k5 => ?_
  have hfl5 : Heap.FlyingW base (env :: outer) a (.ref dieC) a0 h5 := ⟨b5, hfl4.2.1, f5, t5⟩
  obtain ⟨k15, I5, m5⟩ := flyLand hfl5 (up14.trans fun b o hb hn => ⟨o.slots, k5 b o hb hn⟩) hkk I
  have R5 : SS K.hb nm (env :: outer) env σ' ρ h5 := (R.mv m I).mv m5 I5
  refine wpAny_execs_cons (wpAny_Return_some ?_)
  refine r.ok (s := { s with heap := h5, toks := tk }) R5 hm x fun d u h6 tk6 k6 r6 q6 => ?_
  have m6 : Mv K.hb No σ' h5 σ' h6 := .grown k6
  have I6 := I5.grown k6
  exact k _ _ ⟨h6, tk6, σ', ρ, .ret d, rfl, ((m.trans m5).trans m6).no, R5.mv m6 I6, ⟨u, rfl, r6⟩, q6⟩
/-- one handler that returns -/
noncomputable def ckH (sc : Scope) (f : PySem.Expr → Bool) (hs : List PySem.ExceptHandler) : Bool :=
  on1 (onH fun t nm b _ => onO (fun t => onName (fun d _ => on1 (onRet fun v _ => onO (fun v => nm.isNone && (dieN == d && (kGlo sc dieN && f v))) v) b) t) t) hs
theorem ofH1 {sc : Scope} {f : PySem.Expr → Bool} {hs : List PySem.ExceptHandler} {P : List PySem.ExceptHandler → Prop} (h : ckH sc f hs = true) (k : ∀ q v p1 p2, kGlo sc dieN = true → f v = true → P [.ExceptHandler (some (.Name dieN q)) none [.Return (some v) p1] p2]) : P hs :=
  of1 h fun a h => ofH (P := fun a => P [a]) h fun t nm b p2 h => ofO (P := fun t => P [.ExceptHandler t nm b p2]) h fun t h => ofName (P := fun t => P [.ExceptHandler (some t) nm b p2]) h fun d q h => of1 (P := fun b => P [.ExceptHandler (some (.Name d q)) nm b p2]) h fun r h =>
    ofRet (P := fun r => P [.ExceptHandler (some (.Name d q)) nm [r] p2]) h fun v p1 h => ofO (P := fun v => P [.ExceptHandler (some (.Name d q)) nm [.Return v p1] p2]) h fun v h => by
      obtain rfl := nonT (andL h)
      obtain rfl : dieN = d := eq_of_beq (andL (andR h))
      exact k q v p1 p2 (andL (andR (andR h))) (andR (andR (andR h)))
noncomputable def MS.tryE (e : ME) (r : RE) : MS where
  ck nm sc := onTry fun b hs o f _ => on1 (onEx fun x _ => o.isEmpty && (f.isEmpty && (!isCompr x && (e.ck nm sc x && ckH sc (r.ck nm sc) hs)))) b
  vc K n X ρ σ Q := e.vc K n (fun σ => r.vc ρ fun d => Q (.ret d) ρ σ) false ρ σ fun _ σ => Q .next ρ σ
  ok {K n X} hR {nm A env outer s σ ρ x Q QQ E} hA S hm h k kE := by
    refine ofTry (P := fun x => wpAny (model K.prog K.w) A (exec x env) QQ E s) hm fun b hs o f p hm => of1 (P := fun b => wpAny (model K.prog K.w) A (exec (.Try b hs o f p) env) QQ E s) hm fun b hm => ofEx (P := fun b => wpAny (model K.prog K.w) A (exec (.Try [b] hs o f p) env) QQ E s) hm fun x p0 hm => ?_
    obtain rfl := nilT (andL hm)
    obtain rfl := nilT (andL (andR hm))
    have hm := andR (andR hm)
    refine ofH1 (P := fun hs => wpAny (model K.prog K.w) A (exec (.Try [.Expr x p0] hs [] [] p) env) QQ E s) (andR (andR hm)) fun q v p1 p2 hk hv => wpAny_Try_except ?_
    refine wpAny_execs_cons (wpAny_Expr_any (e.ok (t := false) hA S (andL (andR hm)) h (fun v s1 g => ?_) (sTry hA S hk hv k)) (by unfold interactive; rw [S.env.kind]; rfl) (swapsWith_no (nott (andL hm))))
    obtain ⟨h1, tk1, σ1, d1, rfl, m1, I1, r1, q1⟩ := g
    exact wpAny_execs_nil (wpAny_execs_nil (k _ _ ⟨h1, tk1, σ1, ρ, .next, rfl, m1.no, S.mv m1 I1, rfl, q1⟩))
noncomputable def MS.tryT (e : ME) (r : RE) : MS where
  ck nm sc := onTry fun b hs o f _ => on1 (onRet fun x _ => onO (fun x => o.isEmpty && (f.isEmpty && (e.ck nm sc x && ckH sc (r.ck nm sc) hs))) x) b
  vc K n X ρ σ Q := e.vc K n (fun σ => r.vc ρ fun d => Q (.ret d) ρ σ) false ρ σ fun d σ => Q (.ret d) ρ σ
  ok {K n X} hR {nm A env outer s σ ρ x Q QQ E} hA S hm h k kE := by
    refine ofTry (P := fun x => wpAny (model K.prog K.w) A (exec x env) QQ E s) hm fun b hs o f p hm => of1 (P := fun b => wpAny (model K.prog K.w) A (exec (.Try b hs o f p) env) QQ E s) hm fun b hm => ofRet (P := fun b => wpAny (model K.prog K.w) A (exec (.Try [b] hs o f p) env) QQ E s) hm fun x p0 hm => ofO (P := fun x => wpAny (model K.prog K.w) A (exec (.Try [.Return x p0] hs o f p) env) QQ E s) hm fun x hm => ?_
    obtain rfl := nilT (andL hm)
    obtain rfl := nilT (andL (andR hm))
    have hm := andR (andR hm)
    refine ofH1 (P := fun hs => wpAny (model K.prog K.w) A (exec (.Try [.Return (some x) p0] hs [] [] p) env) QQ E s) (andR hm) fun q v p1 p2 hk hv => wpAny_Try_except ?_
    refine wpAny_execs_cons (wpAny_Return_some (e.ok (t := false) hA S (andL hm) h (fun v s1 g => ?_) (sTry hA S hk hv k)))
    obtain ⟨h1, tk1, σ1, d1, rfl, m1, I1, r1, q1⟩ := g
    exact k _ _ ⟨h1, tk1, σ1, ρ, .ret d1, rfl, m1.no, S.mv m1 I1, ⟨_, rfl, r1⟩, q1⟩
noncomputable def MS.forr (i : Nat) (src : ME) (b : MSs) : MS where
  ck nm sc := onFor fun t it bs o _ => onName (fun x _ => o.isEmpty && (nm[i]? == some x && (kSto sc x && (!isSet it && (src.ck nm sc it && b.ck nm sc bs))))) t
  vc K n X ρ σ Q := src.vc K n X false ρ σ fun sv σ => Bar (onSome (items? sv σ) fun items => ForC X sv items i (b.vc K n X) Q ρ σ)
  ok {K n X} hR {nm A env outer s σ ρ x Q QQ E} hA S hm h k kE := by
    refine ofFor (P := fun x => wpAny (model K.prog K.w) A (exec x env) QQ E s) hm fun t it bs o p hm => ofName (P := fun t => wpAny (model K.prog K.w) A (exec (.For t it bs o p) env) QQ E s) hm fun x q hm => ?_
    obtain rfl := nilT (andL hm)
    have hm := andR hm
    have hx := eq_of_beq (andL hm)
    have hk := andL (andR hm)
    have hset := nott (andL (andR (andR hm)))
    have hm1 := andL (andR (andR (andR hm)))
    have hm2 := andR (andR (andR (andR hm)))
    refine wpAny_For ?_ (by intro z; exact fold_of_set hset)
    refine src.ok (t := false) hA S hm1 h (fun v s1 g => ?_) (fun e s' b => kE _ _ b.up)
    obtain ⟨h1, tk1, σ1, sv, rfl, m1, I1, r1, q1⟩ := g
    have S1 := S.mv m1 I1
    refine ofSome q1.un fun items e q1 => ?_
    obtain ⟨hX, hz, IV, hI0, hstep, hend⟩ := q1
    refine sIter (s := { s with heap := h1, toks := tk1 }) I1 r1 e hz fun It h2 tk2 hIt it2 io m2 I2 => ?_
    have S2 := S1.mv m2 I2
    have hIb : K.hb.get? It = none := by
      cases e : K.hb.get? It with
      | none => rfl
      | some o => have := I1.base _ _ e; rw [hIt] at this; cases this
    have fin : ∀ {σ' ρ' h' tk fl f}, Mv K.hb (fun b => ownA env b ∨ b = It) σ1 h1 σ' h' → SS K.hb nm (env :: outer) env σ' ρ' h' → FlOf K.hb h' fl f → Q fl ρ' σ' → GoodS K.hb nm (env :: outer) env σ s Q f { s with heap := h', toks := tk } := fun {σ' ρ' h' tk fl f} m R' hf hq =>
      ⟨h', tk, σ', ρ', fl, rfl, m1.no.trans (m.shrink fun b z n => by rcases z with z | rfl; exact absurd z n; exact hIt), R', hf, hq⟩
    refine codeAny_forLoop (fun n' s' => ∃ h' tk σ' ρ' kk, s' = { s with heap := h', toks := tk } ∧ Mv K.hb (fun b => ownA env b ∨ b = It) σ1 h1 σ' h' ∧
        SS K.hb nm (env :: outer) env σ' ρ' h' ∧ ItAt h' It sv v kk ∧ Rel K.hb h' sv v ∧ IV kk ρ' σ' ∧ kk ≤ items.length ∧ n' = items.length + 1 - kk) ?_ (items.length + 1)
        ⟨h2, tk2, σ1, ρ, 0, rfl, m2.no, S2, it2, m2.rel I1 r1, hI0, Nat.zero_le _, rfl⟩
    rintro n' s' ⟨h5, tk5, σ5, ρ5, kk, rfl, m5, S5, it5, r5, iv5, hkk, rfl⟩
    have lv : liveOk sv items σ5 := by
      rcases Nat.lt_or_eq_of_le hkk with hlt | rfl
      · exact (hstep kk items[kk] ρ5 σ5 (List.getElem?_eq_getElem hlt) iv5).1
      · exact (hend ρ5 σ5 iv5).1
    refine sNext (s := { s with heap := h5, toks := tk5 }) hA.handled S5.inv r5 it5 hIb io lv (fun d u h6 tk6 e6 ru it6 m6 I6 => ?_) (fun h6 tk6 hle m6 I6 => ?_)
    · have S6 := S5.mvX m6 I6 it5.side
      have r6 := m6.relS S5.inv it5.side.soft r5
      have hlt : kk < items.length := (List.getElem?_eq_some_iff.mp e6).1
      refine wpAny_assign_Name (S6.store (s := { s with heap := h6, toks := tk6 }) hx ru (kSto_kind hk) rfl fun h7 tk7 m7 S7 => ?_)
      have it7 := it6.mv I6 m7 (it6.notOwn S6.env)
      have r7 := m7.relS I6 S6.env.softOwn r6
      have m57 : Mv K.hb (fun b => ownA env b ∨ b = It) σ1 h1 σ5 h7 := (m5.trans (m6.mono fun b z => .inr z)).trans (m7.mono fun b z => .inl z)
      refine b.ok hR (s := { s with heap := h7, toks := tk7 }) hA S7 hm2 (hstep kk d ρ5 σ5 e6 iv5).2 (fun f s8 g => ?_) (fun e s' b => noBadS hX b)
      obtain ⟨h8, tk8, σ8, ρ8, fl, rfl, m8, S8, hf, hq⟩ := g
      have m58 : Mv K.hb (fun b => ownA env b ∨ b = It) σ1 h1 σ8 h8 := m57.trans (m8.mono fun b z => .inl z)
      have it8 := it7.mv S7.inv m8 (it7.notOwn S7.env)
      have r8 := m8.relS S7.inv S7.env.softOwn r7
      cases hq with
      | next hq => have hf : f = .next := hf; subst hf; exact ⟨_, by lia, h8, tk8, σ8, ρ8, kk + 1, rfl, m58, S8, it8, r8, hq, hlt, rfl⟩
      | cont hq => have hf : f = .cont := hf; subst hf; exact ⟨_, by lia, h8, tk8, σ8, ρ8, kk + 1, rfl, m58, S8, it8, r8, hq, hlt, rfl⟩
      | @ret d _ _ hq => obtain ⟨u', rfl, ru'⟩ := hf; exact k _ _ (fin (fl := .ret d) m58 S8 ⟨u', rfl, ru'⟩ hq)
    · have hke : kk = items.length := by lia
      subst hke
      have S6 := S5.mvX m6 I6 it5.side
      exact wpAny_execs_nil (k _ _ (fin (fl := .next) (m5.trans (m6.mono fun b z => .inr z)) S6 rfl (hend ρ5 σ5 iv5).2))
noncomputable def MS.whl (c : ME) (b : MSs) : MS where
  ck nm sc := onWhl fun x bs o _ => o.isEmpty && (c.ck nm sc x && b.ck nm sc bs)
  vc K n X ρ σ Q := WhlC X (fun P ρ σ => c.vc K n X true ρ σ P) (b.vc K n X) Q ρ σ
  ok {K n X} hR {nm A env outer s σ ρ x Q QQ E} hA S hm h k kE := by
    refine ofWhl (P := fun x => wpAny (model K.prog K.w) A (exec x env) QQ E s) hm fun x bs o p hm => ?_
    obtain rfl := nilT (andL hm)
    have hm1 := andL (andR hm)
    have hm2 := andR (andR hm)
    obtain ⟨hX, IV, ⟨m0, hI0⟩, hstep⟩ := h
    refine wpAny_While ?_
    refine codeAny_whileLoop (fun n' s' => ∃ h' tk σ' ρ', s' = { s with heap := h', toks := tk } ∧ Mv K.hb (ownA env) σ s.heap σ' h' ∧ SS K.hb nm (env :: outer) env σ' ρ' h' ∧ IV n' ρ' σ') ?_ m0 ⟨s.heap, s.toks, σ, ρ, rfl, .refl _ _, S, hI0⟩
    rintro n' s' ⟨h5, tk5, σ5, ρ5, rfl, m5, S5, iv5⟩
    refine c.test (s := { s with heap := h5, toks := tk5 }) hA S5 hm1 (hstep _ _ _ iv5) (fun b1 s1 g => ?_) (fun e s' b => noBad hX b)
    obtain ⟨h6, tk6, σ6, d6, rfl, m6, I6, r6, q6⟩ := g
    have S6 := S5.mv m6 I6
    cases q6 with
    | t q6 =>
      cases r6
      refine b.ok hR (s := { s with heap := h6, toks := tk6 }) hA S6 hm2 q6 (fun f s8 g => ?_) (fun e s' b => noBadS hX b)
      obtain ⟨h8, tk8, σ8, ρ8, fl, rfl, m8, S8, hf, hq⟩ := g
      have m58 := (m5.trans m6.no).trans m8
      cases hq with
      | next hq => have hf : f = .next := hf; subst hf; obtain ⟨m', hlt, iv⟩ := hq; exact ⟨m', hlt, h8, tk8, σ8, ρ8, rfl, m58, S8, iv⟩
      | cont hq => have hf : f = .cont := hf; subst hf; obtain ⟨m', hlt, iv⟩ := hq; exact ⟨m', hlt, h8, tk8, σ8, ρ8, rfl, m58, S8, iv⟩
      | @ret d _ _ hq => obtain ⟨u', rfl, ru'⟩ := hf; exact k _ _ ⟨h8, tk8, σ8, ρ8, .ret d, rfl, m58, S8, ⟨u', rfl, ru'⟩, hq⟩
    | f q6 =>
      cases r6
      exact wpAny_execs_nil (k _ _ ⟨h6, tk6, σ6, ρ5, .next, rfl, m5.trans m6.no, S6, rfl, q6⟩)
end Mine
namespace Mine
theorem cellsFrom_cons {n : Nat} {y : Str} {k : NameKind} {r : List (Str × NameKind)} {acc : List (Str × Addr)} : cellsFrom n ((y, k) :: r) acc = cellsFrom n r acc ∨ (k = .cell ∧ ∃ m, cellsFrom n ((y, k) :: r) acc = cellsFrom m r ((y, n) :: acc)) := by
  cases k with
  | cell => exact .inr ⟨rfl, _, rfl⟩
  | _ => exact .inl rfl
theorem cellsFrom_mem : ∀ {names : List (Str × NameKind)} {n : Nat} {acc : List (Str × Addr)} {x : Str} {c : Addr}, (x, c) ∈ cellsFrom n names acc → (x, c) ∈ acc ∨ (x, NameKind.cell) ∈ names
  | [], n, acc, x, c, h => .inl h
  | (y, k) :: r, n, acc, x, c, h => by
    rcases cellsFrom_cons (n := n) (y := y) (k := k) (r := r) (acc := acc) with e | ⟨rfl, m, e⟩ <;> rw [e] at h
    · exact (cellsFrom_mem h).imp id (List.mem_cons_of_mem _)
    · rcases cellsFrom_mem h with h | h
      · rcases List.mem_cons.mp h with h | h
        · cases h
          exact .inr List.mem_cons_self
        · exact .inl h
      · exact .inr (List.mem_cons_of_mem _ h)
theorem cellsFrom_keep : ∀ {names : List (Str × NameKind)} {n : Nat} {acc : List (Str × Addr)} {y : Str × Addr}, y ∈ acc → y ∈ cellsFrom n names acc
  | [], n, acc, y, h => h
  | (x, k) :: r, n, acc, y, h => by
    rcases cellsFrom_cons (n := n) (y := x) (k := k) (r := r) (acc := acc) with e | ⟨rfl, m, e⟩ <;> rw [e]
    · exact cellsFrom_keep h
    · exact cellsFrom_keep (List.mem_cons_of_mem _ h)
theorem cellsFrom_has : ∀ {names : List (Str × NameKind)} {n : Nat} {acc : List (Str × Addr)} {x : Str}, (x, NameKind.cell) ∈ names → ∃ c, (x, c) ∈ cellsFrom n names acc
  | [], n, acc, x, h => nomatch h
  | (y, k) :: r, n, acc, x, h => by
    rcases List.mem_cons.mp h with h | h
    · cases h
      exact ⟨n, cellsFrom_keep (names := r) List.mem_cons_self⟩
    · rcases cellsFrom_cons (n := n) (y := y) (k := k) (r := r) (acc := acc) with e | ⟨e0, m, e⟩ <;> rw [e]
      · exact cellsFrom_has h
      · exact cellsFrom_has h
theorem cellsFrom_nodup : ∀ {names : List (Str × NameKind)} {n : Nat} {acc : List (Str × Addr)}, (acc.map (·.1)).Nodup → (names.map (·.1)).Nodup → (∀ x ∈ acc.map (·.1), x ∉ names.map (·.1)) → ((cellsFrom n names acc).map (·.1)).Nodup
  | [], n, acc, h1, _, _ => h1
  | (y, k) :: r, n, acc, h1, h2, h3 => by
    have h2 := List.nodup_cons.mp h2
    rcases cellsFrom_cons (n := n) (y := y) (k := k) (r := r) (acc := acc) with e | ⟨rfl, m, e⟩ <;> rw [e]
    · exact cellsFrom_nodup h1 h2.2 fun x hx z => h3 x hx (List.mem_cons_of_mem _ z)
    · refine cellsFrom_nodup (List.nodup_cons.mpr ⟨fun z => h3 _ z List.mem_cons_self, h1⟩) h2.2 fun x hx z => ?_
      rcases List.mem_cons.mp hx with rfl | hx
      · exact h2.1 z
      · exact h3 x hx (List.mem_cons_of_mem _ z)
theorem bindL_miss {kd : Str → Option NameKind} {x : Str} : ∀ {binds : List (Str × Value)} {m : Str → Option Value}, (∀ y ∈ binds, y.1 ≠ x) → bindL kd binds m x = m x
  | [], m, _ => rfl
  | (n, v) :: r, m, h => by
    refine (bindL_miss (binds := r) fun y hy => h y (List.mem_cons_of_mem _ hy)).trans ?_
    have : ¬ x = n := fun z => h (n, v) List.mem_cons_self z.symm
    split
    · exact if_neg this
    · rfl
theorem bindC_miss {kd : Str → Option NameKind} {x : Str} : ∀ {binds : List (Str × Value)} {m : Str → Option Value}, (∀ y ∈ binds, y.1 ≠ x) → bindC kd binds m x = m x
  | [], m, _ => rfl
  | (n, v) :: r, m, h => by
    refine (bindC_miss (binds := r) fun y hy => h y (List.mem_cons_of_mem _ hy)).trans ?_
    have : ¬ x = n := fun z => h (n, v) List.mem_cons_self z.symm
    split
    · rfl
    · exact if_neg this
theorem zip_miss {ps : List Str} {vs : List Value} {x : Str} (h : x ∉ ps) : ∀ y ∈ ps.zip vs, y.1 ≠ x := fun y hy z => h (z ▸ (List.of_mem_zip (show (y.1, y.2) ∈ _ from hy)).1)
theorem bindL_get {kd : Str → Option NameKind} : ∀ {ps : List Str} {vs : List Value} {m : Str → Option Value} {i : Nat} {x : Str} {v : Value}, ps.Nodup → ps[i]? = some x → vs[i]? = some v → kd x = some .local → bindL kd (ps.zip vs) m x = some v
  | [], _, _, _, _, _, _, h, _, _ => nomatch h
  | _ :: _, [], _, _, _, _, _, _, h, _ => nomatch h
  | p :: ps, u :: vs, m, 0, x, v, hn, h1, h2, hk => by
    cases h1; cases h2
    refine (bindL_miss (zip_miss (List.nodup_cons.mp hn).1)).trans ?_
    rw [if_pos hk]; exact if_pos rfl
  | p :: ps, u :: vs, m, i + 1, x, v, hn, h1, h2, hk => bindL_get (ps := ps) (vs := vs) (i := i) (List.nodup_cons.mp hn).2 h1 h2 hk
theorem bindC_get {kd : Str → Option NameKind} : ∀ {ps : List Str} {vs : List Value} {m : Str → Option Value} {i : Nat} {x : Str} {v : Value}, ps.Nodup → ps[i]? = some x → vs[i]? = some v → kd x = some .cell → bindC kd (ps.zip vs) m x = some v
  | [], _, _, _, _, _, _, h, _, _ => nomatch h
  | _ :: _, [], _, _, _, _, _, _, h, _ => nomatch h
  | p :: ps, u :: vs, m, 0, x, v, hn, h1, h2, hk => by
    cases h1; cases h2
    refine (bindC_miss (zip_miss (List.nodup_cons.mp hn).1)).trans ?_
    rw [if_neg (by rw [hk]; decide)]; exact if_pos rfl
  | p :: ps, u :: vs, m, i + 1, x, v, hn, h1, h2, hk => bindC_get (ps := ps) (vs := vs) (i := i) (List.nodup_cons.mp hn).2 h1 h2 hk
/-- what a def's record is -/
noncomputable def fdOk (fd : FuncData) (ps nm : List Str) : Bool :=
  fd.scope.kind == .function && (!fd.scope.isCoroutine && (!fd.scope.isGenerator && (fd.closure.isEmpty && (fd.globals == mainGlobals && (fd.builtins == builtinsNs &&
  (fd.scope.names.all (fun y => y.2 != .free) && (decide (fd.scope.names.map (·.1)).Nodup && (decide nm.Nodup && (ps.all (fun p => fd.scope.names.lookup p == some .local || fd.scope.names.lookup p == some .cell) && nm.take ps.length == ps)))))))))
structure FdOk (fd : FuncData) (ps nm : List Str) : Prop where
  kind : fd.scope.kind = .function
  co : fd.scope.isCoroutine = false
  gen : fd.scope.isGenerator = false
  clo : fd.closure = []
  gl : fd.globals = mainGlobals
  bl : fd.builtins = builtinsNs
  free : ∀ y ∈ fd.scope.names, y.2 ≠ .free
  nd : (fd.scope.names.map (·.1)).Nodup
  nmd : nm.Nodup
  par : ∀ p ∈ ps, fd.scope.names.lookup p = some .local ∨ fd.scope.names.lookup p = some .cell
  pre : nm.take ps.length = ps
theorem fdOk_of {fd : FuncData} {ps nm : List Str} (h : fdOk fd ps nm = true) : FdOk fd ps nm := by
  have h2 := andR (andR (andR (andR (andR (andR h)))))
  refine ⟨eq_of_beq (andL h), nott (andL (andR h)), nott (andL (andR (andR h))), nilT (andL (andR (andR (andR h)))), eq_of_beq (andL (andR (andR (andR (andR h))))), eq_of_beq (andL (andR (andR (andR (andR (andR h)))))), ?_, of_decide_eq_true (andL (andR h2)), of_decide_eq_true (andL (andR (andR h2))), ?_, eq_of_beq (andR (andR (andR (andR h2))))⟩
  · exact fun y hy => bne_iff_ne.mp (List.all_eq_true.mp (andL h2) y hy)
  · exact fun p hp => (Bool.or_eq_true_iff.mp (List.all_eq_true.mp (andL (andR (andR (andR h2)))) p hp)).imp eq_of_beq eq_of_beq
/-- the letters at the start -/
noncomputable def startL : List V → Nat → Loc
  | [], k => List.replicate k none
  | d :: ds, k => some d :: startL ds k
theorem startL_get : ∀ {ds : List V} {k i : Nat} {d : V}, lget (startL ds k) i = some d → ds[i]? = some d
  | [], 0, i, d, h => nomatch h
  | [], k + 1, 0, d, h => nomatch h
  | [], k + 1, i + 1, d, h => startL_get (ds := []) (k := k) (i := i) h
  | d' :: ds, k, 0, d, h => h
  | d' :: ds, k, i + 1, d, h => startL_get (ds := ds) (k := k) (i := i) h
/-- at the end of a def -/
noncomputable def endQ (Q : V → Sto → Prop) : KS
  | .next, _, σ => Q .non σ
  | .ret d, _, σ => Q d σ
  | .cont, _, _ => False
section
variable {prog : Program} {w : World} {hb : Heap} {nm : List Str} {n : Nat}
theorem At.deeper {A : Around} {fr : List Env} {env : Env} (h : At A fr (n + 1)) : At (A.deeper env) (env :: fr) n where
  handled := h.handled
  frames := Around.frames_deeper h.frames
  guards := h.guards
  depth := by have := h.depth; show A.depth + 1 + n < _; lia
  units := by have := h.units; show A.units + 3 + 8 * n + 100 < _; lia
theorem FrOk.fun {base h : Heap} : ∀ {fr : List Env}, FrOk hb fr h → (∀ e ∈ fr, ∀ L, e.frame = some L → base.get? L = none) → h.FunFrames base fr
  | [], _, _ => trivial
  | e :: r, F, hn => by
    obtain ⟨k, L, o, es, nn, a, b, c, d⟩ := F e List.mem_cons_self
    exact ⟨k, ⟨L, o, a, hn e List.mem_cons_self L a, c, fun vs q => by rw [d] at q; cases q⟩, FrOk.fun (fun e he => F e (List.mem_cons_of_mem _ he)) fun e he => hn e (List.mem_cons_of_mem _ he)⟩
/-- a frame is left by an exception -/
theorem sLeave {X : Sto → Prop} {A : Around} {env : Env} {outer : List Env} {s s0 : Shared} {σ : Sto} {e : Value} {E : Shared → Prop} {E2 : Value → Shared → Prop} (hfr : A.frames = some (env :: outer))
    (hm : ∀ h σ', Mv hb (ownA env) σ s0.heap σ' h → Mv hb No σ s0.heap σ' h) (b : BadS hb dieC (env :: outer) (ownA env) σ s0 X e s)
    (k : ∀ s', BadE hb dieC outer No σ s0 X e s' → E s') : wpAny (model prog w) A (leaving env e) (fun _ s' => E s') E2 s := by
  rcases b with ⟨h1, h2, tk, σ', a, rfl, rfl, m, I, ⟨base, a0, hfl, up, hkk⟩, x⟩ | ⟨h1, h2, tk, σ', a, rfl, rfl, m, I, F1, ⟨hn1, kp, oe, vs, a0, he, hc, hd, v1, v0⟩, x⟩
  · obtain ⟨_, ⟨L, o, hL, _⟩, _⟩ := hfl.2.2.1
    refine wpAny_leaves_onW hfr hL hfl fun h3 hfl3 up3 => ?_
    exact k _ ⟨h1, h3, tk, σ', a, rfl, rfl, hm _ _ m, I, ⟨base, a0, hfl3, up.trans up3, hkk⟩, x⟩
  · obtain ⟨_, L, o, es, nn, hL, _⟩ := F1 env List.mem_cons_self
    have bget : ∀ b o, h1.get? b = some o → (hideAll h1 ((env :: outer).filterMap (·.frame))).get? b = some o ∨ (hb.get? b = none ∧ ∃ es n, o.data = .dict es n) := fun b o e => by
      by_cases z : b ∈ (env :: outer).filterMap (·.frame)
      · obtain ⟨e', he', hf'⟩ := List.mem_filterMap.mp z
        obtain ⟨_, L', o', es', n', a1, a2, a3, a4⟩ := F1 e' he'
        rw [a1] at hf'; cases hf'
        rw [e] at a3; cases a3
        exact .inr ⟨a2, es', n', a4⟩
      · exact .inl (hideAll_get _ e z)
    have F2 : FrOk hb (env :: outer) h2 := fun e he => by
      obtain ⟨k1, L', o', es', n', a1, a2, a3, a4⟩ := F1 e he
      exact ⟨k1, L', o', es', n', a1, a2, kp _ _ a3, a4⟩
    have hfun := F2.fun fun e he L' hL' => hideAll_none (h := h1) _ (List.mem_filterMap.mpr ⟨e, he, hL'⟩)
    have hn2 : (hideAll h1 ((env :: outer).filterMap (·.frame))).get? a = none := by
      cases z : (hideAll h1 ((env :: outer).filterMap (·.frame))).get? a with
      | none => rfl
      | some o' => have := of_hideAll _ z; rw [hn1] at this; cases this
    refine wpAny_leaving_firstW (base := hideAll h1 ((env :: outer).filterMap (·.frame))) hfr hfun hL he (fun b o e => kp _ _ (of_hideAll _ e)) hn2 hd v1 v0 fun h3 hL3 => ?_
    obtain ⟨k1, ⟨_, _, k2⟩, k3, k4⟩ := hL3
    rw [hc] at k3
    exact k _ ⟨h1, h3, tk, σ', a, rfl, rfl, hm _ _ m, I, ⟨_, a0, ⟨k1, hn2, k2, k3⟩, fun b o e hnf => k4 b o (kp b o e) hnf, bget⟩, x⟩
end
/-- what a def's contract asks of its body -/
inductive BodC (K : Ctx) (n : Nat) (ps nm : List Str) (m : MSs) (ds : List V) (σ : Sto) (Q : V → Sto → Prop) (X : Sto → Prop) : Prop
  | mk (hl : ds.length = ps.length) (hR : (∀ σ, ¬ X σ) ∨ DieRaise K n) (h : m.vc K n X (startL ds (nm.length - ps.length)) σ (endQ Q))
theorem fnOf {K : Ctx} {n : Nat} {a : Addr} {o : Obj} {fd : FuncData} {body : List Stmt} {ps nm : List Str} {m : MSs} {Sp : FnSpec}
    (ho : K.hb.get? a = some o) (hd : o.data = .func fd) (hok : FdOk fd ps nm) (hbody : fd.body = .stmts body) (hcd : K.hb.CodeRec fd.code fd.qualname) (hbind : ∀ vals : List Value, vals.length = ps.length → bindArgs fd ⟨vals, []⟩ = pure (ps.zip vals))
    (hm : m.ck nm fd.scope body = true) (hv : ∀ ds σ Q X, Sp ds σ Q X → BodC K n ps nm m ds σ Q X) : FnOK K (n + 1) (.ref a) Sp where
  fn := ⟨a, o, fd, rfl, ho, hd⟩
  ok := by
    intro A fr s vals ds σ Q X QQ E hA I F r hS k kE
    obtain ⟨hl, hR, hvc⟩ := hv ds σ Q X hS
    have hvl : vals.length = ps.length := by rw [← r.length]; exact hl
    have hpn : ps.Nodup := by rw [← hok.pre]; exact hok.nmd.sublist (List.take_sublist _ _)
    have hcn : ∀ L : Nat, ((cellsFrom L fd.scope.names []).map (·.1)).Nodup := fun L => cellsFrom_nodup List.nodup_nil hok.nd nofun
    have hlook : ∀ L x, fd.scope.names.lookup x = some .cell → ((cellsFrom L fd.scope.names []).lookup x).isSome = true := fun L x e => by
      obtain ⟨c, hc⟩ := cellsFrom_has (n := L) (acc := []) (mem_of_lookup e)
      exact Option.isSome_iff_exists.mpr ⟨c, lookup_of_mem_nodup hc (hcn L)⟩
    refine wpAny_call (codeAny_call_cells (by have := hA.depth; lia) (I.base _ _ ho) hd (K.lim.keeps I.base) (hcd.keeps I.base) hbody (hbind vals hvl) hok.clo (fun x hx => ?_) (fun s₁ hin => ?_) hok.co hok.gen hok.kind)
    · have hp := (List.of_mem_zip (show (x.1, x.2) ∈ ps.zip vals from hx)).1
      exact (hok.par x.1 hp).imp id fun e => ⟨e, hlook _ _ e⟩
    generalize henv : callEnvC fd s.heap.objs.size a = env at hin ⊢
    have e_scope : env.scope = fd.scope := by subst henv; rfl
    have e_loc : env.locals = s.heap.objs.size := by subst henv; rfl
    have e_frame : env.frame = some s.heap.objs.size := by subst henv; rfl
    have e_cells : env.cells = cellsFrom (s.heap.objs.size + 1) fd.scope.names [] := by subst henv; rfl
    have e_gl : env.globals = mainGlobals := by subst henv; exact hok.gl
    have e_bl : env.builtins = builtinsNs := by subst henv; exact hok.bl
    clear henv
    obtain ⟨h1, tk1, hs1⟩ := hin.toInCall.same
    subst hs1
    have kp : ∀ b o, s.heap.get? b = some o → h1.get? b = some o := hin.toInCall.keep
    have above : ∀ b : Nat, s.heap.objs.size ≤ b → s.heap.get? b = none := fun b hb' => Heap.get?_none_of_le hb'
    have noB : ∀ b : Nat, s.heap.objs.size ≤ b → K.hb.get? b = none := fun b hb' => by
      cases z : K.hb.get? b with
      | none => rfl
      | some o' => have := I.base _ _ z; rw [above b hb'] at this; cases this
    have I1 : Inv K.hb σ h1 := I.grown kp
    have m1 : Mv K.hb No σ s.heap σ h1 := .grown kp
    have r1 : RelL K.hb h1 ds vals := m1.relL I r
    have hkind : env.scope.kind = .function := by rw [e_scope]; exact hok.kind
    have hpnm : ∀ i x, nm[i]? = some x → i < ps.length → ps[i]? = some x := fun i x e hi => by
      rw [← hok.pre, List.getElem?_take, if_pos hi]; exact e
    have hargs : ∀ i x d, nm[i]? = some x → lget (startL ds (nm.length - ps.length)) i = some d → ∃ v, ps[i]? = some x ∧ vals[i]? = some v ∧ Rel K.hb h1 d v := fun i x d e1 e2 => by
      have e3 := startL_get e2
      obtain ⟨v, e4, rr⟩ := r1.get e3
      have hi : i < ps.length := by rw [← hl]; exact (List.getElem?_eq_some_iff.mp e3).1
      exact ⟨v, hpnm i x e1 hi, e4, rr⟩
    have nofree : ∀ x, env.scope.names.lookup x = some .free → False := fun x e => hok.free _ (mem_of_lookup (by rw [← e_scope]; exact e)) rfl
    have above1 : ∀ x c, (x, c) ∈ env.cells → s.heap.objs.size ≤ c := fun x c e => by
      have hgt := hin.above x c e
      rw [e_loc] at hgt; exact Nat.le_of_lt hgt
    have R : EnvR K.hb nm env (startL ds (nm.length - ps.length)) h1 := by
      refine ⟨hkind, e_gl, e_bl, noB _ (by rw [e_loc]; exact Nat.le_refl _), ⟨_, hin.toInCall.ns, fun i x d e1 e2 hk => ?_⟩, fun x c e => ?_, fun x hx => ?_, hin.apart, fun x c e => ?_, hok.nmd⟩
      · obtain ⟨v, e3, e4, rr⟩ := hargs i x d e1 e2
        exact ⟨v, bindL_get hpn e3 e4 hk, rr⟩
      · refine ⟨noB c (above1 x c (mem_of_lookup e)), _, hin.cell x c e, fun i d e1 e2 hk => ?_⟩
        obtain ⟨v, e3, e4, rr⟩ := hargs i x d e1 e2
        exact ⟨v, bindC_get hpn e3 e4 (hk.elim id fun hk => (nofree x hk).elim), rr⟩
      · exact hx.elim (fun hx => by rw [e_cells]; exact hlook _ _ (by rw [← e_scope]; exact hx)) fun hx => (nofree x hx).elim
      · have e' : env.cells.lookup x = some c := by rw [e_cells] at e ⊢; exact lookup_of_mem_nodup e (hcn _)
        exact ⟨noB c (above1 x c e), _, hin.cell x c e'⟩
    have F1 : FrOk K.hb (env :: fr) h1 := fun e he => by
      rcases List.mem_cons.mp he with rfl | he
      · obtain ⟨_, ⟨o', es, ep, e', hd', _⟩, _⟩ := R.ns
        refine ⟨by rw [hkind]; decide, s.heap.objs.size, o', es, ep, e_frame, noB _ (Nat.le_refl _), ?_, hd'⟩
        rw [← e_loc]; exact e'
      · exact F.mv I m1 e he
    have SS1 : SS K.hb nm (env :: fr) env σ (startL ds (nm.length - ps.length)) h1 := ⟨I1, R, F1⟩
    have own : ∀ b, ownA env b → s.heap.get? b = none := fun b z => by
      rcases z with rfl | ⟨x, z⟩
      · rw [e_loc]; exact above _ (Nat.le_refl _)
      · exact above _ (above1 x b z)
    have toNo : ∀ {σ' h'}, Mv K.hb (ownA env) σ h1 σ' h' → Mv K.hb No σ s.heap σ' h' := fun m' => (m1.no.trans m').shrink fun b z _ => own b z
    refine m.ok hR (s := { s with heap := h1, toks := tk1 }) hA.deeper SS1 (by rw [e_scope]; exact hm) hvc (fun f s' g => ?_) (fun e s' b => ?_)
    · obtain ⟨h2, tk2, σ2, ρ2, fl, rfl, m2, S2, hf, hq⟩ := g
      cases fl with
      | next => have hf : f = .next := hf; subst hf; exact k _ _ ⟨h2, tk2, σ2, .non, rfl, toNo m2, S2.inv, .non, hq⟩
      | cont => exact hq.elim
      | ret d => obtain ⟨u, rfl, ru⟩ := hf; exact k _ _ ⟨h2, tk2, σ2, d, rfl, toNo m2, S2.inv, ru, hq⟩
    · exact sLeave (hA.deeper (env := env)).frames (s0 := s) (fun h2 σ2 m2 => m2.shrink fun b z _ => own b z) (BadS.after m1.no b) fun s'' b' => kE _ _ b'
theorem lookup_zip {α : Type} : ∀ {ps : List Str} {vs : List α} {p : Str} {i : Nat} {v : α}, ps.Nodup → ps[i]? = some p → vs[i]? = some v → (ps.zip vs).lookup p = some v
  | [], _, _, _, _, _, h, _ => nomatch h
  | _ :: _, [], _, _, _, _, _, h => nomatch h
  | q :: ps, u :: vs, p, 0, v, hn, h1, h2 => by cases h1; cases h2; exact List.lookup_cons_self
  | q :: ps, u :: vs, p, i + 1, v, hn, h1, h2 => by
    have hn := List.nodup_cons.mp hn
    have h1 : ps[i]? = some p := h1
    have : (p == q) = false := beq_false_of_ne fun z => hn.1 (z ▸ List.mem_of_getElem? h1)
    rw [List.zip_cons_cons, List.lookup_cons, this]
    exact lookup_zip hn.2 h1 h2
theorem filterMap_zip {α : Type} {f : Str → Option α} : ∀ {qs : List Str} {us : List α}, us.length = qs.length → (∀ (i : Nat) (q : Str) (u : α), qs[i]? = some q → us[i]? = some u → f q = some u) → qs.filterMap (fun n => (f n).map (n, ·)) = qs.zip us
  | [], [], _, _ => rfl
  | q :: qs, u :: us, h, hh => by
    have e := hh 0 q u rfl rfl
    rw [List.filterMap_cons, e]
    exact congrArg ((q, u) :: ·) (filterMap_zip (Nat.succ.inj h) fun i q' u' h1 h2 => hh (i + 1) q' u' h1 h2)
theorem bind_plain {fd : FuncData} (hp : fd.params.posonlyargs = []) (hv : fd.params.vararg = none) (hk : fd.params.kwonlyargs = []) (hw : fd.params.kwarg = none) (hd : fd.defaults = .none) {vals : List Value}
    (hl : vals.length = (fd.params.args.map (·.arg)).length) (hn : (fd.params.args.map (·.arg)).Nodup) : bindArgs fd ⟨vals, []⟩ = pure ((fd.params.args.map (·.arg)).zip vals) := by
  have hmiss : (fd.params.args.map (·.arg)).filter (fun n => ((((fd.params.args.map (·.arg)).zip vals).lookup n).isNone)) = [] := by
    rw [List.filter_eq_nil_iff]
    intro x hx
    obtain ⟨i, hi⟩ := List.getElem?_of_mem hx
    have hlt : i < vals.length := by rw [hl]; exact (List.getElem?_eq_some_iff.mp hi).1
    rw [lookup_zip (v := vals[i]) hn hi (List.getElem?_eq_getElem hlt)]
    nofun
  have hlt : ¬ (vals.length > (fd.params.args.map (·.arg)).length) := by rw [hl]; exact Nat.lt_irrefl _
  have hf := filterMap_zip (f := fun n => ((fd.params.args.map (·.arg)).zip vals).lookup n) hl fun i q u h1 h2 => lookup_zip hn h1 h2
  obtain ⟨fname, fqual, ⟨po, args, va, ko, kd, kw, df⟩, fbody, fscope, fgl, fcl, fdef, fkd, fpm, fcode, fr1, fr2, fr3⟩ := fd
  dsimp only at hp hv hk hw hd hmiss hlt hf hl hn ⊢
  subst hp hv hk hw hd
  unfold bindArgs
  have hs : seqItems? Value.none = pure none := rfl
  simp only [hs, List.map_nil, List.nil_append, List.append_nil, pure_bind, Option.getD_none, Array.toList_empty, List.length_nil, Nat.sub_zero, List.take_length, hmiss, List.isEmpty_nil, Bool.not_true, Bool.false_eq_true, if_false, List.drop_nil, List.zip_nil_right, List.forIn_nil, Option.isNone_none, Bool.and_true, decide_eq_true_eq, if_neg hlt, hf]
noncomputable def onStmts (b : FuncBody) (k : List Stmt → Bool) : Bool := match b with | .stmts b => k b | _ => false
noncomputable def onFunc (d : Data) (k : FuncData → Bool) : Bool := match d with | .func b => k b | _ => false
noncomputable def chkFd (K : Frag) (ps nm : List Str) (m : MSs) (fd : FuncData) : Bool :=
  fdOk fd ps nm && (onStmts fd.body (m.ck nm fd.scope) && (codeIn K fd.code fd.qualname && (fd.params.posonlyargs.isEmpty && (fd.params.vararg.isNone && (fd.params.kwonlyargs.isEmpty && (fd.params.kwarg.isNone &&
      ((fd.defaults == .none) && fd.params.args.map (·.arg) == ps)))))))
noncomputable def chkFn (K : Frag) (a : Addr) (ps nm : List Str) (m : MSs) : Bool :=
  match K.lookup a with
  | some o => onFunc o.data (chkFd K ps nm m)
  | none => false
theorem fnIn {K : Ctx} {a : Addr} {ps nm : List Str} {m : MSs} (h : chkFn K.frag a ps nm m = true) {n : Nat} {Sp : FnSpec} (hv : ∀ ds σ Q X, Sp ds σ Q X → BodC K n ps nm m ds σ Q X) : FnOK K (n + 1) (.ref a) Sp := by
  unfold chkFn at h
  cases ho : K.frag.lookup a with
  | none => rw [ho] at h; cases h
  | some o =>
  rw [ho] at h
  cases hd : o.data with
  | func fd =>
    have h : onFunc o.data (chkFd K.frag ps nm m) = true := h
    rw [hd] at h
    have h : chkFd K.frag ps nm m fd = true := h
    have h1 := fdOk_of (andL h)
    have h2 := andL (andR h)
    cases hb' : fd.body with
    | stmts b =>
      rw [hb'] at h2
      have h3 := andR (andR h)
      have h4 := andR (andR (andR h3))
      have h9 := eq_of_beq (andR (andR (andR h4)))
      refine fnOf (K.ink _ _ ho) hd h1 hb' (codeRec_of K.ink (andL h3)) (fun vals hl => ?_) h2 hv
      rw [← h9]
      refine bind_plain (nilT (andL (andR h3))) (nonT (andL (andR (andR h3)))) (nilT (andL h4)) (nonT (andL (andR h4))) (eq_of_beq (andL (andR (andR h4)))) (by rw [h9]; exact hl) ?_
      rw [h9, ← h1.pre]; exact h1.nmd.sublist (List.take_sublist _ _)
    | _ => rw [hb'] at h2; cases h2
  | _ => have h : onFunc o.data (chkFd K.frag ps nm m) = true := h; rw [hd] at h; cases h
end Mine
namespace Mine
/-! ## an exception of an own class below another own class, made by its own __init__ -/
section
variable {prog : Program} {w : World} {A : Around} {E : Value → Shared → Prop} {h : Heap} {g : Array GenState} {d : Drawn} {t : Nat} {os : OsState}
variable {nm q : Str} {C N : Addr} {bs bm : List Value} {hdct : Bool} {sn : List Str} {sub : List Value} {ab : Bool} {col : Option Bool} {dd : Option Addr} {k0 k1 k2 k3 k5 : Option Value}
/-- what the class's line of bases holds -/
structure ExcLine (bm : List Value) : Prop where
  exc : bm.contains (.type "Exception") = true
  base : bm.contains (.type "BaseException") = true
  attr : bm.contains (.type "AttributeError") = false
  name : bm.contains (.type "NameError") = false
theorem ExcLine.over (L : ExcLine bm) : (Value.ref C :: bm).contains (.type "Exception") = true ∧ (Value.ref C :: bm).contains (.type "BaseException") = true ∧ (Value.ref C :: bm).contains (.type "AttributeError") = false ∧ (Value.ref C :: bm).contains (.type "NameError") = false := by
  refine ⟨?_, ?_, ?_, ?_⟩ <;> rw [List.contains_cons]
  · rw [L.exc, Bool.or_true]
  · rw [L.base, Bool.or_true]
  · rw [L.attr]; rfl
  · rw [L.name]; rfl
theorem excNewCheck (L : ExcLine bm) {M : Model} {rest : List Value} {Q : Unit → Shared → Prop} (hC : h.get? C = some (excClassObj nm q C N bs bm hdct sn sub ab col dd k0 k1 k2 k3 k5 "Exception.__new__"))
    (hq : Q () ⟨h, g, d, t, os⟩) : wpAny M A (checkBuiltinCall "Exception.__new__" ⟨.ref C :: rest, []⟩) Q E ⟨h, g, d, t, os⟩ := by
  have F := PySem.F.excBase_Exception
  have star := F.noStar
  have up := (L.over (C := C)).1
  simp only [checkBuiltinCall, F.newKind, F.newSplit, F.newRow]
  repeat (first
    | refine wpAny_loadPart_at hC ?_
    | (refine wpAny_isSubtype_exc hC ?_; rw [up])
    | refine wpAny_staticBase_exc hC ?_
    | refine wpAny_madeBy_exc hC ?_
    | simp only [bne_self_eq_false, Bool.false_eq_true, if_false]
    | wp_step)
  exact hq
theorem excNewRun (L : ExcLine bm) {rest : List Value} {R : Result → Shared → Prop} (hC : h.get? C = some (excClassObj nm q C N bs bm hdct sn sub ab col dd k0 k1 k2 k3 k5 "Exception.__new__")) (hl : rest.length ≤ sizeLine)
    (hq : R (.ok (.ret (.ref (h.objs.size + 1)))) ⟨(h.push { cls := .type "tuple", data := .seq rest.toArray }).push { cls := .ref C, data := .fields #[.ref h.objs.size, .none, .none, .none, .bool false, .none] }, g, d, t, os⟩) :
    codeAny (model prog w) A (.builtin "Exception.__new__" ⟨.ref C :: rest, []⟩) R ⟨h, g, d, t, os⟩ := by
  have F := PySem.F.excBase_Exception
  have ends := F.ends
  obtain ⟨u1, _, u3, u4⟩ := L.over (C := C)
  refine codeAny_builtinAt F.entry ?_
  unfold Builtin.«BaseException.__new__»
  refine PySem.wpAt_bind ?_
  show PySem.wpAt _ _ _ (stack >>= _) _ _ _
  refine PySem.wpAt_bind (PySem.wpAt_stack fun p below => PySem.wpAt_of_wpAny ?_)
  wp_walk
  refine PySem.wpAt_of_wpAny ?_
  rw [F.owner]
  repeat (first
    | with_reducible refine wpAny_madeHere_exc F.canon hC ?_
    | with_reducible refine wpAny_loadPart_at hC ?_
    | (with_reducible refine wpAny_isSubtype_exc hC ?_; first | rw [u1] | rw [u3] | rw [u4])
    | wp_step)
  show R _ _
  rw [Heap.size_push]
  exact hq
/-- the class is called: a new object, handed to __init__ -/
theorem excMake (L : ExcLine bm) {mN : Str → Option Value} {rest : List Value} {fI : Addr} {oI : Obj} {Q : Value → Shared → Prop}
    (hC : h.get? C = some (excClassObj nm q C N bs bm hdct sn sub ab col dd k0 k1 k2 k3 k5 "Exception.__new__")) (hn : h.Ns N mN) (hi : mN "__init__" = some (.ref fI)) (hfI : h.get? fI = some oI) (hfc : oI.cls = .type "function") (hl : rest.length ≤ sizeLine)
    (hq : wpAny (model prog w) (A.under (.builtin "type.__call__" ⟨.ref C :: rest, []⟩)) (call (.ref fI) (.ref (h.objs.size + 1) :: rest)) (fun r s' => r = .none ∧ Q (.ref (h.objs.size + 1)) s') E
      ⟨(h.push { cls := .type "tuple", data := .seq rest.toArray }).push { cls := .ref C, data := .fields #[.ref h.objs.size, .none, .none, .none, .bool false, .none] }, g, d, t, os⟩) :
    wpAny (model prog w) A (call (.ref C) rest) Q E ⟨h, g, d, t, os⟩ := by
  have f1 := tc_lookup
  have f2 := tc_bind (.ref C)
  have hT : (⟨h, g, d, t, os⟩ : Shared).TypeIs (.ref C) "type" := ⟨_, hC, rfl⟩
  have F := PySem.F.excBase_Exception
  have self : (Value.ref C :: bm).contains (.ref C) = true := by simp
  refine wpAny_call (codeAny_of_tree ?_)
  show wpAny _ _ (callAny (.ref C) _) _ _ _
  repeat (any_goals (first | assumption | with_reducible refine wpAny_loadPart_at hC ?_ | wp_step))
  refine ⟨rfl, ?_⟩
  refine codeAny_call_builtin_at (Code.quiet_builtin _ (by decide +kernel)) entry_typeCall (wpAny_check_type_call_sub hC ?_)
  repeat (first | with_reducible refine wpAny_loadPart_at hC ?_ | with_reducible refine wpAny_madeBy_exc hC ?_ | wp_step)
  refine codeAny_call_builtin_code (Code.quiet_builtin _ F.quiet) (excNewCheck L hC ?_)
  refine excNewRun L hC hl ?_
  show wpAny _ _ _ _ _ _
  have up : ∀ b o, h.get? b = some o → ((h.push { cls := .type "tuple", data := .seq rest.toArray }).push { cls := .ref C, data := .fields #[.ref h.objs.size, .none, .none, .none, .bool false, .none] }).get? b = some o := fun b o e => Heap.get?_push_of_some _ (Heap.get?_push_of_some _ e)
  have at2 : ((h.push { cls := .type "tuple", data := .seq rest.toArray }).push { cls := .ref C, data := .fields #[.ref h.objs.size, .none, .none, .none, .bool false, .none] }).get? (h.objs.size + 1) = some { cls := .ref C, data := .fields #[.ref h.objs.size, .none, .none, .none, .bool false, .none] } := by heap_get
  have hC1 := up _ _ hC
  unfold isInstance
  repeat (first
    | with_reducible refine wpAny_loadPart_at at2 ?_
    | (with_reducible refine wpAny_isSubtype_exc hC1 ?_; rw [self])
    | wp_step)
  dsimp only
  refine wpAny_isSubtype_exc hC1 ?_
  rw [self]
  wp_walk
  show wpAny _ _ (typeLookup (.ref C) _) _ _ _
  rw [typeLookup_eq]
  refine wpAny_bind (wpAny_mroOf_exc (up _ _ hC) ?_)
  rw [lookupAlong_cons]
  refine wpAny_bind (wpAny_classOwn_exc (up _ _ hC) (hn.keeps up) ?_)
  rw [hi]
  refine wpAny_pure (wpAny_holding (wpAny_bind ?_))
  unfold bindSpecial
  refine wpAny_bind (wpAny_typeOf (T := "function") ⟨_, up _ _ hfI, hfc⟩ ?_)
  rw [if_pos (by decide)]
  refine wpAny_pure (wpAny_bind (wpAny_mono hq (fun r s' hr => ?_) fun _ _ x => x))
  obtain ⟨rfl, hQ⟩ := hr
  wp_walk
  exact hQ
end
end Mine
namespace Mine
section
variable {M : Model} {A : Around} {E : Value → Shared → Prop} {env : Env}
variable {nm q : Str} {C N : Addr} {bs bm : List Value} {hdct : Bool} {sn : List Str} {sub : List Value} {ab : Bool} {col : Option Bool} {dd : Option Addr} {k0 k1 k2 k3 k5 : Option Value} {newId : String}
theorem raiseOwn {s : Shared} {x : Sem Value} {Q : Flow → Shared → Prop} (L : ExcLine bm) (hh : A.handled = none)
    (h : wpAny M A x (fun v s₁ => ∃ e a0 D sl, v = .ref e ∧ s₁.heap.get? C = some (excClassObj nm q C N bs bm hdct sn sub ab col dd k0 k1 k2 k3 k5 newId) ∧
      s₁.heap.get? e = some { cls := .ref C, dict := D, data := .fields #[a0, .none, .none, .none, .bool false, .none], slots := sl } ∧ E (.ref e) s₁) E s) :
    wpAny M A (raiseStmt env (some x) none) Q E s := by
  have up := (L.over (C := C)).2.1
  unfold raiseStmt
  refine wpAny_bind (wpAny_mono h (fun v s₁ z => ?_) fun _ _ z => z)
  obtain ⟨e, a0, D, sl, rfl, hC, he, hE⟩ := z
  obtain ⟨hp, g, d, tk, os⟩ := s₁
  repeat (first
    | with_reducible refine wpAny_loadPart_at he ?_
    | with_reducible refine wpAny_loadPart_at hC ?_
    | (with_reducible refine wpAny_isSubtype_exc hC ?_; rw [up])
    | wp_step)
  exact wpAny_raiseNew_none hh hE
end
section
variable {prog : Program} {w : World} {A : Around} {E : Value → Shared → Prop} {s : Shared} {env : Env}
variable {nm q : Str} {C N : Addr} {bs bm : List Value} {hdct : Bool} {sn : List Str} {sub : List Value} {ab : Bool} {col : Option Bool} {dd : Option Addr} {k0 k1 k2 k3 k5 : Option Value} {newId : String}
/-- raise X(..): the call comes to an object of X -/
theorem raiseCallOwn {x : Str} {np cpos pos : Pos} {args : List Expr} {Q : Flow → Shared → Prop} (L : ExcLine bm) (hh : A.handled = none) (hplain : (backTo cpos (starEach args env)).any (·.1) = false)
    (h : wpAny (model prog w) A (eval (.Name x np) env) (fun f s₁ => f = .ref C ∧ wpAny (model prog w) A (evalArgs (.ref C) true (backTo cpos (starEach args env)) [])
      (fun a s₂ => a.kw = [] ∧ s₂.heap.get? C = some (excClassObj nm q C N bs bm hdct sn sub ab col dd k0 k1 k2 k3 k5 newId) ∧
        wpAny (model prog w) A (call (.ref C) a.pos) (fun v s₃ => ∃ e a0 D sl, v = .ref e ∧ s₃.heap.get? C = some (excClassObj nm q C N bs bm hdct sn sub ab col dd k0 k1 k2 k3 k5 newId) ∧
          s₃.heap.get? e = some { cls := .ref C, dict := D, data := .fields #[a0, .none, .none, .none, .bool false, .none], slots := sl } ∧ E (.ref e) s₃) E s₂) E s₁) E s) :
    wpAny (model prog w) A (exec (.Raise (some (.Call (.Name x np) args [] cpos)) none pos) env) Q E s := by
  rw [arm_exec_Raise]
  refine wpAny_bind (wpAny_standAt (raiseOwn (C := C) (nm := nm) (q := q) (N := N) (bs := bs) (bm := bm) (hdct := hdct) (sn := sn) (sub := sub) (ab := ab) (col := col) (dd := dd) (k0 := k0) (k1 := k1) (k2 := k2) (k3 := k3) (k5 := k5) (newId := newId) L hh
    (wpAny_bind (wpAny_mono (wpAny_Call_ofName (wpAny_mono h (fun f s₁ h₁ => ?_) fun _ _ z => z)) (fun v s₃ h₃ => wpAny_bind (wpAny_standAt (wpAny_pure h₃))) fun _ _ z => z))))
  obtain ⟨rfl, h₁⟩ := h₁
  unfold callWith
  refine wpAny_bind (wpAny_holding (wpAny_mono h₁ (fun a s₂ h₂ => wpAny_bind (wpAny_standAt ?_)) fun _ _ z => z))
  obtain ⟨ap, ak⟩ := a
  obtain ⟨hk, hC, h₂⟩ := h₂
  obtain rfl : ak = [] := hk
  obtain ⟨hp, g, d, tk, os⟩ := s₂
  simp only [hplain]
  refine wpAny_bind (wpAny_keeperOf_exc hC ?_)
  exact wpAny_bind (wpAny_mono h₂ (fun v s₃ h₃ => wpAny_bind (wpAny_holding (wpAny_point (wpAny_pure h₃)))) fun _ _ z => z)
end
end Mine
namespace Mine
section
variable {prog : Program} {w : World} {A : Around} {E : Value → Shared → Prop} {s : Shared} {env : Env} {K : Frag}
/-- o.name(x, y) -/
theorem callAttr {o x y : Expr} {name : Str} {apos pos : Pos} {Q : Value → Shared → Prop}
    (hbase : attributeBase o name env (eval o env) = eval o env) (hx : isStar x = false) (hy : isStar y = false) (hline : (apos.endLine == pos.line) = true)
    (h : wpAny (model prog w) A (eval o env) (fun ov s₁ => ∀ pl, wpAny (model prog w) A (getMethod ov name pl) (fun p s₂ => wpAny (model prog w) A (callWith pos p.1 p.2 (backTo pos (starEach [x, y] env)) []) Q E s₂) E s₁) E s) :
    wpAny (model prog w) A (eval (.Call (.Attribute o name apos) [x, y] [] pos) env) Q E s := by
  have few : methodCallForm 2 (backTo pos (starEach [x, y] env)) (backToKw pos (keywordEach [] env)) = true := by
    rw [starEach_cons hx, starEach_cons hy]; rfl
  rw [arm_eval_Call, hbase]
  refine wpAny_bind (wpAny_mono h (fun ov s₁ h₁ => ?_) fun _ _ e => e)
  refine wpAny_bind (wpAny_standAt ?_)
  have hpos : methodCallPos true o env apos pos = pure pos := by unfold methodCallPos; simp [hline]
  show wpAny _ _ (methodCall o name apos pos env ov 2 _ _) _ _ _
  unfold methodCall
  rw [few]
  refine wpAny_bind (wpAny_holding (wpAny_mono (h₁ _) (fun p s₂ h₂ => ?_) fun _ _ e => e))
  obtain ⟨f, first⟩ := p
  exact wpAny_bind (wpAny_of_eq hpos h₂)
theorem args2 {f : Value} {x y : Expr} {pos : Pos} {Q : Args → Shared → Prop} (hx : isStar x = false) (hy : isStar y = false)
    (h : wpAny (model prog w) A (eval x env) (fun a s₁ => wpAny (model prog w) A (eval y env) (fun b s₂ => Q ⟨[a, b], []⟩ s₂) E s₁) E s) :
    wpAny (model prog w) A (evalArgs f true (backTo pos (starEach [x, y] env)) []) Q E s := by
  refine evalArgs_of hx (wpAny_items_cons (wpAny_mono h (fun a s₁ h₁ => ?_) fun _ _ e => e) (starEach_cons hx))
  refine wpAny_items_cons (wpAny_mono h₁ (fun b s₂ h₂ => ?_) fun _ _ e => e) (starEach_cons hy)
  exact wpAny_items_nil h₂
theorem methodVal {v : Value} {name : Str} {pl : Sem Bool} {Q : Value × List Value → Shared → Prop} (hg : Looks (model prog w) s.heap (specialOf v "__getattribute__") (some (.builtin "type.__getattribute__")))
    (h : wpAny (model prog w) A (getAttr v name) (fun u => Q (u, [])) E s) : wpAny (model prog w) A (getMethod v name pl) Q E s := by
  unfold getMethod
  refine wpAny_bind (hg.here ?_)
  dsimp only
  rw [if_pos canon_tga]
  exact wpAny_bind (wpAny_mono h (fun _ _ z => wpAny_pure z) fun _ _ z => z)
end
section
variable {prog : Program} {w : World} {A : Around} {E : Value → Shared → Prop} {h : Heap} {g : Array GenState} {d : Drawn} {t : Nat} {os : OsState}
variable {nm q : Str} {C N : Addr} {bs bm : List Value} {hdct : Bool} {sn : List Str} {sub : List Value} {ab : Bool} {col : Option Bool} {dd : Option Addr} {k0 k1 k2 k3 k5 : Option Value}
/-- the fields of an exception with these arguments -/
noncomputable abbrev excF (a0 : Value) : Data := .fields #[a0, .none, .none, .none, .bool false, .none]
theorem excInitCheck (L : ExcLine bm) {M : Model} {e : Addr} {oe : Obj} {rest : List Value} {Q : Unit → Shared → Prop} {newId : String}
    (hC : h.get? C = some (excClassObj nm q C N bs bm hdct sn sub ab col dd k0 k1 k2 k3 k5 newId)) (he : h.get? e = some oe) (hcls : oe.cls = .ref C) (hq : Q () ⟨h, g, d, t, os⟩) :
    wpAny M A (checkBuiltinCall "Exception.__init__" ⟨.ref e :: rest, []⟩) Q E ⟨h, g, d, t, os⟩ := by
  have F := PySem.F.excBase_Exception
  have star := F.noStar
  have up := (L.over (C := C)).1
  have free : ∀ (a b : String) (n : Nat), Bind.check ⟨.positional, "*", "Exception", .self, [⟨"args", .varPos, false⟩]⟩ a b n (List.map (fun x => x.fst) ({ pos := Value.ref e :: rest } : Args).kw) = pure () :=
    fun a b n => check_star_args _ _ _ _ _ _
  simp only [checkBuiltinCall, F.initKind, F.initSplit, F.initRow]
  repeat (first
    | (with_reducible refine wpAny_loadPart_at he ?_; rw [hcls])
    | with_reducible refine wpAny_loadPart_at hC ?_
    | (with_reducible refine wpAny_isSubtype_exc hC ?_; rw [up])
    | wp_step)
  refine wpAny_onRaise ?_
  rw [free]
  exact wpAny_pure hq
/-- Exception.__init__(e, ..): the arguments are put -/
theorem excInit (L : ExcLine bm) {e t0 : Addr} {D : Option Addr} {sl : Array (Option Value)} {rest : List Value} {Q : Value → Shared → Prop} {newId : String}
    (hC : h.get? C = some (excClassObj nm q C N bs bm hdct sn sub ab col dd k0 k1 k2 k3 k5 newId)) (he : h.get? e = some { cls := .ref C, dict := D, data := excF (.ref t0), slots := sl }) (hl : rest.length ≤ sizeLine)
    (hq : ∀ h' t1, (∀ b o, b ≠ e → h.get? b = some o → h'.get? b = some o) → h'.get? e = some { cls := .ref C, dict := D, data := excF (.ref t1), slots := sl } → Q .none ⟨h', g, d, t, os⟩) :
    wpAny (model prog w) A (call (.builtin "Exception.__init__") (.ref e :: rest)) Q E ⟨h, g, d, t, os⟩ := by
  have F := PySem.F.excBase_Exception
  refine wpAny_call (codeAny_call_builtin F.init.plain F.initEntry (excInitCheck L hC he rfl ?_))
  have he1 := Heap.get?_push_of_some { cls := .type "tuple", data := .seq rest.toArray } he
  wp_walk
  show Q .none _
  refine hq _ h.objs.size (fun b o n hb => ?_) ?_
  · exact (Heap.get?_update_ne _ _ _ _ n).trans (Heap.get?_push_of_some _ hb)
  · rw [Heap.get?_update_self _ he1 rfl]; rfl
end
end Mine
namespace Mine
open Builtin Builtin.ObjectAttr
/-- an exception with its fields and its own names -/
structure ExcAt (h : Heap) (x C : Addr) (a0 : Value) (D : Option Addr) (mA : Str → Option Value) : Prop where
  obj : h.get? x = some { cls := .ref C, dict := D, data := excF a0 }
  names : match D with
    | none => ∀ y, mA y = none
    | some d => d ≠ x ∧ h.Ns1 d mA
section
variable {prog : Program} {w : World} {A : Around} {R : Result → Shared → Prop} {h : Heap} {g : Array GenState} {d : Drawn} {t : Nat} {os : OsState} {K : Frag}
variable {x C C' : Addr} {cd : ClassData} {a0 v : Value} {D : Option Addr} {mA : Str → Option Value} {name : Str}
theorem osaExc {tk : Tok} {ns : List Str} (X : K.In h) (hcd : clsIn K C = some cd) (hm : cd.mro = [.ref C, .ref C', .type "Exception", .type "BaseException", .type "object"]) (hhd : cd.hasDict = true) (hna : findIn K (.ref C) name = some none)
    (I : ExcAt h x C a0 D mA) (hw : Within mA ns) (hsz : ns.length ≤ 100)
    (hq : ∀ h' tk' D', ExcAt h' x C a0 (some D') (fun y => if y = name then some v else mA y) → (D = none → h.get? D' = none) → (∀ d, D = some d → D' = d) → (∀ b o, b ≠ x → b ≠ D' → h.get? b = some o → h'.get? b = some o) → R (.ok (.ret .none)) ⟨h', g, d, tk', os⟩) :
    codeAny (model prog w) A (.call (.builtin "object.__setattr__") ⟨[.ref x, .str name tk, v], []⟩) R ⟨h, g, d, t, os⟩ := by
  have SF := PySem.F.store_object
  have pass := PySem.F.store_Exception.passes (.ref x)
  obtain ⟨hx, hD⟩ := I
  have LT : Looks (model prog w) h (typeOf (.ref x)) (.ref C) := (Looks.ld hx).andThen .now
  have LM : Looks (model prog w) h (mroOf (.ref C)) cd.mro := (looks_clsIn X hcd).andThen .now
  have LS : Looks (model prog w) h (isInstance (.ref x) (.type "object")) true := LT.andThen (looks_mroIn X (by unfold mroIn; rw [hcd, Option.bind_some, hm]; rfl))
  refine codeAny_call_builtin SF.slot.plain SF.entry (@check_slot (model prog w) _ _ ⟨h, g, d, t, os⟩ "object.__setattr__" "object" "__setattr__" (.ref x) [.str name tk, v] [] _ SF.kind SF.split LS (SF.args (.ref x) (.str name tk) v) ?_)
  rw [osa_eq, refuse_eq]
  refine wpAny_bind (wpAny_bind (LT.at (wpAny_bind (LM.at ?_))))
  rw [hm, refuseLoop_ref, refuseLoop_ref, pass]
  refine wpAny_pure (wpAny_bind (LT.at (wpAny_bind ((looks_findIn X hna).at (wpAny_bind (wpAny_pure ?_))))))
  refine wpAny_bind (wpAny_pure (wpAny_bind (wpAny_bind (wpAny_loadPart hx (wpAny_bind ((looks_clsIn X hcd).at ?_))))))
  rw [hhd]
  cases D with
  | some dx =>
    obtain ⟨hne, hns⟩ := hD
    refine wpAny_pure (a := some dx) ?_
    show wpAny _ _ (storeInDict dx (.str name tk) name v) _ _ _
    unfold storeInDict newKeyGuard
    refine wpAny_bind (wpAny_pure (wpAny_bind (wpAny_nsSet1 hns fun h' hn' hs => ?_)))
    obtain ⟨oD, esD, epD, hoD, hdD, hcD⟩ := hn'.count (Within.cons name v hw)
    refine wpAny_bind (wpAny_lookBehind hoD (by rw [hdD]; exact pastItsLine_dict (Nat.le_trans hcD (by rw [List.length_cons, sizeLine_eq]; lia))) ?_)
    wp_walk
    exact hq h' _ dx ⟨(hs.2 x hne.symm).trans hx, hne, hn'⟩ nofun (fun d e => by cases e; rfl) fun b o _ n2 hb => (hs.2 b n2).trans hb
  | none =>
    have hA0 : ∀ y, mA y = none := hD
    have hxs : x ≠ h.objs.size := Nat.ne_of_lt (Heap.lt_size hx)
    have hx1 : (h.push { cls := .type "dict", data := .dict #[] }).get? x = some { cls := .ref C, data := excF a0 } := Heap.get?_push_of_some _ hx
    refine wpAny_bind (wpAny_alloc' ?_)
    refine wpAny_bind (wpAny_update' hx1 ?_)
    refine wpAny_pure (a := some h.objs.size) ?_
    have hgd : ((h.push { cls := .type "dict", data := .dict #[] }).update x fun o => { cls := o.cls, dict := some h.objs.size, data := o.data, slots := o.slots }).get? h.objs.size
        = some { cls := .type "dict", data := .dict #[] } :=
      (Heap.get?_update_ne _ _ _ _ hxs.symm).trans (Heap.get?_push_at rfl rfl)
    have hnd : ((h.push { cls := .type "dict", data := .dict #[] }).update x fun o => { cls := o.cls, dict := some h.objs.size, data := o.data, slots := o.slots }).Ns h.objs.size (fun _ => none) :=
      ⟨_, #[], _, hgd, rfl, fun e he => absurd he (by simp), fun _ => rfl⟩
    show wpAny _ _ (storeInDict h.objs.size (.str name tk) name v) _ _ _
    unfold storeInDict newKeyGuard
    refine wpAny_bind (wpAny_pure (wpAny_bind (wpAny_nsSet1 (Heap.Ns1.of_empty hnd) fun h' hn' hs => ?_)))
    obtain ⟨oD, esD, epD, hoD, hdD, hcD⟩ := hn'.count (Within.cons name v Within.nil)
    refine wpAny_bind (wpAny_lookBehind hoD (by rw [hdD]; exact pastItsLine_dict (Nat.le_trans hcD (by rw [List.length_cons, List.length_nil, sizeLine_eq]; lia))) ?_)
    wp_walk
    have em : (fun y => if y = name then some v else mA y) = fun y => if y = name then some v else none := by
      funext y; rw [hA0 y]
    refine hq h' _ h.objs.size ⟨?_, hxs.symm, by rw [em]; exact hn'⟩ (fun _ => Heap.get?_none_of_le (Nat.le_refl _)) nofun fun b o n1 n2 hb => ?_
    · exact (hs.2 x hxs).trans (Heap.get?_update_self _ hx1 rfl)
    · exact (hs.2 b n2).trans ((Heap.get?_update_ne _ _ _ _ n1).trans (Heap.get?_push_of_some _ hb))
end
end Mine
namespace Mine
section
variable {prog : Program} {w : World} {A : Around} {E : Value → Shared → Prop} {s : Shared} {K : Frag}
variable {x C C' : Addr} {cd : ClassData} {a0 v : Value} {D : Option Addr} {mA : Str → Option Value} {name : Str}
theorem ExcAt.inst {h : Heap} (I : ExcAt h x C a0 D mA) : ∃ od, InstAt h x { cls := .ref C, dict := D, data := excF a0 } C od := by
  obtain ⟨hx, hD⟩ := I
  cases D with
  | none => exact ⟨none, hx, rfl, rfl, trivial⟩
  | some d => obtain ⟨_, o, _, _, ho, _⟩ := hD; exact ⟨some o, hx, rfl, rfl, ho⟩
/-- self.name = v -/
theorem setExc {ns : List Str} {Q : Unit → Shared → Prop} (X : K.In s.heap) (hcd : clsIn K C = some cd) (hm : cd.mro = [.ref C, .ref C', .type "Exception", .type "BaseException", .type "object"]) (hhd : cd.hasDict = true)
    (hs : findIn K (.ref C) "__setattr__" = some (some (.builtin "object.__setattr__"))) (hna : findIn K (.ref C) name = some none) (I : ExcAt s.heap x C a0 D mA) (hw : Within mA ns) (hsz : ns.length ≤ 100)
    (hq : ∀ h' tk' D', ExcAt h' x C a0 (some D') (fun y => if y = name then some v else mA y) → (D = none → s.heap.get? D' = none) → (∀ d, D = some d → D' = d) → (∀ b o, b ≠ x → b ≠ D' → s.heap.get? b = some o → h'.get? b = some o) → Q () { s with heap := h', toks := tk' }) :
    wpAny (model prog w) A (setAttr (.ref x) name v) Q E s := by
  obtain ⟨od, J⟩ := I.inst
  obtain ⟨h, g, d, t, os⟩ := s
  exact set_plain X J hs (osaExc X hcd hm hhd hna I hw hsz fun h' tk' D' a b c e => hq h' tk' D' a b c e)
/-- a def that keeps no cells -/
noncomputable def plainFn (K : Frag) (a : Addr) (ps : List Str) : Bool := match K.lookup a with
  | some o => match o.data with
    | .func fd => fdOk fd ps ps && (match fd.body with | .stmts _ => true | _ => false) && codeIn K fd.code fd.qualname && fd.params.posonlyargs.isEmpty && fd.params.vararg.isNone && fd.params.kwonlyargs.isEmpty && fd.params.kwarg.isNone &&
      (fd.defaults == .none) && fd.params.args.map (·.arg) == ps && fd.scope.names.all (fun y => y.2 != .cell)
    | _ => false
  | none => false
noncomputable def fdOf (K : Frag) (a : Addr) : Option FuncData := match K.lookup a with
  | some o => (match o.data with | .func fd => some fd | _ => none)
  | none => none
noncomputable def bodyOf (K : Frag) (a : Addr) : List Stmt := match fdOf K a with
  | some fd => (match fd.body with | .stmts b => b | _ => [])
  | none => []
noncomputable def scopeOf (K : Frag) (a : Addr) : Option Scope := (fdOf K a).map (·.scope)
theorem callDef {hb : Heap} {f : Addr} {ps : List Str} {vals : List Value} {Q : Value → Shared → Prop} (X : K.In hb) (hlim : hb.NoLimit) (keep : hb.StaysIn s.heap) (hA : A.depth < recursionLimit) (hp : plainFn K f ps = true) (hl : vals.length = ps.length)
    (h : ∀ (env : Env) h1 tk1 m, some env.scope = scopeOf K f → env.scope.kind = .function → env.globals = mainGlobals → env.builtins = builtinsNs → env.cells = [] → (∀ b o, s.heap.get? b = some o → h1.get? b = some o) → s.heap.get? env.locals = none → h1.Ns env.locals m → (∀ (i : Nat) p v, ps[i]? = some p → vals[i]? = some v → m p = some v ∧ env.kindOf p = some .local) →
      wpAny (model prog w) (A.deeper env) (execs (bodyOf K f) env) (fun fl s' => Q (match fl with | .ret v => v | _ => .none) s') (fun _ _ => False) { s with heap := h1, toks := tk1 }) :
    wpAny (model prog w) A (call (.ref f) vals) Q E s := by
  unfold plainFn at hp
  split at hp
  case h_2 => cases hp
  rename_i o ho
  split at hp
  case h_2 => cases hp
  rename_i fd hd
  have efd : fdOf K f = some fd := by unfold fdOf; rw [ho]; dsimp only; rw [hd]
  simp only [Bool.and_eq_true, List.isEmpty_iff, Option.isNone_iff_eq_none, beq_iff_eq] at hp
  obtain ⟨⟨⟨⟨⟨⟨⟨⟨⟨h1, h2⟩, h3⟩, h4⟩, h5⟩, h6⟩, h7⟩, h8⟩, h9⟩, h10⟩ := hp
  split at h2
  case h_2 => cases h2
  rename_i b hb'
  have ebody : bodyOf K f = b := by unfold bodyOf; rw [efd]; dsimp only; rw [hb']
  have esc : scopeOf K f = some fd.scope := by unfold scopeOf; rw [efd]; rfl
  rw [ebody, esc] at h
  obtain ⟨k1, k2, k3, k4, k5, k6, k7, k8, k9, k10, k11⟩ := fdOk_of h1
  simp only [List.all_eq_true, bne_iff_ne, ne_eq] at h10
  have loc : ∀ p ∈ ps, fd.scope.names.lookup p = some .local := fun p hp => by
    rcases k10 p hp with e | e
    · exact e
    · exact absurd rfl (h10 _ (mem_of_lookup e))
  have nocell : ∀ L : Nat, cellsFrom L fd.scope.names [] = [] := fun L => by
    cases e : cellsFrom L fd.scope.names [] with
    | nil => rfl
    | cons y r =>
      rcases cellsFrom_mem (show (y.1, y.2) ∈ cellsFrom L fd.scope.names [] by rw [e]; simp) with z | z
      · simp at z
      · exact absurd rfl (h10 _ z)
  have hbind := bind_plain h4 h5 h6 h7 h8 (vals := vals) (by rw [h9]; exact hl) (by rw [h9]; exact k9)
  rw [h9] at hbind
  refine wpAny_call (codeAny_call_cells hA (keep _ _ (X _ _ ho)) hd (hlim.keeps keep) ((codeRec_of X h3).keeps keep) hb' hbind k4 (fun y hy => .inl (loc _ (List.of_mem_zip (show (y.1, y.2) ∈ ps.zip vals from hy)).1)) (fun s₁ hin => ?_) k2 k3 k1)
  generalize henv : callEnvC fd s.heap.objs.size f = env at hin ⊢
  have e1 : env.scope = fd.scope := by subst henv; rfl
  have e2 : env.locals = s.heap.objs.size := by subst henv; rfl
  have e3 : env.cells = [] := by subst henv; exact nocell _
  have e4 : env.globals = mainGlobals := by subst henv; exact k5
  have e5 : env.builtins = builtinsNs := by subst henv; exact k6
  obtain ⟨h1', tk1, hs1⟩ := hin.toInCall.same
  subst hs1
  refine wpAny_mono (h env h1' tk1 _ (by rw [e1]) (by rw [e1]; exact k1) e4 e5 e3 hin.toInCall.keep (by rw [e2]; exact Heap.get?_none_of_le (Nat.le_refl _)) hin.toInCall.ns fun i p v hi hv => ?_) (fun fl s' z => z) fun _ _ z => z.elim
  have hloc := loc p (List.mem_of_getElem? hi)
  have hk : env.kindOf p = some .local := by show env.scope.names.lookup p = _; rw [e1]; exact hloc
  exact ⟨bindL_get k9 hi hv hk, hk⟩
end
section
variable {prog : Program} {w : World} {A : Around} {E : Value → Shared → Prop} {s : Shared} {env : Env} {Q : Value → Shared → Prop}
theorem nameLoc {x : Str} {v : Value} {m : Str → Option Value} {pos : Pos} (hk : env.scope.kind = .function) (hx : env.kindOf x = some .local) (hn : s.heap.Ns env.locals m) (hm : m x = some v) (hb : (x == ("__debug__" : Str)) = false) (q : Q v s) :
    wpAny (model prog w) A (eval (.Name x pos) env) Q E s := wpAny_Name (wpAny_loadName_local hk hx hn hm q) hb
theorem nameGlob {x : Str} {v : Value} {mg : Str → Option Value} {pos : Pos} (hk : env.scope.kind = .function) (hg : env.globals = mainGlobals) (hx : env.kindOf x = some .globalImplicit) (hn : s.heap.Ns mainGlobals mg) (hm : mg x = some v) (hb : (x == ("__debug__" : Str)) = false) (q : Q v s) :
    wpAny (model prog w) A (eval (.Name x pos) env) Q E s := Calls.Name_function_global hk hx (Calls.loadGlobal_global (mg := mg) (by rw [hg]; exact hn) hm q) hb
theorem nameBuilt {x : Str} {v : Value} {mg mb : Str → Option Value} {pos : Pos} (hk : env.scope.kind = .function) (hg : env.globals = mainGlobals) (hbn : env.builtins = builtinsNs) (hx : env.kindOf x = some .globalImplicit) (hn : s.heap.Ns mainGlobals mg) (hm : mg x = none) (hn2 : s.heap.Ns builtinsNs mb) (hm2 : mb x = some v) (hb : (x == ("__debug__" : Str)) = false) (q : Q v s) :
    wpAny (model prog w) A (eval (.Name x pos) env) Q E s := Calls.Name_function_global hk hx (Calls.loadGlobal_builtin (mg := mg) (mb := mb) (by rw [hg]; exact hn) hm (by rw [hbn]; exact hn2) hm2 q) hb
end
end Mine
namespace Mine
noncomputable def p_truth : List Str := (["value"] : List String).map Str.ofString
noncomputable def n_truth : List Str := (["value"] : List String).map Str.ofString
noncomputable def m_truth : MSs :=
 (.cons (.ret (.bop .And (.more (.cmp .IsNot (.var 0) (.non)) (.more (.cmp .NotEq (.var 0) (.str 0)) (.more (.cmp .NotEq (.var 0) (.int 0)) (.one (.cmp .NotEq (.var 0) (.str 1))))))))
 .nil)
noncomputable def p_shape_of : List Str := (["op"] : List String).map Str.ofString
noncomputable def n_shape_of : List Str := (["op", "shape"] : List String).map Str.ofString
noncomputable def m_shape_of : MSs :=
 (.cons (.ifs (.shN 2 (.idx (.var 0) (.int 0)))
  (.cons (.bad)
  .nil)
  .nil)
 (.cons (.asg 1 (.shG 2 (.idx (.var 0) (.int 0))))
 (.cons (.ifs (.cmp .NotEq (.bi .len (.var 0)) (.bin .Add (.int 1) (.bi .len (.idx (.var 1) (.int 2)))))
  (.cons (.bad)
  .nil)
  .nil)
 (.cons (.ret (.var 1))
 .nil))))
noncomputable def p_jumps_of : List Str := (["op"] : List String).map Str.ofString
noncomputable def n_jumps_of : List Str := (["op", "parts", "at"] : List String).map Str.ofString
noncomputable def m_jumps_of : MSs :=
 (.cons (.asg 1 (.idx (.callG 4 (.cons (.var 0) .nil)) (.int 2)))
 (.cons (.ret (.comp (.idx (.var 0) (.bin .Add (.var 2) (.int 1))) 2 (.bi .range (.bi .len (.var 1))) (.iff (.cmp .Eq (.idx (.var 1) (.var 2)) (.str 48)))))
 .nil))
noncomputable def p_with_jumps : List Str := (["op", "places"] : List String).map Str.ofString
noncomputable def n_with_jumps : List Str := (["op", "places", "parts", "made", "used", "at"] : List String).map Str.ofString
noncomputable def m_with_jumps : MSs :=
 (.cons (.asg 2 (.idx (.callG 4 (.cons (.var 0) .nil)) (.int 2)))
 (.cons (.asg 3 (.lst (.cons (.idx (.var 0) (.int 0)) .nil)))
 (.cons (.asg 4 (.int 0))
 (.cons (.forr 5 (.bi .range (.bi .len (.var 2)))
  (.cons (.ifs (.cmp .Eq (.idx (.var 2) (.var 5)) (.str 48))
   (.cons (.ex (.meth .append (.var 3) (.cons (.idx (.var 1) (.var 4)) .nil)))
   (.cons (.aug 4 (.int 1))
   .nil))
   (.cons (.ex (.meth .append (.var 3) (.cons (.idx (.var 0) (.bin .Add (.var 5) (.int 1))) .nil)))
   .nil))
  .nil))
 (.cons (.ret (.bi .tuple (.var 3)))
 .nil)))))
noncomputable def p_goes_on : List Str := (["op"] : List String).map Str.ofString
noncomputable def n_goes_on : List Str := (["op"] : List String).map Str.ofString
noncomputable def m_goes_on : MSs :=
 (.cons (.ret (.cmp .NotIn (.idx (.var 0) (.int 0)) (.glob 3)))
 .nil)
noncomputable def p_goal_marks : List Str := (["rows"] : List String).map Str.ofString
noncomputable def n_goal_marks : List Str := (["rows", "marks", "op", "place"] : List String).map Str.ofString
noncomputable def m_goal_marks : MSs :=
 (.cons (.asg 1 (.rep (.cons (.bool false) .nil) (.bin .Add (.bi .len (.var 0)) (.int 1))))
 (.cons (.forr 2 (.var 0)
  (.cons (.forr 3 (.callG 5 (.cons (.var 2) .nil))
   (.cons (.sto (.var 1) (.var 3) (.bool true))
   .nil))
  .nil))
 (.cons (.ret (.var 1))
 .nil)))
noncomputable def p_squeezed_rows : List Str := (["rows"] : List String).map Str.ofString
noncomputable def n_squeezed_rows : List Str := (["rows", "places", "kept", "op", "place"] : List String).map Str.ofString
noncomputable def m_squeezed_rows : MSs :=
 (.cons (.asg 1 (.lst .nil))
 (.cons (.asg 2 (.lst .nil))
 (.cons (.forr 3 (.var 0)
  (.cons (.ex (.meth .append (.var 1) (.cons (.bi .len (.var 2)) .nil)))
  (.cons (.ifs (.cmp .IsNot (.var 3) (.non))
   (.cons (.ex (.meth .append (.var 2) (.cons (.var 3) .nil)))
   .nil)
   .nil)
  .nil)))
 (.cons (.ret (.comp (.callG 6 (.cons (.var 3) (.cons (.comp (.idx (.var 1) (.var 4)) 4 (.callG 5 (.cons (.var 3) .nil)) .nil) .nil))) 3 (.var 2) .nil))
 .nil))))
noncomputable def p_taken_consts : List Str := (["op"] : List String).map Str.ofString
noncomputable def n_taken_consts : List Str := (["op"] : List String).map Str.ofString
noncomputable def m_taken_consts : MSs :=
 (.cons (.ifs (.bop .Or (.more (.cmp .Eq (.idx (.var 0) (.int 0)) (.str 35)) (.one (.cmp .Eq (.idx (.var 0) (.int 0)) (.str 36)))))
  (.cons (.ret (.int 2))
  .nil)
  .nil)
 (.cons (.ret (.ite (.bop .Or (.more (.cmp .Eq (.idx (.var 0) (.int 0)) (.str 37)) (.one (.cmp .Eq (.idx (.var 0) (.int 0)) (.str 38))))) (.int 1) (.int 0)))
 .nil))
noncomputable def p_folded_value : List Str := (["op", "values", "compute"] : List String).map Str.ofString
noncomputable def n_folded_value : List Str := (["op", "values", "compute"] : List String).map Str.ofString
noncomputable def m_folded_value : MSs :=
 (.cons (.tryT (.tup (.cons (.bool true) (.cons (.callV 2 (.cons (.var 0) (.cons (.var 1) .nil))) .nil))) (.tup2 (.bool false) (.non)))
 .nil)
noncomputable def p_fold_rows : List Str := (["rows", "compute"] : List String).map Str.ofString
noncomputable def n_fold_rows : List Str := (["rows", "compute", "marks", "out", "consts", "at", "op", "count", "is_made", "place", "value"] : List String).map Str.ofString
noncomputable def m_fold_rows : MSs :=
 (.cons (.asg 2 (.callG 11 (.cons (.var 0) .nil)))
 (.cons (.asg 3 (.bi .list (.var 0)))
 (.cons (.asg 4 (.lst .nil))
 (.cons (.forr 5 (.bi .range (.bi .len (.var 0)))
  (.cons (.ifs (.idx (.var 2) (.var 5))
   (.cons (.asg 4 (.lst .nil))
   .nil)
   .nil)
  (.cons (.asg 6 (.idx (.var 0) (.var 5)))
  (.cons (.asg 7 (.callG 13 (.cons (.var 6) .nil)))
  (.cons (.ifs (.cmp .Eq (.idx (.var 6) (.int 0)) (.str 17))
   (.cons (.ex (.meth .append (.var 4) (.cons (.var 5) .nil)))
   (.cons (.cont)
   .nil))
   .nil)
  (.cons (.asg 8 (.bool false))
  (.cons (.ifs (.chain .Lt .LtE (.int 0) (.var 7) (.bi .len (.var 4)))
   (.cons (.unp [8, 10] (.callG 14 (.cons (.var 6) (.cons (.comp (.idx (.idx (.var 3) (.var 9)) (.int 1)) 9 (.slL (.var 4) (.bin .Sub (.bi .len (.var 4)) (.var 7))) .nil) (.cons (.var 1) .nil)))))
   .nil)
   .nil)
  (.cons (.ifs (.nt (.var 8))
   (.cons (.asg 4 (.lst .nil))
   (.cons (.cont)
   .nil))
   .nil)
  (.cons (.forr 9 (.slL (.var 4) (.bin .Sub (.bi .len (.var 4)) (.var 7)))
   (.cons (.sto (.var 3) (.var 9) (.non))
   .nil))
  (.cons (.asg 4 (.bin .Add (.slU (.var 4) (.bin .Sub (.bi .len (.var 4)) (.var 7))) (.lst (.cons (.var 5) .nil))))
  (.cons (.sto (.var 3) (.var 5) (.tup (.cons (.str 17) (.cons (.var 10) .nil))))
  .nil)))))))))))
 (.cons (.ret (.callG 12 (.cons (.var 3) .nil)))
 .nil)))))
noncomputable def p_is_taken : List Str := (["word", "value"] : List String).map Str.ofString
noncomputable def n_is_taken : List Str := (["word", "value"] : List String).map Str.ofString
noncomputable def m_is_taken : MSs :=
 (.cons (.ifs (.cmp .In (.var 0) (.tup (.cons (.str 31) (.cons (.str 34) .nil))))
  (.cons (.ret (.cmp .IsNot (.var 1) (.non)))
  .nil)
  .nil)
 (.cons (.ret (.cmp .Eq (.callG 0 (.cons (.var 1) .nil)) (.cmp .In (.var 0) (.tup (.cons (.str 30) (.cons (.str 32) .nil))))))
 .nil))
noncomputable def p_branch_rows : List Str := (["rows"] : List String).map Str.ofString
noncomputable def n_branch_rows : List Str := (["rows", "marks", "out", "at", "op", "is_jump"] : List String).map Str.ofString
noncomputable def m_branch_rows : MSs :=
 (.cons (.asg 1 (.callG 11 (.cons (.var 0) .nil)))
 (.cons (.asg 2 (.bi .list (.var 0)))
 (.cons (.forr 3 (.bi .range (.bin .Sub (.bi .len (.var 0)) (.int 1)))
  (.cons (.asg 4 (.idx (.var 0) (.bin .Add (.var 3) (.int 1))))
  (.cons (.ifs (.bop .Or (.more (.cmp .NotEq (.idx (.idx (.var 0) (.var 3)) (.int 0)) (.str 17)) (.more (.cmp .NotIn (.idx (.var 4) (.int 0)) (.glob 10)) (.one (.idx (.var 1) (.bin .Add (.var 3) (.int 1)))))))
   (.cons (.cont)
   .nil)
   .nil)
  (.cons (.asg 5 (.callG 16 (.cons (.idx (.var 4) (.int 0)) (.cons (.idx (.idx (.var 0) (.var 3)) (.int 1)) .nil))))
  (.cons (.sto (.var 2) (.bin .Add (.var 3) (.int 1)) (.ite (.var 5) (.tup (.cons (.str 28) (.cons (.idx (.var 4) (.int 1)) .nil))) (.non)))
  (.cons (.ifs (.bop .Or (.more (.nt (.var 5)) (.one (.cmp .In (.idx (.var 4) (.int 0)) (.tup (.cons (.str 29) (.cons (.str 30) (.cons (.str 31) .nil))))))))
   (.cons (.sto (.var 2) (.var 3) (.non))
   .nil)
   .nil)
  .nil))))))
 (.cons (.ret (.callG 12 (.cons (.var 2) .nil)))
 .nil))))
noncomputable def p_is_idle : List Str := (["first", "second"] : List String).map Str.ofString
noncomputable def n_is_idle : List Str := (["first", "second"] : List String).map Str.ofString
noncomputable def m_is_idle : MSs :=
 (.cons (.ifs (.bop .And (.more (.cmp .Eq (.idx (.var 1) (.int 0)) (.str 21)) (.one (.cmp .In (.idx (.var 0) (.int 0)) (.glob 8)))))
  (.cons (.ret (.bool true))
  .nil)
  .nil)
 (.cons (.ret (.cmp .In (.tup (.cons (.idx (.var 0) (.int 0)) (.cons (.idx (.var 1) (.int 0)) .nil))) (.glob 9)))
 .nil))
noncomputable def p_pair_rows : List Str := (["rows"] : List String).map Str.ofString
noncomputable def n_pair_rows : List Str := (["rows", "marks", "out", "at"] : List String).map Str.ofString
noncomputable def m_pair_rows : MSs :=
 (.cons (.asg 1 (.callG 11 (.cons (.var 0) .nil)))
 (.cons (.asg 2 (.bi .list (.var 0)))
 (.cons (.asg 3 (.int 0))
 (.cons (.whl (.cmp .Lt (.var 3) (.bin .Sub (.bi .len (.var 0)) (.int 1)))
  (.cons (.ifs (.bop .And (.more (.callG 18 (.cons (.idx (.var 0) (.var 3)) (.cons (.idx (.var 0) (.bin .Add (.var 3) (.int 1))) .nil))) (.one (.nt (.idx (.var 1) (.bin .Add (.var 3) (.int 1)))))))
   (.cons (.sto (.var 2) (.var 3) (.non))
   (.cons (.sto (.var 2) (.bin .Add (.var 3) (.int 1)) (.non))
   (.cons (.aug 3 (.int 1))
   .nil)))
   (.cons (.ifs (.bop .And (.more (.cmp .Eq (.idx (.idx (.var 0) (.var 3)) (.int 0)) (.str 27)) (.one (.cmp .Eq (.idx (.idx (.var 0) (.bin .Add (.var 3) (.int 1))) (.int 0)) (.str 27)))))
    (.cons (.sto (.var 2) (.var 3) (.non))
    .nil)
    .nil)
   .nil))
  (.cons (.aug 3 (.int 1))
  .nil)))
 (.cons (.ret (.callG 12 (.cons (.var 2) .nil)))
 .nil)))))
noncomputable def p_landing_row : List Str := (["rows", "at"] : List String).map Str.ofString
noncomputable def n_landing_row : List Str := (["rows", "at", "here", "turn"] : List String).map Str.ofString
noncomputable def m_landing_row : MSs :=
 (.cons (.asg 2 (.var 1))
 (.cons (.forr 3 (.bi .range (.bi .len (.var 0)))
  (.cons (.ifs (.bop .Or (.more (.cmp .GtE (.var 2) (.bi .len (.var 0))) (.one (.cmp .NotEq (.idx (.idx (.var 0) (.var 2)) (.int 0)) (.str 28)))))
   (.cons (.ret (.var 2))
   .nil)
   .nil)
  (.cons (.asg 2 (.idx (.idx (.var 0) (.var 2)) (.int 1)))
  .nil)))
 (.cons (.ret (.var 1))
 .nil)))
noncomputable def p_chained : List Str := (["op", "rows"] : List String).map Str.ofString
noncomputable def n_chained : List Str := (["op", "rows", "goal", "word", "there", "keeps", "leaves", "passes"] : List String).map Str.ofString
noncomputable def m_chained : MSs :=
 (.cons (.asg 2 (.idx (.var 0) (.int 1)))
 (.cons (.ifs (.cmp .GtE (.var 2) (.bi .len (.var 1)))
  (.cons (.ret (.var 0))
  .nil)
  .nil)
 (.cons (.asg 3 (.idx (.idx (.var 1) (.var 2)) (.int 0)))
 (.cons (.asg 4 (.ite (.cmp .In (.var 3) (.glob 10)) (.idx (.idx (.var 1) (.var 2)) (.int 1)) (.int 0)))
 (.cons (.ifs (.cmp .Eq (.idx (.var 0) (.int 0)) (.str 34))
  (.cons (.ifs (.cmp .Eq (.var 3) (.str 34))
   (.cons (.ret (.tup (.cons (.str 34) (.cons (.var 4) .nil))))
   .nil)
   .nil)
  (.cons (.ret (.ite (.cmp .Eq (.var 3) (.str 31)) (.tup (.cons (.str 31) (.cons (.var 4) .nil))) (.var 0)))
  .nil))
  .nil)
 (.cons (.unp [5, 6, 7] (.tup (.cons (.str 32) (.cons (.str 30) (.cons (.tup (.cons (.str 33) (.cons (.str 29) .nil))) .nil)))))
 (.cons (.ifs (.cmp .Eq (.idx (.var 0) (.int 0)) (.str 33))
  (.cons (.unp [5, 6, 7] (.tup (.cons (.str 33) (.cons (.str 29) (.cons (.tup (.cons (.str 32) (.cons (.str 30) .nil))) .nil)))))
  .nil)
  .nil)
 (.cons (.ifs (.cmp .Eq (.var 3) (.var 5))
  (.cons (.ret (.tup (.cons (.var 5) (.cons (.var 4) .nil))))
  .nil)
  .nil)
 (.cons (.ifs (.cmp .Eq (.var 3) (.var 6))
  (.cons (.ret (.tup (.cons (.var 6) (.cons (.var 4) .nil))))
  .nil)
  .nil)
 (.cons (.ret (.ite (.cmp .In (.var 3) (.var 7)) (.tup (.cons (.var 6) (.cons (.bin .Add (.var 2) (.int 1)) .nil))) (.var 0)))
 .nil))))))))))
noncomputable def p_thread_rows : List Str := (["rows"] : List String).map Str.ofString
noncomputable def n_thread_rows : List Str := (["rows", "out", "at", "op", "place"] : List String).map Str.ofString
noncomputable def m_thread_rows : MSs :=
 (.cons (.asg 1 (.lst .nil))
 (.cons (.forr 2 (.bi .range (.bi .len (.var 0)))
  (.cons (.asg 3 (.callG 6 (.cons (.idx (.var 0) (.var 2)) (.cons (.comp (.callG 20 (.cons (.var 0) (.cons (.var 4) .nil))) 4 (.callG 5 (.cons (.idx (.var 0) (.var 2)) .nil)) .nil) .nil))))
  (.cons (.ifs (.cmp .In (.idx (.var 3) (.int 0)) (.tup (.cons (.str 32) (.cons (.str 33) (.cons (.str 34) .nil)))))
   (.cons (.asg 3 (.callG 21 (.cons (.var 3) (.cons (.var 0) .nil))))
   .nil)
   .nil)
  (.cons (.ifs (.bop .And (.more (.cmp .Eq (.idx (.var 3) (.int 0)) (.str 28)) (.one (.cmp .Eq (.idx (.var 3) (.int 1)) (.bin .Add (.var 2) (.int 1))))))
   (.cons (.asg 3 (.non))
   .nil)
   (.cons (.ifs (.bop .And (.more (.cmp .In (.idx (.var 3) (.int 0)) (.tup (.cons (.str 29) (.cons (.str 30) (.cons (.str 31) .nil))))) (.one (.cmp .Eq (.idx (.var 3) (.int 1)) (.bin .Add (.var 2) (.int 1))))))
    (.cons (.asg 3 (.tup (.cons (.str 21) .nil)))
    .nil)
    .nil)
   .nil))
  (.cons (.ex (.meth .append (.var 1) (.cons (.var 3) .nil)))
  .nil)))))
 (.cons (.ret (.callG 12 (.cons (.var 1) .nil)))
 .nil)))
noncomputable def p_reached_rows : List Str := (["rows"] : List String).map Str.ofString
noncomputable def n_reached_rows : List Str := (["rows", "marks", "line", "at"] : List String).map Str.ofString
noncomputable def m_reached_rows : MSs :=
 (.cons (.asg 1 (.rep (.cons (.bool false) .nil) (.bi .len (.var 0))))
 (.cons (.asg 2 (.lst (.cons (.int 0) .nil)))
 (.cons (.whl (.var 2)
  (.cons (.asg 3 (.meth .pop (.var 2) .nil))
  (.cons (.ifs (.bop .Or (.more (.cmp .GtE (.var 3) (.bi .len (.var 0))) (.one (.idx (.var 1) (.var 3)))))
   (.cons (.cont)
   .nil)
   .nil)
  (.cons (.sto (.var 1) (.var 3) (.bool true))
  (.cons (.ex (.meth .extend (.var 2) (.cons (.callG 5 (.cons (.idx (.var 0) (.var 3)) .nil)) .nil)))
  (.cons (.ifs (.callG 7 (.cons (.idx (.var 0) (.var 3)) .nil))
   (.cons (.ex (.meth .append (.var 2) (.cons (.bin .Add (.var 3) (.int 1)) .nil)))
   .nil)
   .nil)
  .nil))))))
 (.cons (.ret (.var 1))
 .nil))))
noncomputable def p_live_rows : List Str := (["rows"] : List String).map Str.ofString
noncomputable def n_live_rows : List Str := (["rows", "marks", "at"] : List String).map Str.ofString
noncomputable def m_live_rows : MSs :=
 (.cons (.asg 1 (.callG 23 (.cons (.var 0) .nil)))
 (.cons (.ret (.callG 12 (.cons (.comp (.ite (.idx (.var 1) (.var 2)) (.idx (.var 0) (.var 2)) (.non)) 2 (.bi .range (.bi .len (.var 0))) .nil) .nil)))
 .nil))
noncomputable def p_improved_rows : List Str := (["rows", "compute", "rounds"] : List String).map Str.ofString
noncomputable def n_improved_rows : List Str := (["rows", "compute", "rounds", "turn", "later"] : List String).map Str.ofString
noncomputable def m_improved_rows : MSs :=
 (.cons (.forr 3 (.bi .range (.var 2))
  (.cons (.asg 4 (.callG 17 (.cons (.callG 15 (.cons (.var 0) (.cons (.var 1) .nil))) .nil)))
  (.cons (.asg 4 (.callG 24 (.cons (.callG 22 (.cons (.callG 19 (.cons (.var 4) .nil)) .nil)) .nil)))
  (.cons (.ifs (.cmp .Eq (.var 4) (.var 0))
   (.cons (.ret (.var 0))
   .nil)
   .nil)
  (.cons (.asg 0 (.var 4))
  .nil)))))
 (.cons (.ret (.var 0))
 .nil))
noncomputable def p_law_draw : List Str := (["pen", "many"] : List String).map Str.ofString
noncomputable def n_law_draw : List Str := (["pen", "many", "k"] : List String).map Str.ofString
noncomputable def m_law_draw : MSs :=
 (.cons (.asg 2 (.idx (.var 0) (.int 1)))
 (.cons (.sto (.var 0) (.int 1) (.bin .Add (.var 2) (.int 1)))
 (.cons (.ifs (.cmp .Lt (.var 2) (.bi .len (.idx (.var 0) (.int 0))))
  (.cons (.ret (.bin .Mod (.idx (.idx (.var 0) (.int 0)) (.var 2)) (.var 1)))
  .nil)
  .nil)
 (.cons (.ret (.bin .Mod (.bin .Add (.bin .Add (.bin .Mult (.int 7) (.var 2)) (.bin .FloorDiv (.var 2) (.int 3))) (.idx (.var 0) (.int 2))) (.var 1)))
 .nil))))
noncomputable def p_law_number : List Str := (["value"] : List String).map Str.ofString
noncomputable def n_law_number : List Str := (["value"] : List String).map Str.ofString
noncomputable def m_law_number : MSs :=
 (.cons (.ifs (.isi (.var 0) .int)
  (.cons (.ret (.var 0))
  .nil)
  .nil)
 (.cons (.ret (.ite (.cmp .Eq (.var 0) (.str 3)) (.int 7) (.int 0)))
 .nil))
noncomputable def p_law_text : List Str := (["value"] : List String).map Str.ofString
noncomputable def n_law_text : List Str := (["value"] : List String).map Str.ofString
noncomputable def m_law_text : MSs :=
 (.cons (.ret (.ite (.cmp .Is (.var 0) (.non)) (.str 0) (.ite (.isi (.var 0) .str) (.var 0) (.bin .Add (.bin .Add (.str 6) (.idx (.str 8) (.cmp .Gt (.var 0) (.int 0)))) (.str 7)))))
 .nil)
noncomputable def p_law_compute : List Str := (["op", "values"] : List String).map Str.ofString
noncomputable def n_law_compute : List Str := (["op", "values", "is_true", "x", "y"] : List String).map Str.ofString
noncomputable def m_law_compute : MSs :=
 (.cons (.ifs (.cmp .Eq (.idx (.var 0) (.int 0)) (.str 36))
  (.cons (.ret (.ite (.cmp .NotEq (.cmp .In (.idx (.var 1) (.int 0)) (.tup (.cons (.non) (.cons (.str 0) (.cons (.str 1) (.cons (.int 0) .nil)))))) (.cmp .In (.idx (.var 1) (.int 1)) (.tup (.cons (.non) (.cons (.str 0) (.cons (.str 1) (.cons (.int 0) .nil))))))) (.int 1) (.str 0)))
  .nil)
  .nil)
 (.cons (.ifs (.cmp .Eq (.idx (.var 0) (.int 0)) (.str 38))
  (.cons (.ret (.callG 28 (.cons (.idx (.var 1) (.int 0)) .nil)))
  .nil)
  .nil)
 (.cons (.ifs (.cmp .Eq (.idx (.var 0) (.int 0)) (.str 37))
  (.cons (.asg 2 (.cmp .NotIn (.idx (.var 1) (.int 0)) (.tup (.cons (.non) (.cons (.str 0) (.cons (.str 1) (.cons (.int 0) .nil)))))))
  (.cons (.ret (.ite (.cmp .Eq (.idx (.var 0) (.int 1)) (.str 16)) (.neg (.callG 27 (.cons (.idx (.var 1) (.int 0)) .nil))) (.ite (.var 2) (.str 0) (.int 1))))
  .nil))
  .nil)
 (.cons (.swp [3, 4] (.cons (.callG 27 (.cons (.idx (.var 1) (.int 0)) .nil)) (.cons (.callG 27 (.cons (.idx (.var 1) (.int 1)) .nil)) .nil)))
 (.cons (.ifs (.cmp .Eq (.idx (.var 0) (.int 1)) (.str 14))
  (.cons (.ifs (.cmp .Eq (.var 4) (.int 0))
   (.cons (.die)
   .nil)
   .nil)
  (.cons (.ret (.bin .FloorDiv (.var 3) (.var 4)))
  .nil))
  .nil)
 (.cons (.ret (.dsel [12, 11, 13] [.bin .Add (.var 3) (.var 4), .bin .Sub (.var 3) (.var 4), .bin .Mod (.bin .Mult (.var 3) (.var 4)) (.int 100)] 0 1))
 .nil))))))
noncomputable def p_law_jump : List Str := (["op", "stack"] : List String).map Str.ofString
noncomputable def n_law_jump : List Str := (["op", "stack", "value", "is_so"] : List String).map Str.ofString
noncomputable def m_law_jump : MSs :=
 (.cons (.ifs (.cmp .Eq (.idx (.var 0) (.int 0)) (.str 28))
  (.cons (.ret (.idx (.var 0) (.int 1)))
  .nil)
  .nil)
 (.cons (.asg 2 (.idx (.var 1) (.neg (.int 1))))
 (.cons (.asg 3 (.ite (.cmp .In (.idx (.var 0) (.int 0)) (.tup (.cons (.str 31) (.cons (.str 34) .nil)))) (.cmp .IsNot (.var 2) (.non)) (.cmp .NotIn (.var 2) (.tup (.cons (.non) (.cons (.str 0) (.cons (.str 1) (.cons (.int 0) .nil))))))))
 (.cons (.ifs (.cmp .In (.idx (.var 0) (.int 0)) (.tup (.cons (.str 33) (.cons (.str 29) .nil))))
  (.cons (.asg 3 (.nt (.var 3)))
  .nil)
  .nil)
 (.cons (.ifs (.bop .Or (.more (.nt (.var 3)) (.one (.cmp .In (.idx (.var 0) (.int 0)) (.tup (.cons (.str 29) (.cons (.str 30) (.cons (.str 31) .nil))))))))
  (.cons (.ex (.meth .pop (.var 1) .nil))
  .nil)
  .nil)
 (.cons (.ret (.ite (.var 3) (.idx (.var 0) (.int 1)) (.non)))
 .nil))))))
noncomputable def p_law_run : List Str := (["rows", "fuel"] : List String).map Str.ofString
noncomputable def n_law_run : List Str := (["rows", "fuel", "turn", "stack", "told", "at", "line", "scopes", "begun", "op", "count", "values", "value", "goal"] : List String).map Str.ofString
noncomputable def m_law_run : MSs :=
 (.cons (.unp [3, 4, 5, 6, 7, 8] (.tup (.cons (.lst .nil) (.cons (.lst .nil) (.cons (.int 0) (.cons (.int 0) (.cons (.int 0) (.cons (.int 0) .nil))))))))
 (.cons (.forr 2 (.bi .range (.var 1))
  (.cons (.asg 9 (.idx (.var 0) (.var 5)))
  (.cons (.asg 5 (.bin .Add (.var 5) (.int 1)))
  (.cons (.ifs (.cmp .Eq (.idx (.var 9) (.int 0)) (.str 17))
   (.cons (.ex (.meth .append (.var 3) (.cons (.idx (.var 9) (.int 1)) .nil)))
   .nil)
   (.cons (.ifs (.cmp .In (.idx (.var 9) (.int 0)) (.tup (.cons (.str 35) (.cons (.str 37) (.cons (.str 38) (.cons (.str 36) .nil))))))
    (.cons (.asg 10 (.ite (.cmp .In (.idx (.var 9) (.int 0)) (.tup (.cons (.str 35) (.cons (.str 36) .nil)))) (.int 2) (.int 1)))
    (.cons (.asg 11 (.slL (.var 3) (.bin .Sub (.bi .len (.var 3)) (.var 10))))
    (.cons (.asg 3 (.slU (.var 3) (.bin .Sub (.bi .len (.var 3)) (.var 10))))
    (.cons (.tryE (.meth .append (.var 3) (.cons (.callG 29 (.cons (.var 9) (.cons (.var 11) .nil))) .nil)) (.tup2 (.var 4) (.tup2 (.str 45) (.var 6))))
    .nil))))
    (.cons (.ifs (.cmp .In (.idx (.var 9) (.int 0)) (.tup (.cons (.str 21) (.cons (.str 39) .nil))))
     (.cons (.asg 12 (.meth .pop (.var 3) .nil))
     (.cons (.ifs (.cmp .Eq (.idx (.var 9) (.int 0)) (.str 39))
      (.cons (.ex (.meth .append (.var 4) (.cons (.tup (.cons (.idx (.var 9) (.int 1)) (.cons (.var 12) (.cons (.var 7) (.cons (.var 8) .nil))))) .nil)))
      (.cons (.ifs (.cmp .Eq (.idx (.var 9) (.int 1)) (.str 41))
       (.cons (.ex (.meth .append (.var 3) (.cons (.var 12) .nil)))
       .nil)
       .nil)
      .nil))
      .nil)
     .nil))
     (.cons (.ifs (.cmp .Eq (.idx (.var 9) (.int 0)) (.str 19))
      (.cons (.ex (.meth .append (.var 3) (.cons (.idx (.var 3) (.neg (.int 1))) .nil)))
      .nil)
      (.cons (.ifs (.cmp .Eq (.idx (.var 9) (.int 0)) (.str 22))
       (.cons (.asg 3 (.bin .Add (.slU (.var 3) (.neg (.int 2))) (.lst (.cons (.idx (.var 3) (.neg (.int 1))) (.cons (.idx (.var 3) (.neg (.int 2))) .nil)))))
       .nil)
       (.cons (.ifs (.cmp .Eq (.idx (.var 9) (.int 0)) (.str 27))
        (.cons (.asg 6 (.idx (.var 9) (.int 1)))
        .nil)
        (.cons (.ifs (.cmp .In (.idx (.var 9) (.int 0)) (.tup (.cons (.str 25) (.cons (.str 26) .nil))))
         (.cons (.asg 7 (.bin .Add (.var 7) (.ite (.cmp .Eq (.idx (.var 9) (.int 0)) (.str 25)) (.int 1) (.neg (.int 1)))))
         .nil)
         (.cons (.ifs (.cmp .In (.idx (.var 9) (.int 0)) (.tup (.cons (.str 23) (.cons (.str 24) .nil))))
          (.cons (.asg 8 (.bin .Add (.var 8) (.ite (.cmp .Eq (.idx (.var 9) (.int 0)) (.str 23)) (.int 1) (.neg (.int 1)))))
          .nil)
          (.cons (.ifs (.bop .Or (.more (.cmp .Eq (.idx (.var 9) (.int 0)) (.str 42)) (.one (.cmp .Eq (.idx (.var 9) (.int 0)) (.str 43)))))
           (.cons (.ret (.tup (.cons (.var 4) (.cons (.tup (.cons (.str 46) (.cons (.ite (.cmp .Eq (.idx (.var 9) (.int 0)) (.str 43)) (.idx (.var 3) (.neg (.int 1))) (.non)) .nil))) .nil))))
           .nil)
           (.cons (.asg 13 (.callG 30 (.cons (.var 9) (.cons (.var 3) .nil))))
           (.cons (.asg 5 (.ite (.cmp .Is (.var 13) (.non)) (.var 5) (.var 13)))
           .nil)))
          .nil))
         .nil))
        .nil))
       .nil))
      .nil))
     .nil))
    .nil))
   .nil))
  .nil))))
 (.cons (.ret (.tup (.cons (.var 4) (.cons (.non) .nil))))
 .nil)))
noncomputable def p_law_expr : List Str := (["pen", "rows", "deep"] : List String).map Str.ofString
noncomputable def n_law_expr : List Str := (["pen", "rows", "deep", "way", "at", "middle"] : List String).map Str.ofString
noncomputable def m_law_expr : MSs :=
 (.cons (.asg 3 (.ite (.cmp .Gt (.var 2) (.int 0)) (.callG 26 (.cons (.var 0) (.cons (.int 12) .nil))) (.int 0)))
 (.cons (.ifs (.cmp .Lt (.var 3) (.int 2))
  (.cons (.ex (.meth .append (.var 1) (.cons (.tup (.cons (.str 17) (.cons (.idx (.tup (.cons (.non) (.cons (.str 0) (.cons (.str 1) (.cons (.int 0) (.cons (.int 5) (.cons (.neg (.int 3)) (.cons (.str 2) (.cons (.str 3) .nil))))))))) (.callG 26 (.cons (.var 0) (.cons (.int 8) .nil)))) .nil))) .nil)))
  .nil)
  (.cons (.ifs (.cmp .Lt (.var 3) (.int 4))
   (.cons (.ex (.callG 32 (.cons (.var 0) (.cons (.var 1) (.cons (.bin .Sub (.var 2) (.int 1)) .nil)))))
   (.cons (.ex (.callG 32 (.cons (.var 0) (.cons (.var 1) (.cons (.bin .Sub (.var 2) (.int 1)) .nil)))))
   (.cons (.ex (.meth .append (.var 1) (.cons (.tup (.cons (.str 35) (.cons (.idx (.tup (.cons (.str 12) (.cons (.str 11) (.cons (.str 13) (.cons (.str 14) .nil))))) (.callG 26 (.cons (.var 0) (.cons (.int 4) .nil)))) .nil))) .nil)))
   .nil)))
   (.cons (.ifs (.cmp .Eq (.var 3) (.int 4))
    (.cons (.ex (.callG 32 (.cons (.var 0) (.cons (.var 1) (.cons (.bin .Sub (.var 2) (.int 1)) .nil)))))
    (.cons (.ex (.meth .append (.var 1) (.cons (.idx (.lst (.cons (.tup (.cons (.str 37) (.cons (.str 15) .nil))) (.cons (.tup (.cons (.str 37) (.cons (.str 16) .nil))) (.cons (.tup (.cons (.str 38) .nil)) .nil)))) (.callG 26 (.cons (.var 0) (.cons (.int 3) .nil)))) .nil)))
    .nil))
    (.cons (.ifs (.cmp .Eq (.var 3) (.int 5))
     (.cons (.ex (.callG 32 (.cons (.var 0) (.cons (.var 1) (.cons (.bin .Sub (.var 2) (.int 1)) .nil)))))
     (.cons (.ex (.callG 32 (.cons (.var 0) (.cons (.var 1) (.cons (.bin .Sub (.var 2) (.int 1)) .nil)))))
     (.cons (.ex (.meth .append (.var 1) (.cons (.tup (.cons (.str 36) .nil)) .nil)))
     .nil)))
     (.cons (.ifs (.cmp .Lt (.var 3) (.int 9))
      (.cons (.ex (.callG 32 (.cons (.var 0) (.cons (.var 1) (.cons (.bin .Sub (.var 2) (.int 1)) .nil)))))
      (.cons (.asg 4 (.bi .len (.var 1)))
      (.cons (.ex (.meth .append (.var 1) (.cons (.tup (.cons (.str 21) .nil)) .nil)))
      (.cons (.ex (.callG 32 (.cons (.var 0) (.cons (.var 1) (.cons (.bin .Sub (.var 2) (.int 1)) .nil)))))
      (.cons (.sto (.var 1) (.var 4) (.tup (.cons (.idx (.tup (.cons (.str 32) (.cons (.str 33) (.cons (.str 34) .nil)))) (.callG 26 (.cons (.var 0) (.cons (.int 3) .nil)))) (.cons (.bi .len (.var 1)) .nil))))
      .nil)))))
      (.cons (.ifs (.cmp .Eq (.var 3) (.int 9))
       (.cons (.ex (.callG 32 (.cons (.var 0) (.cons (.var 1) (.cons (.bin .Sub (.var 2) (.int 1)) .nil)))))
       (.cons (.asg 4 (.bi .len (.var 1)))
       (.cons (.ex (.meth .append (.var 1) (.cons (.tup (.cons (.str 21) .nil)) .nil)))
       (.cons (.ex (.callG 32 (.cons (.var 0) (.cons (.var 1) (.cons (.bin .Sub (.var 2) (.int 1)) .nil)))))
       (.cons (.ex (.meth .append (.var 1) (.cons (.tup (.cons (.str 21) .nil)) .nil)))
       (.cons (.sto (.var 1) (.var 4) (.tup (.cons (.idx (.tup (.cons (.str 29) (.cons (.str 30) (.cons (.str 31) .nil)))) (.callG 26 (.cons (.var 0) (.cons (.int 3) .nil)))) (.cons (.bi .len (.var 1)) .nil))))
       (.cons (.asg 5 (.bin .Sub (.bi .len (.var 1)) (.int 1)))
       (.cons (.ex (.callG 32 (.cons (.var 0) (.cons (.var 1) (.cons (.bin .Sub (.var 2) (.int 1)) .nil)))))
       (.cons (.sto (.var 1) (.var 5) (.tup (.cons (.str 28) (.cons (.bi .len (.var 1)) .nil))))
       .nil)))))))))
       (.cons (.ifs (.cmp .Eq (.var 3) (.int 10))
        (.cons (.ex (.callG 32 (.cons (.var 0) (.cons (.var 1) (.cons (.bin .Sub (.var 2) (.int 1)) .nil)))))
        (.cons (.ex (.meth .extend (.var 1) (.cons (.idx (.lst (.cons (.lst (.cons (.tup (.cons (.str 19) .nil)) (.cons (.tup (.cons (.str 21) .nil)) .nil))) (.cons (.lst (.cons (.tup (.cons (.str 17) (.cons (.int 1) .nil))) (.cons (.tup (.cons (.str 22) .nil)) (.cons (.tup (.cons (.str 22) .nil)) (.cons (.tup (.cons (.str 21) .nil)) .nil))))) .nil))) (.callG 26 (.cons (.var 0) (.cons (.int 2) .nil)))) .nil)))
        .nil))
        (.cons (.ex (.callG 32 (.cons (.var 0) (.cons (.var 1) (.cons (.bin .Sub (.var 2) (.int 1)) .nil)))))
        (.cons (.ex (.meth .append (.var 1) (.cons (.tup (.cons (.str 39) (.cons (.str 41) (.cons (.int 1) (.cons (.int 1) .nil))))) .nil)))
        .nil)))
       .nil))
      .nil))
     .nil))
    .nil))
   .nil))
  .nil))
 .nil))
noncomputable def p_law_statement : List Str := (["pen", "rows", "many"] : List String).map Str.ofString
noncomputable def n_law_statement : List Str := (["pen", "rows", "many", "way"] : List String).map Str.ofString
noncomputable def m_law_statement : MSs :=
 (.cons (.asg 3 (.callG 26 (.cons (.var 0) (.cons (.int 10) .nil))))
 (.cons (.ifs (.cmp .Eq (.var 3) (.int 9))
  (.cons (.ex (.meth .append (.var 1) (.cons (.idx (.lst (.cons (.tup (.cons (.str 27) (.cons (.callG 26 (.cons (.var 0) (.cons (.int 9) .nil))) .nil))) (.cons (.tup (.cons (.str 23) .nil)) (.cons (.tup (.cons (.str 24) .nil)) (.cons (.tup (.cons (.str 25) .nil)) (.cons (.tup (.cons (.str 26) .nil)) .nil)))))) (.callG 26 (.cons (.var 0) (.cons (.int 5) .nil)))) .nil)))
  (.cons (.ret0)
  .nil))
  .nil)
 (.cons (.ifs (.cmp .Eq (.var 3) (.int 8))
  (.cons (.ex (.meth .append (.var 1) (.cons (.tup (.cons (.str 28) (.cons (.tup (.cons (.str 44) (.cons (.callG 26 (.cons (.var 0) (.cons (.var 2) .nil))) .nil))) .nil))) .nil)))
  (.cons (.ret0)
  .nil))
  .nil)
 (.cons (.ex (.callG 32 (.cons (.var 0) (.cons (.var 1) (.cons (.int 2) .nil)))))
 (.cons (.ifs (.cmp .Lt (.var 3) (.int 4))
  (.cons (.ex (.meth .append (.var 1) (.cons (.tup (.cons (.str 39) (.cons (.str 40) (.cons (.int 1) (.cons (.int 0) .nil))))) .nil)))
  .nil)
  (.cons (.ifs (.cmp .Eq (.var 3) (.int 4))
   (.cons (.ex (.meth .append (.var 1) (.cons (.tup (.cons (.str 21) .nil)) .nil)))
   .nil)
   (.cons (.ifs (.cmp .Eq (.var 3) (.int 5))
    (.cons (.ex (.meth .append (.var 1) (.cons (.tup (.cons (.str 43) .nil)) .nil)))
    .nil)
    (.cons (.ex (.meth .append (.var 1) (.cons (.tup (.cons (.idx (.tup (.cons (.str 29) (.cons (.str 30) .nil))) (.bin .Sub (.var 3) (.int 6))) (.cons (.tup (.cons (.str 44) (.cons (.callG 26 (.cons (.var 0) (.cons (.var 2) .nil))) .nil))) .nil))) .nil)))
    .nil))
   .nil))
  .nil))
 .nil)))))
noncomputable def p_law_rows : List Str := (["pen", "many"] : List String).map Str.ofString
noncomputable def n_law_rows : List Str := (["pen", "many", "rows", "starts", "turn", "out", "op"] : List String).map Str.ofString
noncomputable def m_law_rows : MSs :=
 (.cons (.asg 2 (.lst .nil))
 (.cons (.asg 3 (.lst .nil))
 (.cons (.forr 4 (.bi .range (.var 1))
  (.cons (.ex (.meth .append (.var 3) (.cons (.bi .len (.var 2)) .nil)))
  (.cons (.ex (.callG 33 (.cons (.var 0) (.cons (.var 2) (.cons (.bin .Add (.var 1) (.int 1)) .nil)))))
  .nil)))
 (.cons (.ex (.meth .append (.var 3) (.cons (.bi .len (.var 2)) .nil)))
 (.cons (.ex (.meth .append (.var 2) (.cons (.tup (.cons (.str 42) .nil)) .nil)))
 (.cons (.asg 5 (.lst .nil))
 (.cons (.forr 6 (.var 2)
  (.cons (.ifs (.bop .And (.more (.cmp .Eq (.bi .len (.var 6)) (.int 2)) (.one (.isi (.idx (.var 6) (.int 1)) .tup))))
   (.cons (.asg 6 (.tup (.cons (.idx (.var 6) (.int 0)) (.cons (.idx (.var 3) (.idx (.idx (.var 6) (.int 1)) (.int 1))) .nil))))
   .nil)
   .nil)
  (.cons (.ex (.meth .append (.var 5) (.cons (.var 6) .nil)))
  .nil)))
 (.cons (.ret (.var 5))
 .nil))))))))
noncomputable def p_law_passed : List Str := (["rows", "way"] : List String).map Str.ofString
noncomputable def n_law_passed : List Str := (["rows", "way"] : List String).map Str.ofString
noncomputable def m_law_passed : MSs :=
 (.cons (.ifs (.cmp .Eq (.var 1) (.int 0))
  (.cons (.ret (.callG 15 (.cons (.var 0) (.cons (.glob 29) .nil))))
  .nil)
  .nil)
 (.cons (.ifs (.cmp .Eq (.var 1) (.int 1))
  (.cons (.ret (.callG 17 (.cons (.var 0) .nil)))
  .nil)
  .nil)
 (.cons (.ifs (.cmp .Eq (.var 1) (.int 2))
  (.cons (.ret (.callG 19 (.cons (.var 0) .nil)))
  .nil)
  .nil)
 (.cons (.ifs (.cmp .Eq (.var 1) (.int 3))
  (.cons (.ret (.callG 22 (.cons (.var 0) .nil)))
  .nil)
  .nil)
 (.cons (.ret (.callG 24 (.cons (.var 0) .nil)))
 .nil)))))
noncomputable def p_law : List Str := (["script"] : List String).map Str.ofString
noncomputable def n_law : List Str := (["script", "pen", "way", "rows", "before", "later", "told", "end", "told_later", "end_later"] : List String).map Str.ofString
noncomputable def m_law : MSs :=
 (.cons (.asg 1 (.lst (.cons (.slU (.var 0) (.int 60)) (.cons (.int 0) (.cons (.bin .Mod (.bi .abs (.bi .sum (.slU (.var 0) (.int 60)))) (.int 7)) .nil)))))
 (.cons (.asg 2 (.callG 26 (.cons (.var 1) (.cons (.int 5) .nil))))
 (.cons (.asg 3 (.callG 34 (.cons (.var 1) (.cons (.bin .Add (.int 1) (.callG 26 (.cons (.var 1) (.cons (.int 3) .nil)))) .nil))))
 (.cons (.asg 4 (.bi .repr (.var 3)))
 (.cons (.unp [6, 7] (.callG 31 (.cons (.var 3) (.cons (.int 60) .nil))))
 (.cons (.forr 5 (.tup (.cons (.callG 35 (.cons (.var 3) (.cons (.var 2) .nil))) (.cons (.callG 25 (.cons (.var 3) (.cons (.glob 29) (.cons (.bin .Add (.int 1) (.bin .Mod (.var 2) (.int 2))) .nil)))) .nil)))
  (.cons (.ifs (.bop .Or (.more (.cmp .NotEq (.bi .repr (.var 3)) (.var 4)) (.one (.cmp .Gt (.bi .len (.var 5)) (.bi .len (.var 3))))))
   (.cons (.ret (.bool false))
   .nil)
   .nil)
  (.cons (.unp [8, 9] (.callG 31 (.cons (.var 5) (.cons (.int 60) .nil))))
  (.cons (.ifs (.bop .And (.more (.cmp .IsNot (.var 7) (.non)) (.one (.cmp .NotEq (.bi .repr (.tup (.cons (.var 8) (.cons (.var 9) .nil)))) (.bi .repr (.tup (.cons (.var 6) (.cons (.var 7) .nil))))))))
   (.cons (.ret (.bool false))
   .nil)
   .nil)
  (.cons (.ifs (.cmp .NotEq (.bi .repr (.slU (.var 8) (.bi .len (.var 6)))) (.bi .repr (.var 6)))
   (.cons (.ret (.bool false))
   .nil)
   .nil)
  .nil)))))
 (.cons (.ret (.bool true))
 .nil)))))))
end Mine
namespace Mine
/-! ## rows -/
inductive Val where
  | non
  | int (i : Int)
  | str (k : Nat)
  deriving DecidableEq
noncomputable def Val.v : Val → V
  | .non => .non
  | .int i => .int i
  | .str k => .str k
inductive J where | jump | iff | ift | ifd | orj | andj | dorj
  deriving DecidableEq
noncomputable def J.w : J → Nat
  | .jump => 28 | .iff => 29 | .ift => 30 | .ifd => 31 | .orj => 32 | .andj => 33 | .dorj => 34
inductive BO where | add | sub | mul | div
  deriving DecidableEq
noncomputable def BO.w : BO → Nat
  | .add => 12 | .sub => 11 | .mul => 13 | .div => 14
inductive UO where | nt | neg
  deriving DecidableEq
noncomputable def UO.w : UO → Nat
  | .nt => 15 | .neg => 16
inductive FW where | print | tick
  deriving DecidableEq
noncomputable def FW.w : FW → Nat
  | .print => 40 | .tick => 41
inductive Row where
  | const (v : Val)
  | bin (o : BO)
  | xor
  | un (o : UO)
  | text
  | drop
  | dup
  | swap
  | begin
  | settle
  | enter
  | leave
  | line (n : Int)
  | func (f : FW) (a b : Int)
  | jmp (j : J) (t : Nat)
  | ret0
  | ret1
  deriving DecidableEq
noncomputable def Row.v : Row → V
  | .const x => .tup [.str 17, x.v]
  | .bin o => .tup [.str 35, .str o.w]
  | .xor => .tup [.str 36]
  | .un o => .tup [.str 37, .str o.w]
  | .text => .tup [.str 38]
  | .drop => .tup [.str 21]
  | .dup => .tup [.str 19]
  | .swap => .tup [.str 22]
  | .begin => .tup [.str 23]
  | .settle => .tup [.str 24]
  | .enter => .tup [.str 25]
  | .leave => .tup [.str 26]
  | .line n => .tup [.str 27, .int n]
  | .func f a b => .tup [.str 39, .str f.w, .int a, .int b]
  | .jmp j t => .tup [.str j.w, .int t]
  | .ret0 => .tup [.str 42]
  | .ret1 => .tup [.str 43]
noncomputable def orv : Option Row → V
  | some r => r.v
  | none => .non
/-! ## the names of the top -/
theorem g0 : GLV[0]? = some (("truth" : Str), (.raw (.ref 21) : V)) := rfl
theorem g1 : GLV[1]? = some (("Die" : Str), (.raw (.ref 58) : V)) := rfl
theorem g2 : GLV[2]? = some (("SHAPES" : Str), (.raw (.ref 73) : V)) := rfl
theorem g3 : GLV[3]? = some (("LEAVING" : Str), (.tup [.str 28, .str 52, .str 42, .str 43, .str 53, .str 54, .str 55, .str 56] : V)) := rfl
theorem g4 : GLV[4]? = some (("shape_of" : Str), (.raw (.ref 210) : V)) := rfl
theorem g5 : GLV[5]? = some (("jumps_of" : Str), (.raw (.ref 215) : V)) := rfl
theorem g6 : GLV[6]? = some (("with_jumps" : Str), (.raw (.ref 222) : V)) := rfl
theorem g7 : GLV[7]? = some (("goes_on" : Str), (.raw (.ref 229) : V)) := rfl
theorem g8 : GLV[8]? = some (("PUSHES" : Str), (.tup [.str 17, .str 18, .str 19, .str 20] : V)) := rfl
theorem g9 : GLV[9]? = some (("IDLE_PAIRS" : Str), (.tup [.tup [.str 22, .str 22], .tup [.str 23, .str 24], .tup [.str 25, .str 26]] : V)) := rfl
theorem g10 : GLV[10]? = some (("BRANCHES" : Str), (.tup [.str 29, .str 30, .str 31, .str 32, .str 33, .str 34] : V)) := rfl
theorem g11 : GLV[11]? = some (("goal_marks" : Str), (.raw (.ref 242) : V)) := rfl
theorem g12 : GLV[12]? = some (("squeezed_rows" : Str), (.raw (.ref 247) : V)) := rfl
theorem g13 : GLV[13]? = some (("taken_consts" : Str), (.raw (.ref 254) : V)) := rfl
theorem g14 : GLV[14]? = some (("folded_value" : Str), (.raw (.ref 261) : V)) := rfl
theorem g15 : GLV[15]? = some (("fold_rows" : Str), (.raw (.ref 266) : V)) := rfl
theorem g16 : GLV[16]? = some (("is_taken" : Str), (.raw (.ref 273) : V)) := rfl
theorem g17 : GLV[17]? = some (("branch_rows" : Str), (.raw (.ref 280) : V)) := rfl
theorem g18 : GLV[18]? = some (("is_idle" : Str), (.raw (.ref 287) : V)) := rfl
theorem g19 : GLV[19]? = some (("pair_rows" : Str), (.raw (.ref 294) : V)) := rfl
theorem g20 : GLV[20]? = some (("landing_row" : Str), (.raw (.ref 301) : V)) := rfl
theorem g21 : GLV[21]? = some (("chained" : Str), (.raw (.ref 308) : V)) := rfl
theorem g22 : GLV[22]? = some (("thread_rows" : Str), (.raw (.ref 313) : V)) := rfl
theorem g23 : GLV[23]? = some (("reached_rows" : Str), (.raw (.ref 320) : V)) := rfl
theorem g24 : GLV[24]? = some (("live_rows" : Str), (.raw (.ref 325) : V)) := rfl
theorem g25 : GLV[25]? = some (("improved_rows" : Str), (.raw (.ref 332) : V)) := rfl
theorem g26 : GLV[26]? = some (("_law_draw" : Str), (.raw (.ref 339) : V)) := rfl
theorem g27 : GLV[27]? = some (("_law_number" : Str), (.raw (.ref 346) : V)) := rfl
theorem g28 : GLV[28]? = some (("_law_text" : Str), (.raw (.ref 353) : V)) := rfl
theorem g29 : GLV[29]? = some (("_law_compute" : Str), (.raw (.ref 360) : V)) := rfl
theorem g30 : GLV[30]? = some (("_law_jump" : Str), (.raw (.ref 367) : V)) := rfl
theorem g31 : GLV[31]? = some (("_law_run" : Str), (.raw (.ref 374) : V)) := rfl
theorem g32 : GLV[32]? = some (("_law_expr" : Str), (.raw (.ref 381) : V)) := rfl
theorem g33 : GLV[33]? = some (("_law_statement" : Str), (.raw (.ref 388) : V)) := rfl
theorem g34 : GLV[34]? = some (("_law_rows" : Str), (.raw (.ref 395) : V)) := rfl
theorem g35 : GLV[35]? = some (("_law_passed" : Str), (.raw (.ref 402) : V)) := rfl
/-! ## stores -/
noncomputable def Ext (σ σ' : Sto) : Prop := ∀ a l, σ a = some l → σ' a = some l
theorem Ext.refl (σ : Sto) : Ext σ σ := fun _ _ e => e
theorem Ext.trans {σ σ' σ'' : Sto} (a : Ext σ σ') (b : Ext σ' σ'') : Ext σ σ'' := fun _ _ e => b _ _ (a _ _ e)
theorem Ext.new {σ : Sto} {c : Addr} {l : List V} (h : σ c = none) : Ext σ (put σ c l) := fun a m e => by
  rw [put_ne (fun z => by subst z; rw [h] at e; cases e)]; exact e
theorem Ext.put {σ σ' : Sto} {c : Addr} {l : List V} (x : Ext σ σ') (h : σ c = none) : Ext σ (put σ' c l) := fun a m e => by
  rw [put_ne (fun z => by subst z; rw [h] at e; cases e)]; exact x _ _ e
theorem Ext.none {σ σ' : Sto} (x : Ext σ σ') {c : Addr} (h : σ' c = none) : σ c = none := by
  cases e : σ c with
  | none => rfl
  | some l => rw [x _ _ e] at h; cases h
theorem Ext.ne {σ : Sto} {a c : Addr} {l : List V} (h : σ a = some l) (hc : σ c = Option.none) : a ≠ c := fun z => by subst z; rw [h] at hc; cases hc
theorem FnOK.mono {K : Ctx} {m n : Nat} {f : Value} {S : FnSpec} (h : m ≤ n) (F : FnOK K m f S) : FnOK K n f S :=
  ⟨F.fn, fun A fr s vals ds σ Q X QQ E hA => F.ok A fr s vals ds σ Q X QQ E ⟨hA.handled, hA.frames, hA.guards, by have := hA.depth; lia, by have := hA.units; lia⟩⟩
/-- what a contract without a way out asks of the body -/
inductive BodP (K : Ctx) (n : Nat) (ps nm : List Str) (m : MSs) (ds : List V) (σ : Sto) (Q : V → Sto → Prop) : Prop
  | mk (hl : ds.length = ps.length) (h : m.vc K n (fun _ => False) (startL ds (nm.length - ps.length)) σ (endQ Q))
/-- a def that lets nothing fly -/
theorem fnPure {K : Ctx} {a : Addr} {ps nm : List Str} {m : MSs} {n : Nat} {Sp : FnSpec} (h : chkFn K.frag a ps nm m = true) (hv : ∀ ds σ Q X, Sp ds σ Q X → BodP K n ps nm m ds σ Q) : FnOK K (n + 1) (.ref a) Sp := by
  have F := fnIn (K := K) (n := n) (Sp := fun ds σ Q X => (X = fun _ => False) ∧ BodP K n ps nm m ds σ Q) h fun ds σ Q X hS => by
    obtain ⟨rfl, h1, h2⟩ := hS
    exact ⟨h1, .inl fun _ z => z, h2⟩
  exact ⟨F.fn, fun A fr s vals ds σ Q X QQ E hA I Fr r hS k kE => F.ok A fr s vals ds σ Q (fun _ => False) QQ E hA I Fr r ⟨rfl, hv ds σ Q X hS⟩ k fun e s' b => noBad (fun _ z => z) b⟩
end Mine
local macro_rules | `(tactic| walk_at "go") => `(tactic| first | refine Mine.oB ?_ | refine Mine.kont.next ?_ | refine Mine.kont.ret ?_ | refine Mine.kont.cont ?_ | refine Mine.lop.next ?_ | refine Mine.lop.cont ?_ | refine Mine.lop.ret ?_)
namespace Mine
theorem len_ok {l : List V} (h : Nat.ble l.length LB = true) : l.length ≤ LB := Nat.le_of_ble_eq_true h
theorem brkI {T E : RS} {Q : KS} {ρ : Loc} {σ : Sto} {b : Bool} (ht : b = true → T ρ σ Q) (hf : b = false → E ρ σ Q) : brk T E Q ρ (.bool b) σ := by
  cases b with
  | true => exact .t (ht rfl)
  | false => exact .f (hf rfl)
theorem boolI {P : Bool → Prop} (b : Bool) (ht : b = true → P true) (hf : b = false → P false) : P b := by
  cases b with
  | true => exact ht rfl
  | false => exact hf rfl
theorem put_put {σ : Sto} {c : Addr} {l m : List V} : put (put σ c l) c m = put σ c m := by
  funext b; unfold put; split <;> rfl
theorem boI_and {b : Bool} {P R : Prop} (ht : b = true → R) (hf : b = false → P) : vcBoI .And b P R := by
  cases b with
  | true => exact ht rfl
  | false => exact hf rfl
theorem boI_or {b : Bool} {P R : Prop} (ht : b = true → P) (hf : b = false → R) : vcBoI .Or b P R := by
  cases b with
  | true => exact ht rfl
  | false => exact hf rfl
theorem selfI {i : Int} {P : Prop} (e : (!(i == i)) = true) : P := by rw [beq_self_eq_true] at e; cases e
theorem ifI {b : Bool} {T F : Prop} (ht : b = true → T) (hf : b = false → F) : ifB b T F := by
  cases b with
  | true => exact ht rfl
  | false => exact hf rfl
theorem put_some {σ : Sto} {c : Addr} {l : List V} : put σ c l c ≠ none := by rw [put_self]; exact nofun
theorem take_snoc {α : Type} {l : List α} {k : Nat} {d : α} (h : l[k]? = some d) : l.take k ++ [d] = l.take (k + 1) := by rw [List.take_add_one, h]; rfl
theorem at_n {Q : V → Sto → Prop} {σ : Sto} {b c : Nat} (e : b = c) (h : Q (.int b) σ) : Q (.int c) σ := e ▸ h
theorem at_b {Q : V → Sto → Prop} {σ : Sto} {b c : Bool} (e : b = c) (h : Q (.bool b) σ) : Q (.bool c) σ := e ▸ h
noncomputable def Row.sh : Row → Nat
  | .const _ => 11 | .bin _ => 11 | .un _ => 11 | .line _ => 11 | .func _ _ _ => 57 | .jmp _ _ => 48 | _ => 0
noncomputable def Row.ab : Row → Int × Int
  | .const _ => (0, 1) | .bin _ => (2, 1) | .xor => (2, 1) | .un _ => (1, 1) | .text => (1, 1) | .drop => (1, 0) | .dup => (1, 2) | .swap => (2, 2) | .func _ _ _ => (0, 1) | .jmp .jump _ => (0, 0) | .jmp _ _ => (1, 0) | .ret1 => (1, 0) | _ => (0, 0)
noncomputable def Row.shape (r : Row) : V := .tup [.int r.ab.1, .int r.ab.2, .str r.sh]
noncomputable def shL : List (Nat × V) := [(17, .tup [.int 0, .int 1, .str 11]), (35, .tup [.int 2, .int 1, .str 11]), (36, .tup [.int 2, .int 1, .str 0]), (37, .tup [.int 1, .int 1, .str 11]), (38, .tup [.int 1, .int 1, .str 0]), (21, .tup [.int 1, .int 0, .str 0]), (19, .tup [.int 1, .int 2, .str 0]), (22, .tup [.int 2, .int 2, .str 0]), (23, .tup [.int 0, .int 0, .str 0]), (24, .tup [.int 0, .int 0, .str 0]), (25, .tup [.int 0, .int 0, .str 0]), (26, .tup [.int 0, .int 0, .str 0]), (27, .tup [.int 0, .int 0, .str 11]), (39, .tup [.int 0, .int 1, .str 57]), (28, .tup [.int 0, .int 0, .str 48]), (29, .tup [.int 1, .int 0, .str 48]), (30, .tup [.int 1, .int 0, .str 48]), (31, .tup [.int 1, .int 0, .str 48]), (32, .tup [.int 1, .int 0, .str 48]), (33, .tup [.int 1, .int 0, .str 48]), (34, .tup [.int 1, .int 0, .str 48]), (42, .tup [.int 0, .int 0, .str 0]), (43, .tup [.int 1, .int 0, .str 0])]
noncomputable def shTab (j : Nat) : Option V := shL.lookup j
noncomputable def Row.tg : Row → List V
  | .jmp _ t => [.int t]
  | _ => []
noncomputable def Row.to : Row → Nat → Row
  | .jmp j _, t => .jmp j t
  | r, _ => r
noncomputable def Row.w : Row → Nat
  | .const _ => 17 | .bin _ => 35 | .xor => 36 | .un _ => 37 | .text => 38 | .drop => 21 | .dup => 19 | .swap => 22 | .begin => 23 | .settle => 24 | .enter => 25 | .leave => 26 | .line _ => 27 | .func _ _ _ => 39 | .jmp j _ => j.w | .ret0 => 42 | .ret1 => 43
theorem ix_r0 {r : Row} {σ : Sto} {Q : V → Prop} (h : Q (.str r.w)) : vIdx r.v (.int 0) σ Q := by
  cases r <;> exact ⟨_, by decide, by decide, rfl, h⟩
noncomputable def Row.m : Row → Nat
  | .const _ => 1 | .bin _ => 1 | .un _ => 1 | .line _ => 1 | .func _ _ _ => 3 | .jmp _ _ => 1 | _ => 0
noncomputable def Row.k (r : Row) : Int := r.m
theorem sh_w {r : Row} : shTab r.w = some r.shape := by
  cases r with
  | jmp j t => cases j <;> rfl
  | _ => rfl
theorem len_r {r : Row} {σ : Sto} {Q : V → Sto → Prop} (h : Q (.int (1 + r.k)) σ) : vBi .len r.v σ Q := by
  cases r <;> exact ⟨len_ok rfl, h⟩
theorem len_sh {r : Row} {σ : Sto} {Q : V → Sto → Prop} (h : Q (.int r.k) σ) : vBi .len (.str r.sh) σ Q := by
  cases r <;> exact ⟨_, rfl, h⟩
noncomputable def Row.goes : Row → Bool
  | .jmp .jump _ => false | .ret0 => false | .ret1 => false | _ => true
noncomputable def Row.isJ : Row → Bool
  | .jmp _ _ => true
  | _ => false
noncomputable def Row.l (r : Row) : List V := match r.v with | .tup l => l | _ => []
theorem row_l (r : Row) : r.v = .tup r.l := by cases r <;> rfl
theorem row_len (r : Row) : r.l.length = r.m + 1 := by cases r <;> rfl
theorem m_le (r : Row) : r.m ≤ 3 := by cases r <;> exact Nat.le_of_ble_eq_true rfl
theorem pyAt_nat {l : List V} {n : Nat} : pyAt l (n : Int) = l[n]? := by simp [pyAt]
theorem ix_r {r : Row} {i : Nat} {d : V} {σ : Sto} {Q : V → Prop} (h : r.l[i]? = some d) (q : Q d) : vIdx r.v (.int i) σ Q := by
  rw [row_l r]
  have h2 : i ≤ 3 := Nat.le_trans (Nat.le_of_lt_succ (Nat.lt_of_lt_of_eq (List.getElem?_eq_some_iff.mp h).1 (row_len r))) (m_le r)
  exact ⟨d, by lia, by lia, pyAt_nat.trans h, q⟩
theorem sh_at {r : Row} {i : Nat} {σ : Sto} {Q : V → Prop} (h : i < r.m) (q : ∀ k, (k == 48) = r.isJ → Q (.str k)) : vIdx (.str r.sh) (.int i) σ Q := by
  cases r with
  | func f a b =>
    match i, h with
    | 0, _ => exact ⟨_, by decide, ⟨_, _, _, rfl, (rfl : symL[11]? = _), by decide, rfl, rfl⟩, q _ rfl⟩
    | 1, _ => exact ⟨_, by decide, ⟨_, _, _, rfl, (rfl : symL[49]? = _), by decide, rfl, rfl⟩, q _ rfl⟩
    | 2, _ => exact ⟨_, by decide, ⟨_, _, _, rfl, (rfl : symL[58]? = _), by decide, rfl, rfl⟩, q _ rfl⟩
  | _ => first
    | exact absurd h (Nat.not_lt_zero _)
    | (obtain rfl : i = 0 := Nat.lt_one_iff.mp h
       first
         | exact ⟨_, by decide, ⟨_, _, _, rfl, (rfl : symL[11]? = _), by decide, rfl, rfl⟩, q _ rfl⟩
         | exact ⟨_, by decide, ⟨_, _, _, rfl, (rfl : symL[48]? = _), by decide, rfl, rfl⟩, q _ rfl⟩)
/-! ## loops -/
noncomputable def rngL (n : Nat) : List V := (List.range n).map fun (k : Nat) => V.int (k : Int)
theorem it_n {n : Nat} {σ : Sto} : items? (.rng (n : Int)) σ = some (rngL n) := by
  exact if_pos (e := none) (show -1000000 ≤ (n : Int) by lia)
theorem rngL_len {n : Nat} : (rngL n).length = n := by rw [rngL, List.length_map, List.length_range]
theorem rngL_get {n k : Nat} {d : V} (h : (rngL n)[k]? = some d) : k < n ∧ d = .int k := by
  have hk : k < n := by have := (List.getElem?_eq_some_iff.mp h).1; rwa [rngL_len] at this
  rw [rngL, List.getElem?_map, List.getElem?_range hk] at h
  exact ⟨hk, (Option.some.inj h).symm⟩
theorem big_n {n : Nat} (h : n ≤ LB) : BigI n := by
  have : LB = 100000 := rfl
  constructor <;> lia
section
variable {X : Sto → Prop} {σ : Sto} {ρ : Loc} {i : Nat} {B : RS} {Q : KS} {m : Int} {n : Nat} {a : Addr} {l : List V} {body : Addr → (Sto → Prop) → V → Sto → Prop} {fin : V → Sto → Prop}
theorem for_rng (I : Nat → Loc → Sto → Prop) (e : m = n) (hX : ∀ σ, ¬ X σ) (hn : n ≤ LB) (h0 : I 0 ρ σ) (hs : ∀ (k : Nat) ρ σ, k < n → I k ρ σ → B (lset ρ i (some (.int k))) σ (lop (I (k + 1)) Q)) (he : ∀ ρ σ, I n ρ σ → Q .next ρ σ) :
    onSome (items? (.rng m) σ) fun items => ForC X (.rng m) items i B Q ρ σ := by
  subst e
  rw [it_n]
  refine ⟨hX, by rw [rngL_len]; exact hn, I, h0, fun k d ρ σ hk hI => ?_, fun ρ σ hI => ⟨trivial, he ρ σ (by rwa [rngL_len] at hI)⟩⟩
  obtain ⟨hk2, rfl⟩ := rngL_get hk
  exact ⟨trivial, hs k ρ σ hk2 hI⟩
theorem for_tup (I : Nat → Loc → Sto → Prop) (hX : ∀ σ, ¬ X σ) (hn : l.length ≤ LB) (h0 : I 0 ρ σ) (hs : ∀ (k : Nat) d ρ σ, l[k]? = some d → I k ρ σ → B (lset ρ i (some d)) σ (lop (I (k + 1)) Q)) (he : ∀ ρ σ, I l.length ρ σ → Q .next ρ σ) :
    onSome (items? (.tup l) σ) fun items => ForC X (.tup l) items i B Q ρ σ :=
  ⟨hX, hn, I, h0, fun k d ρ σ hk hI => ⟨trivial, hs k d ρ σ hk hI⟩, fun ρ σ hI => ⟨trivial, he ρ σ hI⟩⟩
theorem for_list (I : Nat → Loc → Sto → Prop) (ha : σ a = some l) (hX : ∀ σ, ¬ X σ) (hn : l.length ≤ LB) (h0 : I 0 ρ σ) (hl : ∀ k ρ σ, I k ρ σ → σ a = some l) (hs : ∀ (k : Nat) d ρ σ, l[k]? = some d → I k ρ σ → B (lset ρ i (some d)) σ (lop (I (k + 1)) Q))
    (he : ∀ ρ σ, I l.length ρ σ → Q .next ρ σ) : onSome (items? (.list a) σ) fun items => ForC X (.list a) items i B Q ρ σ := by
  show onSome (σ a) _
  rw [ha]
  exact ⟨hX, hn, I, h0, fun k d ρ σ hk hI => ⟨hl k ρ σ hI, hs k d ρ σ hk hI⟩, fun ρ σ hI => ⟨hl _ ρ σ hI, he ρ σ hI⟩⟩
theorem comp_rng (I : Addr → Nat → Sto → Prop) (e : m = n) (hX : ∀ σ, ¬ X σ) (hn : n ≤ LB) (h0 : ∀ c, σ c = none → I c 0 (put σ c [])) (hs : ∀ c, σ c = none → ∀ (k : Nat) σ, k < n → I c k σ → body c (I c (k + 1)) (.int k) σ) (he : ∀ c, σ c = none → ∀ σ, I c n σ → fin (.list c) σ) :
    onSome (items? (.rng m) σ) fun items => CompC X (.rng m) items σ fun c => CompI (.rng m) items σ c (body c) fin := by
  subst e
  rw [it_n]
  refine ⟨nofun, hX, by rw [rngL_len]; exact hn, fun c hc => ⟨I c, h0 c hc, fun k d σ hk hI => ?_, fun σ hI => ⟨trivial, he c hc σ (by rwa [rngL_len] at hI)⟩⟩⟩
  obtain ⟨hk2, rfl⟩ := rngL_get hk
  exact ⟨trivial, hs c hc k σ hk2 hI⟩
theorem comp_list (I : Addr → Nat → Sto → Prop) (ha : σ a = some l) (hX : ∀ σ, ¬ X σ) (hn : l.length ≤ LB) (h0 : ∀ c, σ c = none → I c 0 (put σ c [])) (hl : ∀ c, σ c = none → ∀ k σ, I c k σ → σ a = some l)
    (hs : ∀ c, σ c = none → ∀ (k : Nat) d σ, l[k]? = some d → I c k σ → body c (I c (k + 1)) d σ) (he : ∀ c, σ c = none → ∀ σ, I c l.length σ → fin (.list c) σ) :
    onSome (items? (.list a) σ) fun items => CompC X (.list a) items σ fun c => CompI (.list a) items σ c (body c) fin := by
  show onSome (σ a) _
  rw [ha]
  exact ⟨nofun, hX, hn, fun c hc => ⟨I c, h0 c hc, fun k d σ hk hI => ⟨hl c hc k σ hI, hs c hc k d σ hk hI⟩, fun σ hI => ⟨hl c hc _ σ hI, he c hc σ hI⟩⟩⟩
end
theorem noX : ∀ σ : Sto, ¬ (fun _ : Sto => False) σ := fun _ h => h
end Mine
namespace Mine
noncomputable def truthy : Val → Bool
  | .non => false
  | .int i => !(i == 0)
  | .str k => !(k == 0) && !(k == 1)
inductive S_truth (σ : Sto) (Q : V → Sto → Prop) (X : Sto → Prop) : List V → Prop
  | mk (x : Val) (h : Q (.bool (truthy x)) σ) : S_truth σ Q X [x.v]
theorem f_truth {K : Ctx} (h : chkFn K.frag 21 p_truth n_truth m_truth = true) : FnOK K 1 (.ref 21) fun ds σ Q X => S_truth σ Q X ds := fnPure h fun ds σ Q X hS => by
  induction hS with | mk x hq => ?_
  refine ⟨rfl, ?_⟩
  induction x with
  | non => (repeat first | walk_at "go"); exact hq
  | int i => (repeat first | walk_at "go"); exact boI_and (fun e => by (repeat first | walk_at "go"); exact at_b e hq) (fun e => .ret hq)
  | str k => (repeat first | walk_at "go"); exact boI_and (fun e => by (repeat first | walk_at "go"); exact at_b (congrArg (· && !(k == 1)) e) hq) (fun e => .ret (at_b ((congrArg (· && !(k == 1)) e).trans e.symm) hq))
noncomputable def isTruth (x : Val) : Bool := !(x == .non || x == .str 0 || x == .str 1 || x == .int 0)
inductive S_goes (σ : Sto) (Q : V → Sto → Prop) (X : Sto → Prop) : List V → Prop
  | mk (r : Row) (h : Q (.bool r.goes) σ) : S_goes σ Q X [r.v]
theorem f_goes_on {K : Ctx} (h : chkFn K.frag 229 p_goes_on n_goes_on m_goes_on = true) : FnOK K 1 (.ref 229) fun ds σ Q X => S_goes σ Q X ds := fnPure h fun ds σ Q X hS => by
  induction hS with | mk r hq => ?_
  refine ⟨rfl, ?_⟩
  (repeat first | walk_at "go" | refine ix_r0 ?_)
  refine at_b (b := r.goes) ?_ hq
  cases r with
  | jmp j t => cases j <;> rfl
  | _ => rfl
end Mine
namespace Mine
inductive S_shape (σ : Sto) (Q : V → Sto → Prop) (X : Sto → Prop) : List V → Prop
  | mk (r : Row) (h : Q r.shape σ) : S_shape σ Q X [r.v]
theorem f_shape_of {K : Ctx} (hT : DictOK K (.ref 73) shTab) (h : chkFn K.frag 210 p_shape_of n_shape_of m_shape_of = true) : FnOK K 1 (.ref 210) fun ds σ Q X => S_shape σ Q X ds := fnPure h fun ds σ Q X hS => by
  induction hS with | mk r hq => ?_
  refine ⟨rfl, ?_⟩
  (repeat first | walk_at "go" | refine ix_r0 ?_)
  refine ⟨shTab, _, hT, sh_w, .f (.next ?_)⟩
  (repeat first | walk_at "go" | refine ix_r0 ?_)
  refine ⟨shTab, _, hT, sh_w, ?_⟩
  (repeat first | walk_at "go" | refine len_r ?_)
  refine ⟨_, by decide, by decide, rfl, ?_⟩
  (repeat first | walk_at "go" | refine len_sh ?_)
  refine brkI selfI (fun _ => ?_)
  (repeat first | walk_at "go")
  exact hq
end Mine
namespace Mine
inductive S_jumps (σ : Sto) (Q : V → Sto → Prop) (X : Sto → Prop) : List V → Prop
  | mk (r : Row) (h : ∀ c, σ c = none → Q (.list c) (put σ c r.tg)) : S_jumps σ Q X [r.v]
theorem isJ_t {r : Row} (h : r.isJ = true) : ∃ j t, r = .jmp j t := by
  cases r with
  | jmp j t => exact ⟨j, t, rfl⟩
  | _ => exact ff h
theorem isJ_f {r : Row} (h : r.isJ = false) : r.tg = [] ∧ ∀ t, r.to t = r := by
  cases r with
  | jmp j t => exact ff h.symm
  | _ => exact ⟨rfl, fun _ => rfl⟩
theorem tg_m {r : Row} : r.tg.take r.m = r.tg := by cases r <;> rfl
theorem f_jumps_of {K : Ctx} (hs : FnOK K 1 (.ref 210) fun ds σ Q X => S_shape σ Q X ds) (h : chkFn K.frag 215 p_jumps_of n_jumps_of m_jumps_of = true) : FnOK K 2 (.ref 215) fun ds σ Q X => S_jumps σ Q X ds := fnPure h fun ds σ Q X hS => by
  induction hS with | mk r hq => ?_
  refine ⟨rfl, ?_⟩
  (repeat first | walk_at "go")
  refine ⟨_, 1, by decide, hs, .mk r ?_⟩
  (repeat first | walk_at "go")
  refine ⟨_, by decide, by decide, rfl, ?_⟩
  (repeat first | walk_at "go" | refine len_sh ?_)
  refine ⟨big_n (Nat.le_trans (m_le r) (by decide)), ?_⟩
  (repeat first | walk_at "go")
  refine comp_rng (fun c k σ' => σ' = put σ c (r.tg.take k)) rfl noX (Nat.le_trans (m_le r) (by decide)) (fun c hc => rfl) (fun c hc k σ' hk hI => ?_) (fun c hc σ' hI => ?_)
  · subst hI
    (repeat first | walk_at "go")
    refine sh_at hk fun kk e => ?_
    (repeat first | walk_at "go")
    refine ifI (fun e2 => ?_) (fun e2 => ?_)
    · obtain ⟨j, t, rfl⟩ := isJ_t (e.symm.trans e2)
      obtain rfl : k = 0 := Nat.lt_one_iff.mp hk
      (repeat first | walk_at "go")
      exact ⟨_, by decide, by decide, rfl, _, put_self _ _ _, Nat.le_of_ble_eq_true rfl, put_put⟩
    · rw [(isJ_f (e.symm.trans e2)).1]
      exact congrArg (put σ c) (List.take_nil.trans List.take_nil.symm)
  · subst hI
    rw [tg_m]
    (repeat first | walk_at "go")
    exact hq c hc
end Mine
namespace Mine
inductive S_with (σ : Sto) (Q : V → Sto → Prop) (X : Sto → Prop) : List V → Prop
  | mk (r : Row) (t' : Nat) (a : Addr) (l : List V) (ha : σ a = some l) (hl : ∀ j t, r = .jmp j t → l = [.int t']) (h : ∀ σ', Ext σ σ' → Q (r.to t').v σ') : S_with σ Q X [r.v, .list a]
theorem l_1 (r : Row) (t : Nat) : (r.to t).l.take 1 = [.str r.w] := by cases r <;> rfl
theorem to_m (r : Row) (t : Nat) : (r.to t).m = r.m := by cases r <;> rfl
theorem f_with_jumps {K : Ctx} (hs : FnOK K 1 (.ref 210) fun ds σ Q X => S_shape σ Q X ds) (h : chkFn K.frag 222 p_with_jumps n_with_jumps m_with_jumps = true) : FnOK K 2 (.ref 222) fun ds σ Q X => S_with σ Q X ds := fnPure h fun ds σ Q X hS => by
  induction hS with | mk r t' a l hl hlj hq => ?_
  refine ⟨rfl, ?_⟩
  (repeat first | walk_at "go")
  refine ⟨_, 1, by decide, hs, .mk r ?_⟩
  (repeat first | walk_at "go")
  refine ⟨_, by decide, by decide, rfl, ?_⟩
  (repeat first | walk_at "go" | refine ix_r0 ?_)
  refine ⟨len_ok rfl, fun c hc => ?_⟩
  (repeat first | walk_at "go" | refine len_sh ?_)
  refine ⟨big_n (Nat.le_trans (m_le r) (by decide)), ?_⟩
  (repeat first | walk_at "go")
  refine for_rng (fun k ρ σ' => ∃ o u, ρ = [some r.v, some (.list a), some (.str r.sh), some (.list c), some (.int u), o] ∧ (k = 0 → u = 0) ∧ σ' = put σ c ((r.to t').l.take (k + 1))) rfl noX (Nat.le_trans (m_le r) (by decide)) ⟨none, 0, rfl, fun _ => rfl, congrArg (put σ c) (l_1 r t').symm⟩ (fun k ρ σ' hk hI => ?_) (fun ρ σ' hI => ?_)
  · obtain ⟨o, u, rfl, hu, rfl⟩ := hI
    (repeat first | walk_at "go")
    refine sh_at hk fun kk e => ?_
    (repeat first | walk_at "go")
    refine brkI (fun e2 => ?_) (fun e2 => ?_)
    · obtain ⟨j, t, rfl⟩ := isJ_t (e.symm.trans e2)
      obtain rfl : k = 0 := Nat.lt_one_iff.mp hk
      obtain rfl := hu rfl
      obtain rfl := hlj j t rfl
      (repeat first | walk_at "go")
      refine ⟨put_some, ?_⟩
      (repeat first | walk_at "go")
      refine ⟨_, _, Ext.new hc _ _ hl, rfl, ?_⟩
      (repeat first | walk_at "go")
      refine ⟨_, put_self _ _ _, Nat.le_of_ble_eq_true rfl, ?_⟩
      (repeat first | walk_at "go")
      exact ⟨_, 1, rfl, nofun, put_put⟩
    · (repeat first | walk_at "go")
      refine ⟨put_some, ?_⟩
      have hg : r.l[k + 1]? = some (r.l[k + 1]'(by rw [row_len]; exact Nat.succ_lt_succ hk)) := List.getElem?_eq_getElem _
      (repeat first | walk_at "go")
      refine ix_r (i := k + 1) hg ?_
      rw [(isJ_f (e.symm.trans e2)).2]
      (repeat first | walk_at "go")
      refine ⟨_, put_self _ _ _, ?_, ?_⟩
      · rw [List.length_take]
        exact Nat.le_trans (Nat.succ_le_succ (Nat.min_le_left _ _)) (Nat.le_trans (Nat.succ_le_succ (Nat.succ_le_succ (Nat.le_trans (Nat.le_of_lt hk) (m_le r)))) (by decide))
      · (repeat first | walk_at "go")
        exact ⟨_, u, rfl, nofun, put_put.trans (congrArg (put σ c) (take_snoc hg))⟩
  · obtain ⟨o, u, rfl, hu, rfl⟩ := hI
    (repeat first | walk_at "go")
    refine ⟨_, put_self _ _ _, ?_⟩
    (repeat first | walk_at "go")
    rw [show V.tup ((r.to t').l.take (r.m + 1)) = (r.to t').v by rw [row_l, ← to_m r t', ← row_len, List.take_length]]
    exact hq _ (Ext.new hc)
end Mine
namespace Mine
/-! ## what rows do -/
noncomputable def num : Val → Int
  | .int i => i
  | .str k => if k == 3 then 7 else 0
  | .non => 0
noncomputable def isT (x : Val) : Bool := !(x == .non || x == .str 0 || x == .str 1 || x == .int 0)
noncomputable def txtV : Val → Val
  | .non => .str 0
  | .str k => .str k
  | .int i => .str (if 0 < i then 4 else 5)
noncomputable def unV : UO → Val → Val
  | .nt, x => if isT x then .str 0 else .int 1
  | .neg, x => .int (-(num x))
noncomputable def xorV (x y : Val) : Val := if isT x != isT y then .int 1 else .str 0
noncomputable def binV : BO → Val → Val → Option Val
  | .add, x, y => some (.int (num x + num y))
  | .sub, x, y => some (.int (num x - num y))
  | .mul, x, y => some (.int ((num x * num y).fmod 100))
  | .div, x, y => if num y = 0 then none else some (.int ((num x).fdiv (num y)))
noncomputable def Row.arity : Row → Nat
  | .bin _ => 2 | .xor => 2 | .un _ => 1 | .text => 1 | _ => 0
/-- what a row makes of constants, the last one last -/
noncomputable def on1V (vs : List Val) (f : Val → Val) : Option Val := match vs with | [x] => some (f x) | _ => none
noncomputable def on2V (vs : List Val) (f : Val → Val → Option Val) : Option Val := match vs with | [x, y] => f x y | _ => none
theorem on1V_some {vs : List Val} {f : Val → Val} {v : Val} (h : on1V vs f = some v) : ∃ x, vs = [x] ∧ f x = v := by
  match vs, h with
  | [x], h => cases h; exact ⟨x, rfl, rfl⟩
theorem on2V_some {vs : List Val} {f : Val → Val → Option Val} {v : Val} (h : on2V vs f = some v) : ∃ x y, vs = [x, y] ∧ f x y = some v := by
  match vs, h with
  | [x, y], h => exact ⟨x, y, rfl, h⟩
noncomputable def Row.made (r : Row) (vs : List Val) : Option Val := match r with
  | .bin o => on2V vs (binV o)
  | .xor => on2V vs fun x y => some (xorV x y)
  | .un o => on1V vs (unV o)
  | .text => on1V vs txtV
  | _ => none
structure St where
  stk : List Val
  at' : Nat
  ln : Int
  sc : Int
  bg : Int
structure Tell where
  f : FW
  x : Val
  sc : Int
  bg : Int
inductive Fin where
  | died (ln : Int)
  | done (x : Val)
inductive Out where
  | go (s : St) (t : List Tell)
  | fin (e : Fin)
noncomputable def J.pops : J → Bool
  | .iff => true | .ift => true | .ifd => true | _ => false
noncomputable def J.so : J → Val → Bool
  | .jump, _ => true
  | .iff, x => !isT x
  | .andj, x => !isT x
  | .ift, x => isT x
  | .orj, x => isT x
  | .ifd, x => !(x == .non)
  | .dorj, x => !(x == .non)
/-- what a row does, no matter where it stands -/
inductive Eff
  | go (stk : List Val) (ln sc bg : Int) (t : List Tell)
  | to (stk : List Val) (ln sc bg : Int) (u : Nat)
  | fin (e : Fin)
noncomputable def Eff.out (a : Nat) : Eff → Out
  | .go k l c b t => .go ⟨k, a, l, c, b⟩ t
  | .to k l c b u => .go ⟨k, u, l, c, b⟩ []
  | .fin e => .fin e
noncomputable def pop1 (k : List Val) (f : Val → List Val → Option Eff) : Option Eff := match k with | x :: q => f x q | [] => none
noncomputable def Eff.br (j : J) (t : Nat) (l c b : Int) (k : List Val) (x : Val) (q : List Val) : Eff := if j.so x then .to (if j.pops then q else k) l c b t else .go q l c b []
noncomputable def Eff.bn (l c b : Int) (q : List Val) : Option Val → Eff
  | some v => .go (v :: q) l c b []
  | none => .fin (.died l)
noncomputable def eff (r : Row) (k : List Val) (l c b : Int) : Option Eff := match r with
  | .const v => some (.go (v :: k) l c b [])
  | .bin o => pop1 k fun y q => pop1 q fun x q => some (.bn l c b q (binV o x y))
  | .xor => pop1 k fun y q => pop1 q fun x q => some (.go (xorV x y :: q) l c b [])
  | .un o => pop1 k fun x q => some (.go (unV o x :: q) l c b [])
  | .text => pop1 k fun x q => some (.go (txtV x :: q) l c b [])
  | .drop => pop1 k fun _ q => some (.go q l c b [])
  | .func f _ _ => pop1 k fun x q => some (.go (if f = .tick then x :: q else q) l c b [⟨f, x, c, b⟩])
  | .dup => pop1 k fun x q => some (.go (x :: x :: q) l c b [])
  | .swap => pop1 k fun x q => pop1 q fun y q => some (.go (y :: x :: q) l c b [])
  | .line n => some (.go k n c b [])
  | .enter => some (.go k l (c + 1) b [])
  | .leave => some (.go k l (c + -1) b [])
  | .begin => some (.go k l c (b + 1) [])
  | .settle => some (.go k l c (b + -1) [])
  | .ret0 => some (.fin (.done .non))
  | .ret1 => pop1 k fun x _ => some (.fin (.done x))
  | .jmp j t => match j with
    | .jump => some (.to k l c b t)
    | _ => pop1 k fun x q => some (.br j t l c b k x q)
noncomputable def exec (r : Row) (s : St) : Option Out := (eff r s.stk s.ln s.sc s.bg).map (Eff.out s.at')
theorem pop1_some {k : List Val} {f : Val → List Val → Option Eff} {e : Eff} (h : pop1 k f = some e) : ∃ x q, k = x :: q ∧ f x q = some e := by
  cases k with
  | nil => exact nns h
  | cons x q => exact ⟨x, q, rfl, h⟩
theorem eff_jmp {j : J} (hj : j ≠ .jump) {t : Nat} {k : List Val} {l c b : Int} : eff (.jmp j t) k l c b = pop1 k fun x q => some (.br j t l c b k x q) := by
  cases j <;> first | exact absurd rfl hj | rfl
noncomputable def Row.mapT (f : Nat → Nat) : Row → Row
  | .jmp j t => .jmp j (f t)
  | r => r
noncomputable def goesOn : Row → Bool
  | .jmp .jump _ => false
  | .ret0 => false
  | .ret1 => false
  | _ => true
/-- what stays where it is -/
noncomputable def Eff.goes : Eff → Bool
  | .go .. => true
  | _ => false
noncomputable def Eff.stays : Eff → Bool
  | .to .. => false
  | _ => true
/-- where a row leads, told apart -/
inductive EffC (r : Row) (k : List Val) (l c b : Int) : Eff → Prop
  | st {e : Eff} (h : e.stays = true) (g : e.goes = true → goesOn r = true) (m : ∀ f, eff (r.mapT f) k l c b = some e) : EffC r k l c b e
  | to {q : List Val} {j : J} {u : Nat} (h : r = .jmp j u) (m : ∀ f : Nat → Nat, eff (.jmp j (f u)) k l c b = some (.to q l c b (f u))) : EffC r k l c b (.to q l c b u)
theorem effG {r : Row} {k q : List Val} {l l' c c' b b' : Int} {t : List Tell} {e : Eff} (h : some (Eff.go q l' c' b' t) = some e) (g : goesOn r = true) (m : ∀ f, eff (r.mapT f) k l c b = some (Eff.go q l' c' b' t)) : EffC r k l c b e := by
  cases h; exact .st rfl (fun _ => g) m
theorem effF {r : Row} {k : List Val} {l c b : Int} {t : Fin} {e : Eff} (h : some (Eff.fin t) = some e) (m : ∀ f, eff (r.mapT f) k l c b = some (Eff.fin t)) : EffC r k l c b e := by
  cases h; exact .st rfl nofun m
theorem eff_cases {r : Row} {k : List Val} {l c b : Int} {e : Eff} (h : eff r k l c b = some e) : EffC r k l c b e := by
  cases r with
  | jmp j u =>
    by_cases hj : j = .jump
    · subst hj; cases h; exact .to rfl fun f => rfl
    · obtain ⟨x, q, rfl, h2⟩ := pop1_some ((eff_jmp hj).symm.trans h)
      have hm : ∀ v, eff (.jmp j v) (x :: q) l c b = some (.br j v l c b (x :: q) x q) := fun v => eff_jmp hj
      unfold Eff.br at hm h2
      cases hs : j.so x with
      | true => rw [hs] at h2 hm; cases h2; exact .to rfl fun f => hm (f u)
      | false => rw [hs] at h2 hm; cases h2; exact .st rfl (fun _ => by cases j <;> first | exact absurd rfl hj | rfl) fun f => hm (f u)
  | bin o =>
    obtain ⟨y, q, rfl, h2⟩ := pop1_some h
    obtain ⟨x, q, rfl, h3⟩ := pop1_some h2
    cases hb : binV o x y with
    | none => rw [hb] at h3; exact effF h3 fun f => congrArg (fun z => some (Eff.bn l c b q z)) hb
    | some v => rw [hb] at h3; exact effG h3 rfl fun f => congrArg (fun z => some (Eff.bn l c b q z)) hb
  | ret0 => exact effF h fun _ => rfl
  | ret1 => obtain ⟨x, q, rfl, h2⟩ := pop1_some h; exact effF h2 fun _ => rfl
  | xor => obtain ⟨y, q, rfl, h2⟩ := pop1_some h; obtain ⟨x, q, rfl, h3⟩ := pop1_some h2; exact effG h3 rfl fun _ => rfl
  | swap => obtain ⟨y, q, rfl, h2⟩ := pop1_some h; obtain ⟨x, q, rfl, h3⟩ := pop1_some h2; exact effG h3 rfl fun _ => rfl
  | _ => first
    | exact effG h rfl fun _ => rfl
    | (obtain ⟨x, q, rfl, h2⟩ := pop1_some h; exact effG h2 rfl fun _ => rfl)
theorem exec_eff {r : Row} {s : St} {o : Out} (h : exec r s = some o) : ∃ e, EffC r s.stk s.ln s.sc s.bg e ∧ eff r s.stk s.ln s.sc s.bg = some e ∧ Eff.out s.at' e = o := by
  obtain ⟨e, he, ho⟩ := Option.map_eq_some_iff.mp h
  exact ⟨e, eff_cases he, he, ho⟩
theorem exec_of {r : Row} {k : List Val} {a : Nat} {l c b : Int} {e : Eff} (h : eff r k l c b = some e) : exec r ⟨k, a, l, c, b⟩ = some (Eff.out a e) := by
  unfold exec; rw [show eff r _ _ _ _ = some e from h]; rfl
noncomputable abbrev Code := List (Option Row)
noncomputable def skipTo : Code → Nat → Nat
  | none :: r, i => skipTo r (i + 1)
  | _, i => i
noncomputable def nxt (C : Code) (i : Nat) : Nat := skipTo (C.drop i) i
noncomputable def step (C : Code) (s : St) : Option Out :=
  match C[nxt C s.at']? with
  | some (some r) => exec r { s with at' := nxt C s.at' + 1 }
  | _ => none
noncomputable abbrev Res := List Tell × (St ⊕ Fin)
noncomputable def run (C : Code) : Nat → St → Option Res
  | 0, s => some ([], .inl s)
  | n + 1, s => match step C s with
    | none => none
    | some (.fin e) => some ([], .inr e)
    | some (.go s' t) => (run C n s').map fun p => (t ++ p.1, p.2)
noncomputable def s0 : St := ⟨[], 0, 0, 0, 0⟩
noncomputable def Safe (C : Code) (s : St) : Prop := ∀ n, run C n s ≠ none
noncomputable def Imp (C C' : Code) : Prop := Safe C' s0 ∧ ∀ n τ r, run C n s0 = some (τ, r) → ∃ τ' r', run C' n s0 = some (τ', r') ∧ τ <+: τ' ∧ ∀ e, r = .inr e → r' = .inr e ∧ τ' = τ
theorem Imp.refl {C : Code} (h : Safe C s0) : Imp C C := ⟨h, fun n τ r e => ⟨τ, r, e, List.prefix_refl _, fun _ h => ⟨h, rfl⟩⟩⟩
theorem Imp.trans {A B C : Code} (h : Imp A B) (g : Imp B C) : Imp A C := ⟨g.1, fun n τ r e => by
  obtain ⟨τ1, r1, e1, p1, q1⟩ := h.2 n τ r e
  obtain ⟨τ2, r2, e2, p2, q2⟩ := g.2 n τ1 r1 e1
  refine ⟨τ2, r2, e2, p1.trans p2, fun x hx => ?_⟩
  obtain ⟨a, b⟩ := q1 x hx
  obtain ⟨c, d⟩ := q2 x a
  exact ⟨c, d.trans b⟩⟩
theorem run_none {C : Code} {s : St} {n : Nat} (h : step C s = none) : run C (n + 1) s = none := by simp [run, h]
theorem run_end {C : Code} {s : St} {n : Nat} {e : Fin} (h : step C s = some (.fin e)) : run C (n + 1) s = some ([], .inr e) := by simp [run, h]
theorem run_step {C : Code} {s t : St} {n : Nat} {τ : List Tell} (h : step C s = some (.go t τ)) : run C (n + 1) s = (run C n t).map fun p => (τ ++ p.1, p.2) := by simp [run, h]
theorem run_add (C : Code) : ∀ (k m : Nat) (s : St), run C (k + m) s = match run C k s with
    | none => none
    | some (τ, .inr e) => some (τ, .inr e)
    | some (τ, .inl t) => (run C m t).map fun p => (τ ++ p.1, p.2)
  | 0, m, s => by simp [run]
  | k + 1, m, s => by
    rw [show k + 1 + m = (k + m) + 1 by lia]
    cases h : step C s with
    | none => rw [run_none h, run_none h]
    | some o =>
      cases o with
      | fin e => rw [run_end h, run_end h]
      | go s' t =>
        rw [run_step h, run_step h, run_add C k m s']
        cases h2 : run C k s' with
        | none => simp
        | some p =>
          obtain ⟨τ, r⟩ := p
          cases r with
          | inl t2 =>
            simp only [Option.map_some]
            cases run C m t2 with
            | none => simp
            | some q => simp [List.append_assoc]
          | inr e => simp
theorem run_lt {C : Code} {k : Nat} {s t : St} {τ : List Tell} (h : run C k s = some (τ, .inl t)) {n : Nat} (hn : n ≤ k) : ∃ τ' t', run C n s = some (τ', .inl t') ∧ τ' <+: τ := by
  obtain ⟨m, rfl⟩ := Nat.le.dest hn
  rw [run_add] at h
  cases h2 : run C n s with
  | none => rw [h2] at h; simp at h
  | some p =>
    obtain ⟨τ', r⟩ := p
    rw [h2] at h
    cases r with
    | inr e => simp at h
    | inl t' =>
      refine ⟨τ', t', rfl, ?_⟩
      simp only [Option.map_eq_some_iff, Prod.mk.injEq] at h
      obtain ⟨q, _, hq, _⟩ := h
      exact ⟨_, hq⟩
theorem run_fin {C : Code} {k : Nat} {s : St} {τ : List Tell} {e : Fin} (h : run C k s = some (τ, .inr e)) {n : Nat} (hn : k ≤ n) : run C n s = some (τ, .inr e) := by
  obtain ⟨m, rfl⟩ := Nat.le.dest hn
  rw [run_add, h]
theorem run_go {C : Code} {k m : Nat} {s t : St} {τ : List Tell} (h : run C k s = some (τ, .inl t)) : run C (k + m) s = (run C m t).map fun p => (τ ++ p.1, p.2) := by
  rw [run_add, h]
theorem Safe.go {C : Code} {k : Nat} {s t : St} {τ : List Tell} (hs : Safe C s) (h : run C k s = some (τ, .inl t)) : Safe C t := fun m e => by
  have := hs (k + m)
  rw [run_go h, e] at this
  exact this rfl
/-- how two codes go on from matching states -/
inductive Grp (C C' : Code) (R : St → St → Prop) (m : St → Nat) (s s' : St) : Prop
  | one {t t' : St} {τ : List Tell} (h : step C s = some (.go t τ)) (h' : step C' s' = some (.go t' τ)) (r : R t t')
  | silent {k j : Nat} {t t' : St} (hk : 1 ≤ k) (hj : j ≤ k) (h : run C k s = some ([], .inl t)) (h' : run C' j s' = some ([], .inl t')) (r : R t t') (hm : 1 ≤ j ∨ m t < m s)
  | fin {k j : Nat} {e : Fin} (hj : 1 ≤ j) (hk : j ≤ k) (hmin : ∀ n, n < k → ∃ t, run C n s = some ([], .inl t)) (h : run C k s = some ([], .inr e)) (h' : run C' j s' = some ([], .inr e))
theorem run_one {C : Code} {s t : St} {τ : List Tell} (h : step C s = some (.go t τ)) : run C 1 s = some (τ, .inl t) := by
  simp [run, h]
theorem sim_safe {C C' : Code} {R : St → St → Prop} {m : St → Nat} (hR : ∀ s s', R s s' → Safe C s → Grp C C' R m s s') : ∀ (n k : Nat) (s s' : St), m s ≤ k → R s s' → Safe C s → run C' n s' ≠ none := by
  intro n
  induction n using Nat.strongRecOn with
  | ind n ih =>
    intro k
    induction k with
    | zero =>
      intro s s' hm r hs
      cases n with
      | zero => simp [run]
      | succ n =>
        cases hR s s' r hs with
        | one h h' r' =>
          simp only [run, h']
          have := ih n (by lia) _ _ _ (Nat.le_refl _) r' (hs.go (run_one h))
          cases e : run C' n _ with
          | none => exact absurd e this
          | some p => simp
        | silent hk hj h h' r' hm' =>
          rename_i kk j t t'
          have hj1 : 1 ≤ j := by
            rcases hm' with hm' | hm'
            · exact hm'
            · lia
          by_cases hn : n + 1 ≤ j
          · obtain ⟨_, _, e, _⟩ := run_lt h' hn; rw [e]; exact nofun
          · obtain ⟨q, hq⟩ := Nat.le.dest (Nat.le_of_lt (Nat.lt_of_not_le hn))
            rw [← hq, run_go h']
            have := ih q (by lia) _ _ _ (Nat.le_refl _) r' (hs.go h)
            cases e : run C' q t' with
            | none => exact absurd e this
            | some p => simp
        | fin hj hk hmin h h' =>
          rename_i kk j e
          by_cases hn : j ≤ n + 1
          · rw [run_fin h' hn]; exact nofun
          · obtain ⟨q, hq⟩ := Nat.le.dest (Nat.le_of_lt (Nat.lt_of_not_le hn))
            intro z
            rw [← hq, run_add, z] at h'
            simp at h'
    | succ k ihk =>
      intro s s' hm r hs
      cases n with
      | zero => simp [run]
      | succ n =>
        cases hR s s' r hs with
        | one h h' r' =>
          simp only [run, h']
          have := ih n (by lia) _ _ _ (Nat.le_refl _) r' (hs.go (run_one h))
          cases e : run C' n _ with
          | none => exact absurd e this
          | some p => simp
        | silent hk hj h h' r' hm' =>
          rename_i kk j t t'
          by_cases hj1 : 1 ≤ j
          · by_cases hn : n + 1 ≤ j
            · obtain ⟨_, _, e, _⟩ := run_lt h' hn; rw [e]; exact nofun
            · obtain ⟨q, hq⟩ := Nat.le.dest (Nat.le_of_lt (Nat.lt_of_not_le hn))
              rw [← hq, run_go h']
              have := ih q (by lia) _ _ _ (Nat.le_refl _) r' (hs.go h)
              cases e : run C' q t' with
              | none => exact absurd e this
              | some p => simp
          · have : j = 0 := by lia
            subst this
            simp only [run, Option.some.injEq, Prod.mk.injEq, Sum.inl.injEq, true_and] at h'
            subst h'
            exact ihk t s' (by rcases hm' with hm' | hm' <;> lia) r' (hs.go h)
        | fin hj hk hmin h h' =>
          rename_i kk j e
          by_cases hn : j ≤ n + 1
          · rw [run_fin h' hn]; exact nofun
          · obtain ⟨q, hq⟩ := Nat.le.dest (Nat.le_of_lt (Nat.lt_of_not_le hn))
            intro z
            rw [← hq, run_add, z] at h'
            simp at h'
theorem sim_main {C C' : Code} {R : St → St → Prop} {m : St → Nat} (hR : ∀ s s', R s s' → Safe C s → Grp C C' R m s s') : ∀ (n n' : Nat) (s s' : St) (τ : List Tell) (r : St ⊕ Fin), n ≤ n' → R s s' → Safe C s → run C n s = some (τ, r) →
    ∃ τ' r', run C' n' s' = some (τ', r') ∧ τ <+: τ' ∧ ∀ e, r = .inr e → r' = .inr e ∧ τ' = τ := by
  intro n
  induction n using Nat.strongRecOn with
  | ind n ih =>
    intro n' s s' τ r hnn hr hs h
    have safe' : ∀ q, ∃ τ' r', run C' q s' = some (τ', r') := fun q => by
      cases e : run C' q s' with
      | none => exact absurd e (sim_safe hR q _ s s' (Nat.le_refl _) hr hs)
      | some p => exact ⟨p.1, p.2, rfl⟩
    have quiet : ∀ {t : St}, τ = [] → r = .inl t → ∃ τ' r', run C' n' s' = some (τ', r') ∧ τ <+: τ' ∧ ∀ e, r = .inr e → r' = .inr e ∧ τ' = τ := fun {t} e1 e2 => by
      obtain ⟨τ', r', e⟩ := safe' n'
      exact ⟨τ', r', e, by rw [e1]; exact List.nil_prefix, fun x hx => by rw [e2] at hx; cases hx⟩
    cases n with
    | zero =>
      simp only [run, Option.some.injEq, Prod.mk.injEq] at h
      exact quiet h.1.symm h.2.symm
    | succ n =>
      obtain ⟨n2, rfl⟩ : ∃ q, n' = q + 1 := ⟨n' - 1, by lia⟩
      cases hR s s' hr hs with
      | one h1 h1' r' =>
        simp only [run, h1] at h
        cases e : run C n _ with
        | none => rw [e] at h; simp at h
        | some p =>
          rw [e] at h
          simp only [Option.map_some, Option.some.injEq, Prod.mk.injEq] at h
          obtain ⟨rfl, rfl⟩ := h
          obtain ⟨τ', r2, e2, pf, q⟩ := ih n (by lia) n2 _ _ p.1 p.2 (by lia) r' (hs.go (run_one h1)) e
          refine ⟨_, r2, by simp only [run, h1', e2]; rfl, ?_, fun x hx => ?_⟩
          · exact (List.prefix_append_right_inj _).mpr pf
          · obtain ⟨a, b⟩ := q x hx; exact ⟨a, by simp [b]⟩
      | silent hk hj h1 h1' r' hm' =>
        rename_i k j t t'
        by_cases hn : n + 1 ≤ k
        · obtain ⟨τ2, t2, e, pf⟩ := run_lt h1 hn
          rw [e] at h
          simp only [Option.some.injEq, Prod.mk.injEq] at h
          exact quiet (by rw [← h.1]; simpa using pf) h.2.symm
        · obtain ⟨q, hq⟩ := Nat.le.dest (Nat.le_of_lt (Nat.lt_of_not_le hn))
          obtain ⟨q', hq'⟩ : ∃ q', j + q' = n2 + 1 := ⟨n2 + 1 - j, by lia⟩
          rw [← hq, run_go h1] at h
          cases e : run C q t with
          | none => rw [e] at h; simp at h
          | some p =>
            rw [e] at h
            simp only [Option.map_some, List.nil_append, Option.some.injEq, Prod.mk.injEq] at h
            obtain ⟨rfl, rfl⟩ := h
            obtain ⟨τ', r2, e2, pf, z⟩ := ih q (by lia) q' _ _ p.1 p.2 (by lia) r' (hs.go h1) e
            exact ⟨τ', r2, by rw [← hq', run_go h1', e2]; simp, pf, z⟩
      | fin hj hk hmin h1 h1' =>
        rename_i k j e
        by_cases hn : n + 1 < k
        · obtain ⟨t, e⟩ := hmin _ hn
          rw [e] at h
          simp only [Option.some.injEq, Prod.mk.injEq] at h
          exact quiet h.1.symm h.2.symm
        · rw [run_fin h1 (Nat.le_of_not_lt hn)] at h
          simp only [Option.some.injEq, Prod.mk.injEq] at h
          obtain ⟨rfl, rfl⟩ := h
          exact ⟨[], .inr e, run_fin h1' (by lia), List.prefix_refl _, fun x hx => ⟨hx, rfl⟩⟩
theorem imp_of_sim {C C' : Code} {R : St → St → Prop} {m : St → Nat} (hs : Safe C s0) (h0 : R s0 s0) (hR : ∀ s s', R s s' → Safe C s → Grp C C' R m s s') : Imp C C' :=
  ⟨fun n => sim_safe hR n _ s0 s0 (Nat.le_refl _) h0 hs, fun n τ r h => sim_main hR n n s0 s0 τ r (Nat.le_refl _) h0 hs h⟩
end Mine
namespace Mine
theorem skipTo_spec : ∀ (l : Code) (i : Nat), i ≤ skipTo l i ∧ (∀ x, x < skipTo l i - i → l[x]? = some none) ∧ l[skipTo l i - i]? ≠ some none
  | [], i => by simp [skipTo]
  | some r :: l, i => by simp [skipTo]
  | none :: l, i => by
    obtain ⟨a, b, c⟩ := skipTo_spec l (i + 1)
    unfold skipTo
    refine ⟨by lia, fun x hx => ?_, ?_⟩
    · cases x with
      | zero => rfl
      | succ x => simpa using b x (by lia)
    · obtain ⟨k, hk⟩ : ∃ k, skipTo l (i + 1) - i = k + 1 := ⟨skipTo l (i + 1) - (i + 1), by lia⟩
      rw [hk, List.getElem?_cons_succ]
      have : skipTo l (i + 1) - (i + 1) = k := by lia
      rwa [this] at c
theorem nxt_spec (C : Code) (i : Nat) : i ≤ nxt C i ∧ (∀ x, i ≤ x → x < nxt C i → C[x]? = some none) ∧ C[nxt C i]? ≠ some none := by
  obtain ⟨a, b, c⟩ := skipTo_spec (C.drop i) i
  refine ⟨a, fun x h1 h2 => ?_, ?_⟩
  · have := b (x - i) (by unfold nxt at h2; lia)
    rw [List.getElem?_drop] at this
    rwa [show i + (x - i) = x by lia] at this
  · rw [List.getElem?_drop] at c
    unfold nxt
    rwa [show i + (skipTo (C.drop i) i - i) = skipTo (C.drop i) i by lia] at c
theorem nxt_of {C : Code} {i k : Nat} (h1 : i ≤ k) (h2 : ∀ x, i ≤ x → x < k → C[x]? = some none) (h3 : C[k]? ≠ some none) : nxt C i = k := by
  obtain ⟨a, b, c⟩ := nxt_spec C i
  rcases Nat.lt_trichotomy (nxt C i) k with h | h | h
  · exact absurd (h2 _ a h) c
  · exact h
  · exact absurd (b _ h1 h) h3
theorem nxt_self {C : Code} {i : Nat} {r : Row} (h : C[i]? = some (some r)) : nxt C i = i := nxt_of (Nat.le_refl _) (fun x a b => by lia) (by rw [h]; exact nofun)
theorem step_at {C : Code} {s : St} {k : Nat} {r : Row} (h : nxt C s.at' = k) (hr : C[k]? = some (some r)) : step C s = exec r { s with at' := k + 1 } := by
  unfold step; rw [h, hr]
theorem step_inv {C : Code} {s : St} {o : Out} (h : step C s = some o) : ∃ r, C[nxt C s.at']? = some (some r) ∧ exec r { s with at' := nxt C s.at' + 1 } = some o := by
  unfold step at h
  split at h
  · rename_i r e; exact ⟨r, e, h⟩
  · cases h
theorem Safe.step {C : Code} {s : St} (h : Safe C s) : ∃ o, Mine.step C s = some o := by
  cases e : Mine.step C s with
  | none => exact absurd (run_none e) (h 1)
  | some o => exact ⟨o, rfl⟩
/-- where a row leads -/
theorem exec_at {r : Row} {s t : St} {τ : List Tell} (h : exec r s = some (.go t τ)) : t.at' = s.at' ∨ ∃ j u, r = .jmp j u ∧ t.at' = u := by
  obtain ⟨e, he, _, ho⟩ := exec_eff h
  cases he with
  | st hs => cases e with
    | go => cases ho; exact .inl rfl
    | to => exact nomatch hs
    | fin => exact nomatch ho
  | to hr => cases ho; exact .inr ⟨_, _, hr, rfl⟩
theorem zero_run {C : Code} {s : St} {n : Nat} (h : n < 1) : ∃ t, run C n s = some ([], .inl t) := by
  have : n = 0 := by lia
  subst this
  exact ⟨s, rfl⟩
/-- two states that go on alike -/
noncomputable def Al (C : Code) (s s' : St) : Prop := s' = { s with at' := s'.at' } ∧ nxt C s'.at' = nxt C s.at'
theorem Al.refl {C : Code} (s : St) : Al C s s := ⟨rfl, rfl⟩
theorem Al.step {C : Code} {s s' : St} (h : Al C s s') : step C s' = step C s := by
  obtain ⟨h1, h2⟩ := h
  unfold Mine.step
  rw [h2]
  rw [h1]
theorem Al.run {C : Code} {s s' : St} (h : Al C s s') {n : Nat} (hn : 1 ≤ n) : run C n s' = run C n s := by
  obtain ⟨m, rfl⟩ : ∃ m, n = m + 1 := ⟨n - 1, by lia⟩
  have := h.step
  simp only [Mine.run, this]
/-- a stretch of rows put otherwise -/
theorem patch {C C' : Code} {lo hi : Nat} {r0 : Row} (hlo : C[lo]? = some (some r0)) (hh : lo < hi) (hagree : ∀ x, x < lo ∨ hi ≤ x → C'[x]? = C[x]?)
    (hmark : ∀ (x : Nat) (j : J) (t : Nat), C[x]? = some (some (Row.jmp j t)) → ¬ (lo < t ∧ t < hi))
    (hgrp : ∀ s : St, s.at' = lo → Safe C s → ∃ k j t t', 1 ≤ k ∧ j ≤ k ∧ run C k s = some ([], .inl t) ∧ run C' j s = some ([], .inl t') ∧ Al C' t t' ∧ ¬ (lo < t.at' ∧ t.at' < hi) ∧ (1 ≤ j ∨ lo < t.at'))
    (h0 : Safe C s0) : Imp C C' := by
  have hlt : lo < C.length := by
    rcases Nat.lt_or_ge lo C.length with h | h
    · exact h
    · rw [List.getElem?_eq_none h] at hlo; cases hlo
  refine imp_of_sim (R := fun s s' => Al C' s s' ∧ ¬ (lo < s.at' ∧ s.at' < hi)) (m := fun s => C.length - s.at') h0 ⟨.refl _, by simp [s0]⟩ fun s s' ⟨ha, hn⟩ hs => ?_
  obtain ⟨o, ho⟩ := hs.step
  obtain ⟨r, hr, he⟩ := step_inv ho
  obtain ⟨n1, n2, n3⟩ := nxt_spec C s.at'
  by_cases hcase : nxt C s.at' = lo
  · -- the stretch
    have hle : s.at' ≤ lo := by lia
    have al1 : Al C s { s with at' := lo } := ⟨rfl, by rw [nxt_self hlo]; exact hcase.symm⟩
    have hs1 : Safe C { s with at' := lo } := fun n e => by
      cases n with
      | zero => simp [run] at e
      | succ n => rw [al1.run (by lia)] at e; exact hs _ e
    obtain ⟨k, j, t, t', hk, hj, e1, e2, al, hin, hm⟩ := hgrp { s with at' := lo } rfl hs1
    rw [al1.run hk] at e1
    have al2 : Al C' s { s with at' := lo } := by
      refine ⟨rfl, ?_⟩
      obtain ⟨m1, m2, m3⟩ := nxt_spec C' lo
      exact (nxt_of (Nat.le_trans hle m1) (fun x hx1 hx2 => by
        rcases Nat.lt_or_ge x lo with h | h
        · rw [hagree x (.inl h)]; exact n2 x hx1 (by lia)
        · exact m2 x h hx2) m3).symm
    by_cases hj1 : 1 ≤ j
    · refine .silent hk hj e1 (by rw [ha.run hj1, ← al2.run hj1]; exact e2) ⟨al, hin⟩ (.inl hj1)
    · have : j = 0 := by lia
      subst this
      simp only [run, Option.some.injEq, Prod.mk.injEq, Sum.inl.injEq, true_and] at e2
      subst e2
      refine .silent (j := 0) hk hj e1 rfl ⟨⟨?_, ?_⟩, hin⟩ (.inr ?_)
      · rw [ha.1]; have := al.1; dsimp only at this ⊢; rw [St.mk.injEq] at this ⊢; exact ⟨this.1, rfl, this.2.2⟩
      · rw [ha.2, ← al2.2]; exact al.2
      · rcases hm with hm | hm
        · lia
        · show C.length - t.at' < C.length - s.at'; lia
  · have hout : nxt C s.at' < lo ∨ hi ≤ nxt C s.at' := by
      rcases Nat.lt_or_ge lo s.at' with h | h
      · have : hi ≤ s.at' := by lia
        exact .inr (by lia)
      · left
        rcases Nat.lt_trichotomy (nxt C s.at') lo with h2 | h2 | h2
        · exact h2
        · exact absurd h2 hcase
        · have := n2 lo h h2; rw [hlo] at this; cases this
    have hr' : C'[nxt C s.at']? = some (some r) := by rw [hagree _ hout]; exact hr
    have hn' : nxt C' s.at' = nxt C s.at' := nxt_of n1 (fun x h1 h2 => by
      have hx : x < lo ∨ hi ≤ x := by
        rcases hout with h | h
        · exact .inl (by lia)
        · rcases Nat.lt_or_ge lo s.at' with h3 | h3
          · exact .inr (by lia)
          · have := n2 lo h3 (by lia); rw [hlo] at this; cases this
      rw [hagree x hx]; exact n2 x h1 h2) (by rw [hr']; exact nofun)
    have ho' : step C' s' = some o := by rw [ha.step, step_at hn' hr']; exact he
    cases o with
    | go t τ =>
      refine .one ho ho' ⟨.refl _, fun z => ?_⟩
      rcases exec_at he with e | ⟨j, u, rfl, e⟩
      · dsimp only at e; lia
      · exact hmark _ _ _ hr (e ▸ z)
    | fin e => exact .fin (k := 1) (j := 1) (Nat.le_refl _) (Nat.le_refl _) (fun n hn => zero_run hn) (run_end ho) (run_end ho')
end Mine
namespace Mine
theorem get_lt {α : Type} {C : List α} {p : Nat} {x : α} (h : C[p]? = some x) : p < C.length := (List.getElem?_eq_some_iff.mp h).1
theorem nxt_none {C : Code} {i k : Nat} (h : i ≤ k) (hn : ∀ x, i ≤ x → x < k → C[x]? = some none) : nxt C i = nxt C k := by
  obtain ⟨a, b, c⟩ := nxt_spec C k
  exact nxt_of (Nat.le_trans h a) (fun x h1 h2 => by
    rcases Nat.lt_or_ge x k with h3 | h3
    · exact hn x h1 h3
    · exact b x h3 h2) c
theorem run2 {C : Code} {s t u : St} (h1 : step C s = some (.go t [])) (h2 : step C t = some (.go u [])) : run C 2 s = some ([], .inl u) := by
  rw [run_step h1, run_one h2]; rfl
theorem run3 {C : Code} {s t u v : St} (h1 : step C s = some (.go t [])) (h2 : step C t = some (.go u [])) (h3 : step C u = some (.go v [])) : run C 3 s = some ([], .inl v) := by
  rw [run_step h1, run2 h2 h3]; rfl
theorem exec_made2 {op : Row} {a b v : Val} {s : St} {r : List Val} (har : op.arity = 2) (hm : op.made [a, b] = some v) (hs : s.stk = b :: a :: r) : exec op s = some (.go { s with stk := v :: r } []) := by
  obtain ⟨stk, at', l, c, d⟩ := s
  subst hs
  cases op with
  | bin o => exact congrArg (fun z => some (Eff.out at' (.bn l c d r z))) hm
  | xor => cases hm; rfl
  | _ => exact nomatch har
theorem exec_made1 {op : Row} {a v : Val} {s : St} {r : List Val} (har : op.arity = 1) (hm : op.made [a] = some v) (hs : s.stk = a :: r) : exec op s = some (.go { s with stk := v :: r } []) := by
  obtain ⟨stk, at', l, c, d⟩ := s
  subst hs
  cases op with
  | un o => cases hm; rfl
  | text => cases hm; rfl
  | _ => exact nomatch har
theorem w_fold2 {C : Code} {p q r : Nat} {a b v : Val} {op : Row} (hp : C[p]? = some (some (.const a))) (hq : C[q]? = some (some (.const b))) (hr : C[r]? = some (some op)) (hpq : p < q) (hqr : q < r)
    (hn1 : ∀ x, p < x → x < q → C[x]? = some none) (hn2 : ∀ x, q < x → x < r → C[x]? = some none) (har : op.arity = 2) (hm : op.made [a, b] = some v)
    (hk : ∀ (x : Nat) (j : J) (t : Nat), C[x]? = some (some (Row.jmp j t)) → ¬ (p < t ∧ t < r + 1)) (h0 : Safe C s0) : Imp C (((C.set p none).set q none).set r (some (.const v))) := by
  have lp := get_lt hp; have lq := get_lt hq; have lr := get_lt hr
  have c1 : ∀ x, p ≤ x → x < r → (((C.set p none).set q none).set r (some (.const v)))[x]? = some none := fun x h1 h2 => by
    simp only [List.getElem?_set, List.length_set]
    rw [if_neg (by lia)]
    split
    · first | rfl | rw [if_pos lq]
    · split
      · first | rfl | rw [if_pos lp]
      · rcases Nat.lt_trichotomy x q with h | h | h
        · exact hn1 x (by lia) h
        · lia
        · exact hn2 x h h2
  have c2 : (((C.set p none).set q none).set r (some (.const v)))[r]? = some (some (.const v)) := by
    simp [List.getElem?_set, lr]
  refine patch (lo := p) (hi := r + 1) hp (by lia) (fun x hx => ?_) hk (fun s hs hsafe => ?_) h0
  · simp only [List.getElem?_set, List.length_set]
    rw [if_neg (by lia), if_neg (by lia), if_neg (by lia)]
  · have e1 : step C s = some (.go { s with stk := a :: s.stk, at' := p + 1 } []) := step_at (k := p) (by rw [hs]; exact nxt_self hp) hp
    have e2 : step C { s with stk := a :: s.stk, at' := p + 1 } = some (.go { s with stk := b :: a :: s.stk, at' := q + 1 } []) :=
      step_at (s := { s with stk := a :: s.stk, at' := p + 1 }) (k := q) (nxt_of (by show p + 1 ≤ q; lia) (fun x h1 h2 => hn1 x h1 h2) (by rw [hq]; exact nofun)) hq
    have e3 : step C { s with stk := b :: a :: s.stk, at' := q + 1 } = some (.go { s with stk := v :: s.stk, at' := r + 1 } []) := by
      rw [step_at (s := { s with stk := b :: a :: s.stk, at' := q + 1 }) (k := r) (nxt_of (by show q + 1 ≤ r; lia) (fun x h1 h2 => hn2 x h1 h2) (by rw [hr]; exact nofun)) hr]
      exact exec_made2 har hm rfl
    have e4 : step (((C.set p none).set q none).set r (some (.const v))) s = some (.go { s with stk := v :: s.stk, at' := r + 1 } []) :=
      step_at (k := r) (nxt_of (by lia) (fun x h1 h2 => c1 x (by lia) h2) (by rw [c2]; exact nofun)) c2
    exact ⟨3, 1, _, _, by decide, by decide, run3 e1 e2 e3, run_one e4, .refl _, by simp, .inl (Nat.le_refl _)⟩
theorem w_fold1 {C : Code} {p r : Nat} {a v : Val} {op : Row} (hp : C[p]? = some (some (.const a))) (hr : C[r]? = some (some op)) (hpr : p < r)
    (hn : ∀ x, p < x → x < r → C[x]? = some none) (har : op.arity = 1) (hm : op.made [a] = some v)
    (hk : ∀ (x : Nat) (j : J) (t : Nat), C[x]? = some (some (Row.jmp j t)) → ¬ (p < t ∧ t < r + 1)) (h0 : Safe C s0) : Imp C ((C.set p none).set r (some (.const v))) := by
  have lp := get_lt hp; have lr := get_lt hr
  have c1 : ∀ x, p ≤ x → x < r → ((C.set p none).set r (some (.const v)))[x]? = some none := fun x h1 h2 => by
    simp only [List.getElem?_set, List.length_set]
    rw [if_neg (by lia)]
    split
    · first | rfl | rw [if_pos lp]
    · exact hn x (by lia) h2
  have c2 : ((C.set p none).set r (some (.const v)))[r]? = some (some (.const v)) := by simp [List.getElem?_set, lr]
  refine patch (lo := p) (hi := r + 1) hp (by lia) (fun x hx => ?_) hk (fun s hs hsafe => ?_) h0
  · simp only [List.getElem?_set, List.length_set]
    rw [if_neg (by lia), if_neg (by lia)]
  · have e1 : step C s = some (.go { s with stk := a :: s.stk, at' := p + 1 } []) := step_at (k := p) (by rw [hs]; exact nxt_self hp) hp
    have e3 : step C { s with stk := a :: s.stk, at' := p + 1 } = some (.go { s with stk := v :: s.stk, at' := r + 1 } []) := by
      rw [step_at (s := { s with stk := a :: s.stk, at' := p + 1 }) (k := r) (nxt_of (by show p + 1 ≤ r; lia) (fun x h1 h2 => hn x h1 h2) (by rw [hr]; exact nofun)) hr]
      exact exec_made1 har hm rfl
    have e4 : step ((C.set p none).set r (some (.const v))) s = some (.go { s with stk := v :: s.stk, at' := r + 1 } []) :=
      step_at (k := r) (nxt_of (by lia) (fun x h1 h2 => c1 x (by lia) h2) (by rw [c2]; exact nofun)) c2
    exact ⟨2, 1, _, _, by decide, by decide, run2 e1 e3, run_one e4, .refl _, by simp, .inl (Nat.le_refl _)⟩
theorem exec_jmp {j : J} {t : Nat} {x : Val} {r : List Val} {s : St} (hj : j ≠ .jump) (hs : s.stk = x :: r) :
    exec (.jmp j t) s = some (.go (if j.so x then { s with stk := if j.pops then r else s.stk, at' := t } else { s with stk := r }) []) := by
  obtain ⟨stk, a, l, c, d⟩ := s
  subst hs
  refine (exec_of (eff_jmp hj)).trans ?_
  unfold Eff.br
  cases j.so x <;> rfl
/-- a branch on a constant -/
theorem w_branch {C C' : Code} {p t : Nat} {a : Val} {j : J} (hp : C[p]? = some (some (.const a))) (hq : C[p + 1]? = some (some (.jmp j t))) (hj : j ≠ .jump)
    (hk : ∀ (x : Nat) (i : J) (u : Nat), C[x]? = some (some (Row.jmp i u)) → u ≠ p + 1)
    (hC : C' = if j.so a then (if j.pops then (C.set (p + 1) (some (.jmp .jump t))).set p none else C.set (p + 1) (some (.jmp .jump t))) else (C.set (p + 1) none).set p none) (h0 : Safe C s0) : Imp C C' := by
  have lp := get_lt hp; have lq := get_lt hq
  refine patch (lo := p) (hi := p + 2) hp (by lia) (fun x hx => ?_) (fun x i u e z => hk x i u e (by lia)) (fun s hs hsafe => ?_) h0
  · subst hC
    split
    · split
      · simp only [List.getElem?_set, List.length_set]; rw [if_neg (by lia), if_neg (by lia)]
      · simp only [List.getElem?_set, List.length_set]; rw [if_neg (by lia)]
    · simp only [List.getElem?_set, List.length_set]; rw [if_neg (by lia), if_neg (by lia)]
  · have e1 : step C s = some (.go { s with stk := a :: s.stk, at' := p + 1 } []) := step_at (k := p) (by rw [hs]; exact nxt_self hp) hp
    have e2 : step C { s with stk := a :: s.stk, at' := p + 1 } = some (.go (if j.so a then { s with stk := if j.pops then s.stk else a :: s.stk, at' := t } else { s with at' := p + 2 }) []) := by
      rw [step_at (k := p + 1) (nxt_self hq) hq, exec_jmp (x := a) (r := s.stk) hj rfl]
    have ht : t ≠ p + 1 := hk _ _ _ hq
    cases hso : j.so a with
    | true =>
      rw [hso] at hC e2
      simp only [if_true] at hC e2
      cases hpop : j.pops with
      | true =>
        rw [hpop] at hC e2
        simp only [if_true] at hC e2
        have c1 : C'[p]? = some none := by subst hC; simp [List.getElem?_set, lp]
        have c2 : C'[p + 1]? = some (some (.jmp .jump t)) := by subst hC; simp [List.getElem?_set, lp, lq]
        have e4 : step C' s = some (.go { s with at' := t } []) := by
          rw [step_at (k := p + 1) (nxt_of (by lia) (fun x h1 h2 => by have e : x = p := (by lia); rw [e]; exact c1) (by rw [c2]; exact nofun)) c2]; rfl
        exact ⟨2, 1, _, _, by decide, by decide, run2 e1 e2, run_one e4, .refl _, fun z => ht (by have := z; dsimp only at this; lia), .inl (Nat.le_refl _)⟩
      | false =>
        rw [hpop] at hC e2
        simp only [Bool.false_eq_true, if_false] at hC e2
        have c1 : C'[p]? = some (some (.const a)) := by subst hC; rw [List.getElem?_set_ne (by lia)]; exact hp
        have c2 : C'[p + 1]? = some (some (.jmp .jump t)) := by subst hC; simp [List.getElem?_set, lq]
        have f1 : step C' s = some (.go { s with stk := a :: s.stk, at' := p + 1 } []) := step_at (k := p) (by rw [hs]; exact nxt_self c1) c1
        have f2 : step C' { s with stk := a :: s.stk, at' := p + 1 } = some (.go { s with stk := a :: s.stk, at' := t } []) := by
          rw [step_at (k := p + 1) (nxt_self c2) c2]; rfl
        exact ⟨2, 2, _, _, by decide, by decide, run2 e1 e2, run2 f1 f2, .refl _, fun z => ht (by have := z; dsimp only at this; lia), .inl (by decide)⟩
    | false =>
      rw [hso] at hC e2
      simp only [Bool.false_eq_true, if_false] at hC e2
      have c1 : C'[p]? = some none := by subst hC; simp [List.getElem?_set, lp]
      have c2 : C'[p + 1]? = some none := by subst hC; simp [List.getElem?_set, lp, lq]
      refine ⟨2, 0, _, s, by decide, by decide, run2 e1 e2, rfl, ⟨?_, ?_⟩, by simp, .inr (by simp)⟩
      · cases s; rfl
      · show nxt C' s.at' = nxt C' (p + 2)
        rw [hs]
        exact nxt_none (by lia) fun x h1 h2 => by
          rcases Nat.lt_or_ge x (p + 1) with h | h
          · obtain rfl : x = p := by lia
            exact c1
          · obtain rfl : x = p + 1 := by lia
            exact c2
noncomputable def idle (x y : Row) : Bool := match x with
  | .const _ => match y with | .drop => true | _ => false
  | .dup => match y with | .drop => true | _ => false
  | .swap => match y with | .swap => true | _ => false
  | .begin => match y with | .settle => true | _ => false
  | .enter => match y with | .leave => true | _ => false
  | _ => false
theorem idle_ind {P : Row → Row → Prop} (h1 : ∀ v, P (.const v) .drop) (h2 : P .dup .drop) (h3 : P .swap .swap) (h4 : P .begin .settle) (h5 : P .enter .leave) {x y : Row} (h : idle x y = true) : P x y := by
  cases x with
  | const v => cases y with | drop => exact h1 v | _ => exact ff h
  | dup => cases y with | drop => exact h2 | _ => exact ff h
  | swap => cases y with | swap => exact h3 | _ => exact ff h
  | begin => cases y with | settle => exact h4 | _ => exact ff h
  | enter => cases y with | leave => exact h5 | _ => exact ff h
  | _ => exact ff h
theorem idle_exec {x y : Row} (h : idle x y = true) : ∀ {s : St} {o : Out}, exec x s = some o → ∃ t, o = .go t [] ∧ t.at' = s.at' ∧ exec y { t with at' := s.at' + 1 } = some (.go { s with at' := s.at' + 1 } []) := by
  refine idle_ind (P := fun x y => ∀ {s : St} {o : Out}, exec x s = some o → ∃ t, o = .go t [] ∧ t.at' = s.at' ∧ exec y { t with at' := s.at' + 1 } = some (.go { s with at' := s.at' + 1 } [])) ?_ ?_ ?_ ?_ ?_ h
  · intro v s o h; cases h; exact ⟨_, rfl, rfl, rfl⟩
  · rintro ⟨stk, a, l, c, b⟩ o h
    cases stk with
    | nil => exact nomatch h
    | cons x q => cases h; exact ⟨_, rfl, rfl, rfl⟩
  · rintro ⟨stk, a, l, c, b⟩ o h
    match stk with
    | [] => exact nomatch h
    | [_] => exact nomatch h
    | x :: y :: q => cases h; exact ⟨_, rfl, rfl, rfl⟩
  · rintro ⟨stk, a, l, c, b⟩ o h
    cases h
    exact ⟨_, rfl, rfl, congrArg (fun z => some (Out.go ⟨stk, a + 1, l, c, z⟩ [])) (Int.add_neg_cancel_right b 1)⟩
  · rintro ⟨stk, a, l, c, b⟩ o h
    cases h
    exact ⟨_, rfl, rfl, congrArg (fun z => some (Out.go ⟨stk, a + 1, l, z, b⟩ [])) (Int.add_neg_cancel_right c 1)⟩
theorem idle_steps {C : Code} {p : Nat} {x y : Row} {s : St} (hi : idle x y = true) (hp : C[p]? = some (some x)) (hq : C[p + 1]? = some (some y)) (hs : s.at' = p) (hsafe : Safe C s) : run C 2 s = some ([], .inl { s with at' := p + 2 }) := by
  subst hs
  obtain ⟨o, ho⟩ := hsafe.step
  have f1 := step_at (nxt_self hp) hp
  obtain ⟨t, rfl, h1, h2⟩ := idle_exec hi (f1.symm.trans ho)
  exact run2 ho ((step_at (k := s.at' + 1) (by rw [h1]; exact nxt_self hq) hq).trans h2)
theorem w_pair {C : Code} {p : Nat} {x y : Row} (hi : idle x y = true) (hp : C[p]? = some (some x)) (hq : C[p + 1]? = some (some y))
    (hk : ∀ (x : Nat) (i : J) (u : Nat), C[x]? = some (some (Row.jmp i u)) → u ≠ p + 1) (h0 : Safe C s0) : Imp C ((C.set p none).set (p + 1) none) := by
  have lp := get_lt hp; have lq := get_lt hq
  refine patch (lo := p) (hi := p + 2) hp (by lia) (fun x hx => ?_) (fun x i u e z => hk x i u e (by lia)) (fun s hs hsafe => ?_) h0
  · simp only [List.getElem?_set, List.length_set]; rw [if_neg (by lia), if_neg (by lia)]
  · have c1 : ((C.set p none).set (p + 1) none)[p]? = some none := by simp [List.getElem?_set, lp]
    have c2 : ((C.set p none).set (p + 1) none)[p + 1]? = some none := by simp [List.getElem?_set, lq]
    refine ⟨2, 0, _, s, by decide, by decide, idle_steps hi hp hq hs hsafe, rfl, ⟨by cases s; rfl, ?_⟩, by simp, .inr (by simp)⟩
    show nxt _ s.at' = nxt _ (p + 2)
    rw [hs]
    exact nxt_none (by lia) fun x h1 h2 => by
      rcases Nat.lt_or_ge x (p + 1) with h | h
      · obtain rfl : x = p := by lia
        exact c1
      · obtain rfl : x = p + 1 := by lia
        exact c2
theorem w_line {C : Code} {p : Nat} {a b : Int} (hp : C[p]? = some (some (.line a))) (hq : C[p + 1]? = some (some (.line b))) (h0 : Safe C s0) : Imp C (C.set p none) := by
  have lp := get_lt hp; have lq := get_lt hq
  have c1 : (C.set p none)[p]? = some none := by simp [List.getElem?_set, lp]
  have c2 : (C.set p none)[p + 1]? = some (some (.line b)) := by rw [List.getElem?_set_ne (by lia)]; exact hq
  refine patch (lo := p) (hi := p + 1) hp (by lia) (fun x hx => by rw [List.getElem?_set_ne (by lia)]) (fun x i u e z => by lia) (fun s hs hsafe => ?_) h0
  have e1 : step C s = some (.go { s with ln := a, at' := p + 1 } []) := step_at (k := p) (by rw [hs]; exact nxt_self hp) hp
  have e2 : step C { s with ln := a, at' := p + 1 } = some (.go { s with ln := b, at' := p + 2 } []) := step_at (k := p + 1) (nxt_self hq) hq
  have e4 : step (C.set p none) s = some (.go { s with ln := b, at' := p + 2 } []) :=
    step_at (k := p + 1) (nxt_of (by lia) (fun x h1 h2 => by have e : x = p := (by lia); rw [e]; exact c1) (by rw [c2]; exact nofun)) c2
  exact ⟨2, 1, _, _, by decide, by decide, run2 e1 e2, run_one e4, .refl _, by simp, .inl (Nat.le_refl _)⟩
end Mine
namespace Mine
/-- how many rows stand before a place -/
noncomputable def pl (C : Code) (i : Nat) : Nat := ((C.take i).filterMap id).length
noncomputable def sq (C : Code) : List Row := C.filterMap fun o => o.map (Row.mapT (pl C))
theorem pl_zero {C : Code} : pl C 0 = 0 := rfl
theorem pl_none {C : Code} {i : Nat} (h : C[i]? = some none) : pl C (i + 1) = pl C i := by
  unfold pl; rw [List.take_add_one, h, List.filterMap_append]; simp
theorem pl_some {C : Code} {i : Nat} {r : Row} (h : C[i]? = some (some r)) : pl C (i + 1) = pl C i + 1 := by
  unfold pl; rw [List.take_add_one, h, List.filterMap_append]; simp
theorem pl_nones {C : Code} {i : Nat} : ∀ (d : Nat), (∀ x, i ≤ x → x < i + d → C[x]? = some none) → pl C (i + d) = pl C i
  | 0, _ => rfl
  | d + 1, h => by
    rw [← Nat.add_assoc, pl_none (h (i + d) (by lia) (by lia))]
    exact pl_nones d fun x h1 h2 => h x h1 (by lia)
theorem pl_nxt {C : Code} {i : Nat} : pl C (nxt C i) = pl C i := by
  obtain ⟨a, b, _⟩ := nxt_spec C i
  obtain ⟨d, hd⟩ := Nat.le.dest a
  rw [← hd]
  exact pl_nones d fun x h1 h2 => b x h1 (by lia)
theorem fm_get {α β : Type} (f : α → Option β) : ∀ (l : List α) (i : Nat) (x : α) (y : β), l[i]? = some x → f x = some y → (l.filterMap f)[((l.take i).filterMap f).length]? = some y
  | [], i, x, y, h, _ => by simp at h
  | z :: l, 0, x, y, h, hf => by
    simp only [List.getElem?_cons_zero, Option.some.injEq] at h
    subst h
    simp [List.filterMap_cons, hf]
  | z :: l, i + 1, x, y, h, hf => by
    rw [List.take_succ_cons, List.filterMap_cons, List.filterMap_cons]
    have ih := fm_get f l i x y (by simpa using h) hf
    cases f z with
    | none => exact ih
    | some w => simpa using ih
theorem pl_eq {C : Code} {i : Nat} (g : Row → Row) : pl C i = ((C.take i).filterMap fun o => o.map g).length := by
  unfold pl
  generalize C.take i = l
  induction l with
  | nil => rfl
  | cons o l ih => cases o <;> simp [List.filterMap_cons, ih]
theorem sq_get {C : Code} {i : Nat} {r : Row} (h : C[i]? = some (some r)) : (sq C)[pl C i]? = some (r.mapT (pl C)) := by
  rw [pl_eq (Row.mapT (pl C))]
  exact fm_get _ C i _ _ h rfl
theorem sq_len {C : Code} : (sq C).length ≤ C.length := List.length_filterMap_le _ _
theorem sq_mem {C : Code} {r : Row} (h : r ∈ sq C) : ∃ (i : Nat) (q : Row), C[i]? = some (some q) ∧ r = q.mapT (pl C) := by
  unfold sq at h
  obtain ⟨o, ho, he⟩ := List.mem_filterMap.mp h
  cases o with
  | none => simp at he
  | some q =>
    obtain ⟨i, hi⟩ := List.getElem?_of_mem ho
    exact ⟨i, q, hi, by simpa using he.symm⟩
theorem pl_mono {C : Code} {i k : Nat} (h : i ≤ k) : pl C i ≤ pl C k := by
  obtain ⟨d, rfl⟩ := Nat.le.dest h
  unfold pl
  rw [List.take_add, List.filterMap_append]
  simp
theorem pl_len {C : Code} : pl C C.length = (sq C).length := by
  rw [pl_eq (Row.mapT (pl C))]; simp [sq]
theorem pl_lt {C : Code} {i : Nat} {r : Row} (h : C[i]? = some (some r)) : pl C i < (sq C).length := (List.getElem?_eq_some_iff.mp (sq_get h)).1
/-- where a row leads, told apart -/
theorem exec_cases {r : Row} {s t : St} {τ : List Tell} (h : exec r s = some (.go t τ)) :
    (goesOn r = true ∧ t.at' = s.at' ∧ ∀ (f : Nat → Nat) (k : Nat), exec (r.mapT f) { s with at' := k } = some (.go { t with at' := k } τ)) ∨
    (∃ j u, r = .jmp j u ∧ t.at' = u ∧ ∀ (f : Nat → Nat) (k : Nat), exec (r.mapT f) { s with at' := k } = some (.go { t with at' := f u } τ)) := by
  obtain ⟨e, he, _, ho⟩ := exec_eff h
  cases he with
  | st hs g m => cases e with
    | go => cases ho; exact .inl ⟨g rfl, rfl, fun f _ => exec_of (m f)⟩
    | to => exact nomatch hs
    | fin => exact nomatch ho
  | to hr m => cases ho; subst hr; exact .inr ⟨_, _, rfl, rfl, fun f _ => exec_of (m f)⟩
theorem exec_fin {r : Row} {s : St} {e : Fin} (h : exec r s = some (.fin e)) (f : Nat → Nat) (k : Nat) : exec (r.mapT f) { s with at' := k } = some (.fin e) := by
  obtain ⟨e', he, _, ho⟩ := exec_eff h
  cases he with
  | st hs g m => cases e' with
    | go => exact nomatch ho
    | to => exact nomatch hs
    | fin => cases ho; exact exec_of (m f)
  | to hr m => exact nomatch ho
theorem some_get {P : List Row} {i : Nat} {r : Row} (h : P[i]? = some r) : (P.map some)[i]? = some (some r) := by simp [h]
theorem some_inv {P : List Row} {i : Nat} {o : Option Row} (h : (P.map some)[i]? = some o) : ∃ r, o = some r ∧ P[i]? = some r := by
  rw [List.getElem?_map] at h
  cases e : P[i]? with
  | none => rw [e] at h; simp at h
  | some r => rw [e] at h; simp at h; exact ⟨r, h.symm, rfl⟩
theorem nxt_map {P : List Row} {i : Nat} : nxt (P.map some) i = i := nxt_of (Nat.le_refl _) (fun x a b => by lia) (fun h => by obtain ⟨r, e, _⟩ := some_inv h; cases e)
theorem imp_sq {C : Code} (h0 : Safe C s0) : Imp C ((sq C).map some) := by
  refine imp_of_sim (R := fun s s' => s' = { s with at' := pl C s.at' }) (m := fun _ => 0) h0 rfl fun s s' hs hsafe => ?_
  subst hs
  obtain ⟨o, ho⟩ := hsafe.step
  obtain ⟨r, hr, he⟩ := step_inv ho
  have hr' : ((sq C).map some)[pl C s.at']? = some (some (r.mapT (pl C))) := by
    rw [← pl_nxt]; exact some_get (sq_get hr)
  have hstep := step_at (C := (sq C).map some) (s := { s with at' := pl C s.at' }) (k := pl C s.at') nxt_map hr'
  cases o with
  | go t τ =>
    rcases exec_cases he with ⟨_, e, hf⟩ | ⟨j, u, rfl, e, hf⟩
    · refine .one ho (t' := { t with at' := pl C s.at' + 1 }) (by rw [hstep]; exact hf (pl C) (pl C s.at' + 1)) ?_
      dsimp only at e
      rw [e, pl_some hr, pl_nxt]
    · refine .one ho (t' := { t with at' := pl C u }) (by rw [hstep]; exact hf (pl C) (pl C s.at' + 1)) ?_
      rw [e]
  | fin e =>
    exact .fin (k := 1) (j := 1) (Nat.le_refl _) (Nat.le_refl _) (fun n hn => zero_run hn) (run_end ho) (run_end (by rw [hstep]; exact exec_fin he _ _))
/-- rows that no run comes to -/
theorem imp_live {P : List Row} {C' : Code} {m : Nat → Bool} (h0 : Safe (P.map some) s0) (hm0 : m 0 = true) (hC : ∀ i r, P[i]? = some r → m i = true → C'[i]? = some (some r))
    (hgo : ∀ i r, P[i]? = some r → m i = true → goesOn r = true → m (i + 1) = true) (hj : ∀ i j t, P[i]? = some (.jmp j t) → m i = true → m t = true) : Imp (P.map some) C' := by
  refine imp_of_sim (R := fun s s' => s' = s ∧ m s.at' = true) (m := fun _ => 0) h0 ⟨rfl, hm0⟩ fun s s' hs hsafe => ?_
  obtain ⟨rfl, hm⟩ := hs
  obtain ⟨o, ho⟩ := hsafe.step
  obtain ⟨r, hr, he⟩ := step_inv ho
  rw [nxt_map] at hr he
  obtain ⟨r', e1, hr1⟩ := some_inv hr
  cases e1
  have hc := hC _ _ hr1 hm
  have hstep := step_at (C := C') (nxt_self hc) hc
  cases o with
  | go t τ =>
    refine .one ho (by rw [hstep]; exact he) ⟨rfl, ?_⟩
    rcases exec_cases he with ⟨g, e, _⟩ | ⟨j, u, rfl, e, _⟩
    · dsimp only at e; rw [e]; exact hgo _ _ hr1 hm g
    · rw [e]; exact hj _ _ _ hr1 hm
  | fin e => exact .fin (k := 1) (j := 1) (Nat.le_refl _) (Nat.le_refl _) (fun n hn => zero_run hn) (run_end ho) (run_end (by rw [hstep]; exact he))
/-! ## jumps led on -/
inductive JChain (P : List Row) : Nat → Nat → Prop
  | here (t : Nat) : JChain P t t
  | more {t u v : Nat} (h : P[t]? = some (.jmp .jump u)) (c : JChain P u v) : JChain P t v
theorem chain_run {P : List Row} {t v : Nat} (c : JChain P t v) : ∀ s : St, s.at' = t → ∃ k, run (P.map some) k s = some ([], .inl { s with at' := v }) := by
  induction c with
  | here t => intro s hs; exact ⟨0, by subst hs; rfl⟩
  | more h c ih =>
    rename_i t u v
    intro s hs
    obtain ⟨k, e⟩ := ih { s with at' := u } rfl
    refine ⟨k + 1, ?_⟩
    have : step (P.map some) s = some (.go { s with at' := u } []) := by
      rw [step_at (k := t) (by rw [nxt_map]; exact hs) (some_get h)]; rfl
    rw [run_step this, e]; rfl
theorem JChain.snoc {P : List Row} {t u v : Nat} (c : JChain P t u) (h : P[u]? = some (.jmp .jump v)) : JChain P t v := by
  induction c with
  | here t => exact .more h (.here _)
  | more h' c ih => exact .more h' (ih h)
/-- where a branch leads -/
noncomputable def brTo (j : J) (t i : Nat) (x : Val) (r : List Val) (s : St) : St :=
  if j.so x then { s with stk := if j.pops then r else x :: r, at' := t } else { s with stk := r, at' := i + 1 }
/-- what `chained` may give -/
inductive ChRel (P : List Row) : J → Nat → J → Nat → Prop
  | same (j t) : ChRel P j t j t
  | dd {t u} : P[t]? = some (.jmp .dorj u) → ChRel P .dorj t .dorj u
  | di {t u} : P[t]? = some (.jmp .ifd u) → ChRel P .dorj t .ifd u
  | oo {t u} : P[t]? = some (.jmp .orj u) → ChRel P .orj t .orj u
  | ot {t u} : P[t]? = some (.jmp .ift u) → ChRel P .orj t .ift u
  | oa {t u} : P[t]? = some (.jmp .andj u) ∨ P[t]? = some (.jmp .iff u) → ChRel P .orj t .ift (t + 1)
  | aa {t u} : P[t]? = some (.jmp .andj u) → ChRel P .andj t .andj u
  | af {t u} : P[t]? = some (.jmp .iff u) → ChRel P .andj t .iff u
  | ao {t u} : P[t]? = some (.jmp .orj u) ∨ P[t]? = some (.jmp .ift u) → ChRel P .andj t .iff (t + 1)
theorem br_run {P : List Row} {j : J} {t i : Nat} {x : Val} {r : List Val} {s : St} (hj : j ≠ .jump) (h : P[i]? = some (.jmp j t)) (hs : s.at' = i) (hx : s.stk = x :: r) : run (P.map some) 1 s = some ([], .inl (brTo j t i x r s)) := by
  refine run_one ?_
  rw [step_at (k := i) (by rw [nxt_map]; exact hs) (some_get h), exec_jmp (s := { s with at' := i + 1 }) (x := x) (r := r) hj hx]
  unfold brTo
  dsimp only
  rw [hx]
theorem run_cat {C : Code} {k m : Nat} {s t u : St} (h1 : run C k s = some ([], .inl t)) (h2 : run C m t = some ([], .inl u)) : run C (k + m) s = some ([], .inl u) := by
  rw [run_go h1, h2]; rfl
/-- a branch, its jumps led on, its chain shortened -/
theorem chain_br {P : List Row} {j j2 : J} {t t1 t2 i : Nat} {x : Val} {r : List Val} {s : St} (hj : j ≠ .jump) (h : P[i]? = some (.jmp j t)) (c : JChain P t t1) (hc : ChRel P j t1 j2 t2) (hs : s.at' = i) (hx : s.stk = x :: r) :
    ∃ k, 1 ≤ k ∧ run (P.map some) k s = some ([], .inl (brTo j2 t2 i x r s)) := by
  have h1 := br_run hj h hs hx
  -- up to the end of the jumps
  have h2 : ∃ k, 1 ≤ k ∧ run (P.map some) k s = some ([], .inl (brTo j t1 i x r s)) := by
    cases hso : j.so x with
    | false =>
      refine ⟨1, Nat.le_refl _, ?_⟩
      rw [h1]; unfold brTo; rw [hso]; rfl
    | true =>
      obtain ⟨k, e⟩ := chain_run c (brTo j t i x r s) (by unfold brTo; rw [hso]; rfl)
      refine ⟨1 + k, by lia, ?_⟩
      rw [run_cat h1 e]; unfold brTo; rw [hso]; rfl
  obtain ⟨k, hk, e⟩ := h2
  -- a second branch on the same value
  have two : ∀ {j' : J} {u : Nat}, j' ≠ .jump → P[t1]? = some (.jmp j' u) → j.pops = false → j.so x = true → run (P.map some) (k + 1) s = some ([], .inl (brTo j' u t1 x r s)) := by
    intro j' u hj' hu hp hso
    have e' : run (P.map some) k s = some ([], .inl { s with stk := x :: r, at' := t1 }) := by
      rw [e]; unfold brTo; rw [hso, hp]; rfl
    refine run_cat e' ?_
    rw [br_run (x := x) (r := r) hj' hu rfl rfl]
    unfold brTo; dsimp only
  have fall : ∀ {j' : J} {u : Nat}, j.so x = false → j'.so x = false → run (P.map some) k s = some ([], .inl (brTo j' u i x r s)) := by
    intro j' u hso hso'
    rw [e]; unfold brTo; rw [hso, hso']; rfl
  cases hc with
  | same => exact ⟨k, hk, e⟩
  | dd hu =>
    cases hso : J.dorj.so x with
    | true => refine ⟨k + 1, by lia, ?_⟩; rw [two (by decide) hu rfl hso]; unfold brTo; rw [hso]; rfl
    | false => exact ⟨k, hk, fall hso hso⟩
  | di hu =>
    cases hso : J.dorj.so x with
    | true =>
      have h' : J.ifd.so x = true := hso
      refine ⟨k + 1, by lia, ?_⟩; rw [two (by decide) hu rfl hso]; unfold brTo; rw [h']; rfl
    | false => exact ⟨k, hk, fall hso hso⟩
  | oo hu =>
    cases hso : J.orj.so x with
    | true => refine ⟨k + 1, by lia, ?_⟩; rw [two (by decide) hu rfl hso]; unfold brTo; rw [hso]; rfl
    | false => exact ⟨k, hk, fall hso hso⟩
  | ot hu =>
    cases hso : J.orj.so x with
    | true =>
      have h' : J.ift.so x = true := hso
      refine ⟨k + 1, by lia, ?_⟩; rw [two (by decide) hu rfl hso]; unfold brTo; rw [h']; rfl
    | false => exact ⟨k, hk, fall hso hso⟩
  | oa hu =>
    cases hso : J.orj.so x with
    | true =>
      have h' : J.ift.so x = true := hso
      have ht : isT x = true := hso
      rcases hu with hu | hu
      · have h3 : J.andj.so x = false := by simp [J.so, ht]
        refine ⟨k + 1, by lia, ?_⟩; rw [two (by decide) hu rfl hso]; unfold brTo; rw [h', h3]; rfl
      · have h3 : J.iff.so x = false := by simp [J.so, ht]
        refine ⟨k + 1, by lia, ?_⟩; rw [two (by decide) hu rfl hso]; unfold brTo; rw [h', h3]; rfl
    | false => exact ⟨k, hk, fall hso hso⟩
  | aa hu =>
    cases hso : J.andj.so x with
    | true => refine ⟨k + 1, by lia, ?_⟩; rw [two (by decide) hu rfl hso]; unfold brTo; rw [hso]; rfl
    | false => exact ⟨k, hk, fall hso hso⟩
  | af hu =>
    cases hso : J.andj.so x with
    | true =>
      have h' : J.iff.so x = true := hso
      refine ⟨k + 1, by lia, ?_⟩; rw [two (by decide) hu rfl hso]; unfold brTo; rw [h']; rfl
    | false => exact ⟨k, hk, fall hso hso⟩
  | ao hu =>
    cases hso : J.andj.so x with
    | true =>
      have h' : J.iff.so x = true := hso
      have ht : isT x = false := by simpa [J.so] using hso
      rcases hu with hu | hu
      · have h3 : J.orj.so x = false := by simp [J.so, ht]
        refine ⟨k + 1, by lia, ?_⟩; rw [two (by decide) hu rfl hso]; unfold brTo; rw [h', h3]; rfl
      · have h3 : J.ift.so x = false := by simp [J.so, ht]
        refine ⟨k + 1, by lia, ?_⟩; rw [two (by decide) hu rfl hso]; unfold brTo; rw [h', h3]; rfl
    | false => exact ⟨k, hk, fall hso hso⟩
/-- what a threaded row may be -/
inductive ThrRel (P : List Row) (i : Nat) : Row → Option Row → Prop
  | same {r} : (∀ j t, r ≠ .jmp j t) → ThrRel P i r (some r)
  | jump {t t1} : JChain P t t1 → t1 ≠ i + 1 → ThrRel P i (.jmp .jump t) (some (.jmp .jump t1))
  | gone {t} : JChain P t (i + 1) → ThrRel P i (.jmp .jump t) none
  | br {j t t1 j2 t2} : j ≠ .jump → JChain P t t1 → ChRel P j t1 j2 t2 → ThrRel P i (.jmp j t) (some (.jmp j2 t2))
  | dropped {j t t1 j2} : j ≠ .jump → JChain P t t1 → ChRel P j t1 j2 (i + 1) → j2.pops = true → ThrRel P i (.jmp j t) (some .drop)
theorem ChRel.jump {P : List Row} {j j2 : J} {t t2 : Nat} (h : ChRel P j t j2 t2) (hj : j ≠ .jump) : j2 ≠ .jump := by
  cases h <;> first | exact hj | nofun
theorem imp_thread {P : List Row} {C' : Code} (h0 : Safe (P.map some) s0) (hC : ∀ i r, P[i]? = some r → ∃ o, C'[i]? = some o ∧ ThrRel P i r o) : Imp (P.map some) C' := by
  refine imp_of_sim (R := fun s s' => Al C' s s') (m := fun s => P.length - s.at') h0 (.refl _) fun s s' ha hsafe => ?_
  obtain ⟨o, ho⟩ := hsafe.step
  obtain ⟨r, hr, he⟩ := step_inv ho
  rw [nxt_map] at hr he
  obtain ⟨r', e1, hr1⟩ := some_inv hr
  cases e1
  obtain ⟨q, hq, hth⟩ := hC _ _ hr1
  have hstk : ∀ {j t}, r = .jmp j t → j ≠ .jump → ∃ x rs, s.stk = x :: rs := fun {j t} e hj => by
    subst e
    obtain ⟨_, _, h2, _⟩ := exec_eff he
    obtain ⟨x, rs, hx, _⟩ := pop1_some ((eff_jmp hj).symm.trans h2)
    exact ⟨x, rs, hx⟩
  cases hth with
  | same hne =>
    have hstep : step C' s' = some o := by rw [ha.step, step_at (nxt_self hq) hq]; exact he
    cases o with
    | go t τ => exact .one ho hstep (.refl _)
    | fin e => exact .fin (k := 1) (j := 1) (Nat.le_refl _) (Nat.le_refl _) (fun n hn => zero_run hn) (run_end ho) (run_end hstep)
  | jump c hne =>
    rename_i t t1
    obtain ⟨k, e⟩ := chain_run (JChain.more hr1 c) s rfl
    have hstep : step C' s' = some (.go { s with at' := t1 } []) := by rw [ha.step, step_at (nxt_self hq) hq]; rfl
    cases k with
    | zero =>
      have e1 : run (P.map some) 1 s = some ([], .inl { s with at' := t }) := by
        refine run_one ?_
        rw [step_at (k := s.at') nxt_map hr]; rfl
      obtain ⟨k2, e2⟩ := chain_run c { s with at' := t } rfl
      exact .silent (k := 1 + k2) (j := 1) (by lia) (by lia) (run_cat e1 e2) (run_one hstep) (.refl _) (.inl (Nat.le_refl _))
    | succ k => exact .silent (k := k + 1) (j := 1) (by lia) (by lia) e (run_one hstep) (.refl _) (.inl (Nat.le_refl _))
  | gone c =>
    rename_i t
    have e1 : run (P.map some) 1 s = some ([], .inl { s with at' := t }) := by
      refine run_one ?_
      rw [step_at (k := s.at') nxt_map hr]; rfl
    obtain ⟨k2, e2⟩ := chain_run c { s with at' := t } rfl
    have hlt : s.at' < P.length := (List.getElem?_eq_some_iff.mp hr1).1
    refine .silent (k := 1 + k2) (j := 0) (by lia) (by lia) (run_cat e1 e2) rfl ⟨?_, ?_⟩ (.inr ?_)
    · rw [ha.1]
    · rw [ha.2]; exact nxt_none (k := s.at' + 1) (by lia) (fun x h1 h2 => by have e : x = s.at' := (by lia); rw [e]; exact hq)
    · show P.length - (s.at' + 1) < P.length - s.at'; lia
  | br hj c hc =>
    rename_i j t t1 j2 t2
    obtain ⟨x, rs, hx⟩ := hstk rfl hj
    obtain ⟨k, hk, e⟩ := chain_br hj hr1 c hc rfl hx
    have hstep : step C' s' = some (.go (brTo j2 t2 s.at' x rs s) []) := by
      rw [ha.step, step_at (nxt_self hq) hq, exec_jmp (s := { s with at' := s.at' + 1 }) (x := x) (r := rs) (hc.jump hj) hx]
      unfold brTo; dsimp only; rw [hx]
    exact .silent (j := 1) hk hk e (run_one hstep) (.refl _) (.inl (Nat.le_refl _))
  | dropped hj c hc hp =>
    rename_i j t t1 j2
    obtain ⟨x, rs, hx⟩ := hstk rfl hj
    obtain ⟨k, hk, e⟩ := chain_br hj hr1 c hc rfl hx
    have hstep : step C' s' = some (.go (brTo j2 (s.at' + 1) s.at' x rs s) []) := by
      rw [ha.step, step_at (nxt_self hq) hq]
      refine (exec_of (r := .drop) (e := .go rs s.ln s.sc s.bg []) (by rw [hx]; rfl)).trans ?_
      unfold brTo; rw [hp]; cases j2.so x <;> rfl
    exact .silent (j := 1) hk hk e (run_one hstep) (.refl _) (.inl (Nat.le_refl _))
end Mine
namespace Mine
noncomputable def ValOk (b : Nat) : Val → Prop
  | .int i => i.natAbs ≤ 2 ^ b
  | .str k => k < 6
  | .non => True
theorem ValOk.up {b c : Nat} {v : Val} (h : ValOk b v) (hb : b ≤ c) : ValOk c v := by
  cases v with
  | int i => exact Nat.le_trans h (Nat.pow_le_pow_right (by decide) hb)
  | _ => exact h
/-- what a row of a code is like -/
noncomputable def RowOk (b : Nat) (r : Row) : Prop := match r with
  | .const v => ValOk b v
  | .line c => c.natAbs ≤ 9
  | .func _ x y => x.natAbs ≤ 9 ∧ y.natAbs ≤ 9
  | _ => True
structure Good (b : Nat) (P : List Row) : Prop where
  safe : Safe (P.map some) s0
  tg : ∀ (i : Nat) (j : J) (t : Nat), P[i]? = some (.jmp j t) → t < P.length
  last : ∀ (i : Nat) (r : Row), P[i]? = some r → goesOn r = true → i + 1 < P.length
  row : ∀ {i : Nat} {r : Row}, P[i]? = some r → RowOk b r
  len : P.length ≤ 67
  ne : 0 < P.length
theorem RowOk.mono {b c : Nat} {r : Row} (h : RowOk b r) (hb : b ≤ c) : RowOk c r := by
  cases r with
  | const v => exact ValOk.up h hb
  | _ => exact h
theorem Good.mono {b c : Nat} {P : List Row} (g : Good b P) (h : b ≤ c) : Good c P := { g with row := fun e => (g.row e).mono h }
theorem goesOn_map {r : Row} {f : Nat → Nat} : goesOn (r.mapT f) = goesOn r := by
  cases r with
  | jmp j t => cases j <;> rfl
  | _ => rfl
theorem rowOk_map {r : Row} {f : Nat → Nat} {b : Nat} (h : RowOk b r) : RowOk b (r.mapT f) := by
  cases r <;> exact h
theorem fm_src {α β : Type} (f : α → Option β) : ∀ (l : List α) (k : Nat) (y : β), (l.filterMap f)[k]? = some y → ∃ (i : Nat) (x : α), l[i]? = some x ∧ f x = some y ∧ ((l.take i).filterMap f).length = k
  | [], k, y, h => by simp at h
  | z :: l, k, y, h => by
    rw [List.filterMap_cons] at h
    cases e : f z with
    | none =>
      rw [e] at h
      obtain ⟨i, x, h1, h2, h3⟩ := fm_src f l k y h
      exact ⟨i + 1, x, by simpa using h1, h2, by simpa [List.filterMap_cons, e] using h3⟩
    | some w =>
      rw [e] at h
      cases k with
      | zero =>
        simp only [List.getElem?_cons_zero, Option.some.injEq] at h
        exact ⟨0, z, rfl, by rw [e, h], rfl⟩
      | succ k =>
        obtain ⟨i, x, h1, h2, h3⟩ := fm_src f l k y (by simpa using h)
        exact ⟨i + 1, x, by simpa using h1, h2, by simp [List.filterMap_cons, e, h3]⟩
theorem sq_src {C : Code} {k : Nat} {r : Row} (h : (sq C)[k]? = some r) : ∃ (i : Nat) (q : Row), C[i]? = some (some q) ∧ r = q.mapT (pl C) ∧ pl C i = k := by
  obtain ⟨i, x, h1, h2, h3⟩ := fm_src _ C k r h
  cases x with
  | none => simp at h2
  | some q => exact ⟨i, q, h1, by simpa using h2.symm, by rw [pl_eq (Row.mapT (pl C))]; exact h3⟩
theorem good_sq {b c : Nat} {P : List Row} {C : Code} (g : Good b P) (hlen : C.length = P.length) (hi : Imp (P.map some) C)
    (h : ∀ (i : Nat) (r : Row), C[i]? = some (some r) → RowOk c r ∧ (∀ j t, r = .jmp j t → pl C t < (sq C).length) ∧ (goesOn r = true → pl C (i + 1) < (sq C).length)) :
    Good c (sq C) ∧ Imp (P.map some) ((sq C).map some) ∧ (sq C).length ≤ P.length := by
  have him := hi.trans (imp_sq hi.1)
  have hl : (sq C).length ≤ P.length := by rw [← hlen]; exact sq_len
  have hok : ∀ (i : Nat) (r : Row), (sq C)[i]? = some r → RowOk c r := fun i r e => by
    obtain ⟨x, q, h1, rfl, _⟩ := sq_src e
    exact rowOk_map (h x q h1).1
  refine ⟨⟨him.1, fun i j t e => ?_, fun i r e hg => ?_, fun e => hok _ _ e, Nat.le_trans hl g.len, ?_⟩, him, hl⟩
  · obtain ⟨x, q, h1, h2, _⟩ := sq_src e
    cases q with
    | jmp j' u =>
      simp only [Row.mapT, Row.jmp.injEq] at h2
      rw [h2.2]; exact (h x _ h1).2.1 _ _ rfl
    | _ => simp [Row.mapT] at h2
  · obtain ⟨x, q, h1, rfl, h3⟩ := sq_src e
    rw [goesOn_map] at hg
    rw [← h3, ← pl_some h1]
    exact (h x q h1).2.2 hg
  · rcases Nat.eq_zero_or_pos (sq C).length with hz | hz
    · exfalso
      have hz' : (sq C) = [] := List.eq_nil_of_length_eq_zero hz
      obtain ⟨o, ho⟩ := him.1.step
      obtain ⟨r, hr, _⟩ := step_inv ho
      rw [hz'] at hr; simp at hr
    · exact hz
/-- when the last row stays -/
theorem good_keep {b c : Nat} {P : List Row} {C : Code} (g : Good b P) (hlen : C.length = P.length) (hi : Imp (P.map some) C)
    (hlast : ∃ r, C[P.length - 1]? = some (some r) ∧ goesOn r = false)
    (h : ∀ (i : Nat) (r : Row), C[i]? = some (some r) → RowOk c r ∧ (∀ j t, r = .jmp j t → t < P.length)) :
    Good c (sq C) ∧ Imp (P.map some) ((sq C).map some) ∧ (sq C).length ≤ P.length := by
  obtain ⟨rl, hl, hg⟩ := hlast
  have hne := g.ne
  refine good_sq g hlen hi fun i r e => ⟨(h i r e).1, fun j t ej => ?_, fun hgo => ?_⟩
  · have := (h i r e).2 j t ej
    exact Nat.lt_of_le_of_lt (pl_mono (by lia)) (pl_lt hl)
  · have hi' : i < C.length := (List.getElem?_eq_some_iff.mp e).1
    have : i ≠ P.length - 1 := fun z => by
      subst z; rw [hl] at e; cases e; rw [hg] at hgo; cases hgo
    exact Nat.lt_of_le_of_lt (pl_mono (by lia)) (pl_lt hl)
theorem Good.lastRow {b : Nat} {P : List Row} (g : Good b P) : ∃ r, P[P.length - 1]? = some r ∧ goesOn r = false := by
  have hne := g.ne
  refine ⟨P[P.length - 1], by simp [hne], ?_⟩
  cases e : goesOn P[P.length - 1] with
  | false => rfl
  | true =>
    have := g.last (P.length - 1) _ (by simp [hne]) e
    lia
end Mine
namespace Mine
theorem orv_some (P : List Row) : (P.map some).map orv = P.map Row.v := by rw [List.map_map]; rfl
theorem mapGet {α : Type} {P : List α} {f : α → V} {i : Nat} {r : α} (h : P[i]? = some r) : (P.map f)[i]? = some (f r) := by rw [List.getElem?_map, h]; rfl
theorem mapInv {α : Type} {P : List α} {f : α → V} {i : Nat} {d : V} (h : (P.map f)[i]? = some d) : ∃ r, P[i]? = some r ∧ d = f r := by
  rw [List.getElem?_map] at h
  obtain ⟨r, e, rfl⟩ := Option.map_eq_some_iff.mp h
  exact ⟨r, e, rfl⟩
theorem LBle {n : Nat} (h : n ≤ 1000) : n ≤ LB := Nat.le_trans h (by decide)
theorem map_len {α : Type} {f : α → V} {l : List α} {n : Nat} (h : l.length ≤ n) : (l.map f).length ≤ n := by rw [List.length_map]; exact h
theorem tg_le (r : Row) : r.tg.length ≤ 1 := by cases r <;> exact Nat.le_of_ble_eq_true rfl
/-- the one place that a row jumps to -/
theorem tg_get {r : Row} {k : Nat} {d : V} (h : r.tg[k]? = some d) : k = 0 ∧ ∃ (j : J) (t : Nat), r = .jmp j t ∧ d = .int t := by
  cases r with
  | jmp j t =>
    cases k with
    | zero => exact ⟨rfl, j, t, rfl, (Option.some.inj h).symm⟩
    | succ k => exact nomatch h
  | _ => exact nomatch h
theorem tg_j {r : Row} {j : J} {t : Nat} (e : r = .jmp j t) : r.tg = [.int t] := by subst e; rfl
/-- which places some row jumps to -/
inductive S_marks (σ : Sto) (Q : V → Sto → Prop) (X : Sto → Prop) : List V → Prop
  | mk (a : Addr) (P : List Row) (ha : σ a = some (P.map Row.v)) (hlen : P.length ≤ 900) (htg : ∀ (i : Nat) (j : J) (t : Nat), P[i]? = some (.jmp j t) → t < P.length)
    (h : ∀ c σ' (l : List Bool), Ext σ σ' → σ c = none → σ' c = some (l.map V.bool) → l.length = P.length + 1 → (∀ (i : Nat) (j : J) (t : Nat), P[i]? = some (.jmp j t) → l[t]? = some true) → Q (.list c) σ') : S_marks σ Q X [.list a]
inductive I5 (a c : Addr) (P : List Row) (σ : Sto) (k : Nat) : Loc → Sto → Prop
  | mk (o1 o2 : Option V) (l : List Bool) {σ' : Sto} (hx : Ext σ σ') (hc : σ' c = some (l.map V.bool)) (hl : l.length = P.length + 1) (hm : ∀ (i : Nat) (j : J) (t : Nat), i < k → P[i]? = some (.jmp j t) → l[t]? = some true) :
    I5 a c P σ k [some (.list a), some (.list c), o1, o2] σ'
inductive I5b (a c cc : Addr) (r : Row) (l : List Bool) (σ : Sto) (k : Nat) : Loc → Sto → Prop
  | mk (o : Option V) (l' : List Bool) {σ' : Sto} (hx : Ext σ σ') (hcc : σ' cc = some r.tg) (hc : σ' c = some (l'.map V.bool)) (hl : l'.length = l.length) (hk : ∀ t : Nat, l[t]? = some true → l'[t]? = some true) (hn : 1 ≤ k → ∀ j t, r = .jmp j t → l'[t]? = some true) :
    I5b a c cc r l σ k [some (.list a), some (.list c), some r.v, o] σ'
theorem rep_bool : ∀ (k : Nat), (List.replicate k [V.bool false]).flatten = (List.replicate k false).map V.bool
  | 0 => rfl
  | k + 1 => congrArg (V.bool false :: ·) (rep_bool k)
theorem f_goal_marks {K : Ctx} (hj : FnOK K 2 (.ref 215) fun ds σ Q X => S_jumps σ Q X ds) (h : chkFn K.frag 242 p_goal_marks n_goal_marks m_goal_marks = true) : FnOK K 3 (.ref 242) fun ds σ Q X => S_marks σ Q X ds := fnPure h fun ds σ Q X hS => by
  induction hS with | mk a P ha hlen htg hq => ?_
  refine ⟨rfl, ?_⟩
  (repeat first | walk_at "go")
  refine ⟨len_ok rfl, fun c0 hc0 => ?_⟩
  (repeat first | walk_at "go")
  refine ⟨_, Ext.new hc0 _ _ ha, ?_⟩
  (repeat first | walk_at "go")
  have e0 : (((P.map Row.v).length : Int) + 1).toNat = P.length + 1 := by rw [List.length_map]; rfl
  refine ⟨put_self _ _ _, by lia, by rw [List.length_map]; lia, by rw [e0]; exact Nat.le_trans (Nat.le_of_eq (Nat.one_mul _)) (LBle (by lia)), fun c hc => ?_⟩
  have x0 : Ext σ (put σ c0 [.bool false]) := Ext.new hc0
  have hcn : σ c = none := x0.none hc
  rw [e0, rep_bool]
  have x1 : Ext σ (put (put σ c0 [.bool false]) c ((List.replicate (P.length + 1) false).map V.bool)) := x0.trans (Ext.new hc)
  (repeat first | walk_at "go")
  refine for_list (I5 a c P σ) (x1 a _ ha) noX (map_len (LBle (by lia))) (.mk none none _ x1 (put_self _ _ _) List.length_replicate nofun) (fun k ρ σ' hI => ?_) (fun k d ρ σ' hk hI => ?_) (fun ρ σ' hI => ?_)
  · induction hI with | mk o1 o2 l hx => exact hx a _ ha
  · induction hI with | mk o1 o2 l hx hcl hll hmk => ?_
    obtain ⟨r, hr, rfl⟩ := mapInv hk
    (repeat first | walk_at "go")
    refine ⟨_, 2, by decide, hj, .mk r fun cc hcc => ?_⟩
    have hne : c ≠ cc := Ext.ne hcl hcc
    (repeat first | walk_at "go")
    refine for_list (I5b a c cc r l σ) (put_self _ _ _) noX (Nat.le_trans (tg_le r) (by decide)) (.mk o2 l (hx.trans (Ext.new hcc)) (put_self _ _ _) ((put_ne hne).trans hcl) rfl (fun _ z => z) nofun) (fun k ρ σ' hI => ?_) (fun kk d ρ σ' hkk hI => ?_) (fun ρ σ' hI => ?_)
    · induction hI with | mk o l' hx hcc => exact hcc
    · induction hI with | mk o l' hx2 hcc2 hc2 hll2 hkeep _ => ?_
      obtain ⟨rfl, j, t, hrj, rfl⟩ := tg_get hkk
      have ht : t < l'.length := by rw [hll2, hll]; exact Nat.lt_succ_of_lt (htg k j t (hrj ▸ hr))
      (repeat first | walk_at "go")
      refine ⟨_, hc2, by lia, by rw [List.length_map]; exact ht, ?_⟩
      (repeat first | walk_at "go")
      refine .mk (some (.int t)) (l'.set t true) (hx2.put hcn) ((put_ne hne.symm).trans hcc2) ((put_self _ _ _).trans (congrArg some List.map_set.symm)) (List.length_set.trans hll2) (fun u hu => ?_) (fun _ j' t' e' => ?_)
      · exact if hu2 : t = u then by subst hu2; exact List.getElem?_set_self ht else (List.getElem?_set_ne hu2).trans (hkeep u hu)
      · obtain ⟨_, rfl⟩ := Row.jmp.inj (hrj.symm.trans e')
        exact List.getElem?_set_self ht
    · induction hI with | mk o l' hx2 hcc2 hc2 hll2 hkeep hnew => ?_
      (repeat first | walk_at "go")
      refine .mk _ _ l' hx2 hc2 (hll2.trans hll) fun i j t hi e => ?_
      rcases Nat.lt_or_eq_of_le (Nat.le_of_lt_succ hi) with h1 | rfl
      · exact hkeep t (hmk i j t h1 e)
      · have e : r = .jmp j t := Option.some.inj (hr.symm.trans e)
        exact hnew (by rw [tg_j e]; exact Nat.le_refl _) j t e
  · induction hI with | mk o1 o2 l hx hcl hll hmk => ?_
    (repeat first | walk_at "go")
    exact hq c _ l hx hcn hcl hll fun i j t e => hmk i j t (by rw [List.length_map]; exact get_lt e) e
end Mine
namespace Mine
theorem isn_row {r : Row} {σ : Sto} {Q : Bool → Prop} (h : Q true) : vCmp .IsNot r.v .non σ Q := by rw [row_l r]; exact h
noncomputable def Row.gl (f : Nat → Nat) : Row → Nat
  | .jmp _ t => f t
  | _ => 0
noncomputable def kp (C : Code) : List Row := C.filterMap id
theorem sq_kp (C : Code) : sq C = (kp C).map (Row.mapT (pl C)) := by
  unfold sq kp
  generalize pl C = f
  induction C with
  | nil => rfl
  | cons o l ih => cases o with
    | none => exact ih
    | some r => exact congrArg (r.mapT f :: ·) ih
theorem to_map {r : Row} {f : Nat → Nat} {t' : Nat} (h : ∀ j t, r = .jmp j t → t' = f t) : r.to t' = r.mapT f := by
  cases r with
  | jmp j t => exact congrArg (Row.jmp j) (h j t rfl)
  | _ => rfl
theorem kp_take_some {C : Code} {k : Nat} {r : Row} (h : C[k]? = some (some r)) : kp (C.take (k + 1)) = kp (C.take k) ++ [r] := by
  unfold kp; rw [List.take_add_one, h, List.filterMap_append]; rfl
theorem kp_take_none {C : Code} {k : Nat} (h : C[k]? = some none) : kp (C.take (k + 1)) = kp (C.take k) := by
  unfold kp; rw [List.take_add_one, h, List.filterMap_append]; exact List.append_nil _
theorem kp_len {C : Code} {k : Nat} : (kp (C.take k)).length = pl C k := rfl
theorem kp_le {C : Code} {k : Nat} : (kp (C.take k)).length ≤ C.length := Nat.le_trans (List.length_filterMap_le _ _) (List.length_take_le' _ _)
theorem kp_le' {C : Code} : (kp C).length ≤ C.length := List.length_filterMap_le _ _
noncomputable def plL (C : Code) (k : Nat) : List V := (List.range k).map fun i => V.int (pl C i : Nat)
theorem plL_succ {C : Code} {k : Nat} {l : List V} (h : l = (kp (C.take k)).map Row.v) : plL C k ++ [V.int (l.length : Nat)] = plL C (k + 1) := by
  subst h
  unfold plL
  rw [List.range_succ, List.map_append, List.length_map, kp_len]; rfl
theorem plL_get {C : Code} {n t : Nat} (h : t < n) : (plL C n)[t]? = some (.int (pl C t : Nat)) := by
  unfold plL
  rw [List.getElem?_map, List.getElem?_range h]; rfl
theorem plL_len {C : Code} {k : Nat} : (plL C k).length = k := by rw [plL, List.length_map, List.length_range]
theorem kp_tg {C : Code} {k : Nat} {j : J} {t : Nat} (htg : ∀ (i : Nat) (j : J) (t : Nat), C[i]? = some (some (.jmp j t)) → t < C.length) (h : (kp C)[k]? = some (.jmp j t)) : t < C.length := by
  obtain ⟨o, ho, he⟩ := List.mem_filterMap.mp (List.mem_of_getElem? h)
  obtain ⟨x, hx⟩ := List.getElem?_of_mem ho
  have he : o = some (.jmp j t) := he
  exact htg x j t (he ▸ hx)
inductive S_sq (σ : Sto) (Q : V → Sto → Prop) (X : Sto → Prop) : List V → Prop
  | mk (a : Addr) (C : Code) (ha : σ a = some (C.map orv)) (hlen : C.length ≤ 900) (htg : ∀ (i : Nat) (j : J) (t : Nat), C[i]? = some (some (.jmp j t)) → t < C.length)
    (h : ∀ c σ', Ext σ σ' → σ c = none → σ' c = some ((sq C).map Row.v) → Q (.list c) σ') : S_sq σ Q X [.list a]
inductive I6 (a b c : Addr) (C : Code) (σ : Sto) (k : Nat) : Loc → Sto → Prop
  | mk (o3 o4 : Option V) {σ' : Sto} (hx : Ext σ σ') (hb : σ' b = some (plL C k)) (hc : σ' c = some ((kp (C.take k)).map Row.v)) : I6 a b c C σ k [some (.list a), some (.list b), some (.list c), o3, o4] σ'
/-- the new place of the row's goal, once it is listed -/
inductive I6b (c : Addr) (C : Code) (r : Row) (σ : Sto) (k : Nat) (σ' : Sto) : Prop
  | mk (l : List V) (hx : Ext σ σ') (hc : σ' c = some l) (h0 : k = 0 → l = []) (h1 : 1 ≤ k → ∀ j t, r = .jmp j t → l = [.int (pl C t : Nat)])
theorem f_squeezed {K : Ctx} (hj : FnOK K 2 (.ref 215) fun ds σ Q X => S_jumps σ Q X ds) (hw : FnOK K 2 (.ref 222) fun ds σ Q X => S_with σ Q X ds) (h : chkFn K.frag 247 p_squeezed_rows n_squeezed_rows m_squeezed_rows = true) :
    FnOK K 3 (.ref 247) fun ds σ Q X => S_sq σ Q X ds := fnPure h fun ds σ Q X hS => by
  induction hS with | mk a C ha hlen htg hq => ?_
  refine ⟨rfl, ?_⟩
  have hLB : LB = 100000 := rfl
  (repeat first | walk_at "go")
  refine ⟨Nat.zero_le _, fun b hb' => ?_⟩
  (repeat first | walk_at "go")
  refine ⟨Nat.zero_le _, fun c hc => ?_⟩
  have xb : Ext σ (put σ b []) := Ext.new hb'
  have hcn := xb.none hc
  have hbc : b ≠ c := Ext.ne (put_self _ _ _) hc
  have x1 : Ext σ (put (put σ b []) c []) := xb.trans (Ext.new hc)
  (repeat first | walk_at "go")
  refine for_list (I6 a b c C σ) (x1 a _ ha) noX (map_len (LBle (by lia))) (.mk none none x1 ((put_ne hbc).trans (put_self _ _ _)) (put_self _ _ _)) (fun k ρ σ' hI => ?_) (fun k d ρ σ' hk hI => ?_) (fun ρ σ' hI => ?_)
  · induction hI with | mk o3 o4 hx => exact hx a _ ha
  · induction hI with | @mk o3 o4 σ' hx hpb hpc => ?_
    obtain ⟨o, ho, rfl⟩ := mapInv hk
    have hkl : k < C.length := get_lt ho
    (repeat first | walk_at "go")
    refine ⟨by rw [hpb]; exact nofun, ?_⟩
    (repeat first | walk_at "go")
    refine ⟨_, hpc, ?_⟩
    (repeat first | walk_at "go")
    refine ⟨_, hpb, by rw [plL_len]; lia, ?_⟩
    rw [plL_succ rfl]
    have hx2 : Ext σ (put σ' b (plL C (k + 1))) := hx.put hb'
    have hc2 : put σ' b (plL C (k + 1)) c = some ((kp (C.take k)).map Row.v) := (put_ne hbc.symm).trans hpc
    (repeat first | walk_at "go")
    cases o with
    | none =>
      refine .f ?_
      (repeat first | walk_at "go")
      exact .mk _ o4 hx2 (put_self _ _ _) (hc2.trans (by rw [kp_take_none ho]))
    | some r =>
      refine isn_row (.t ?_)
      (repeat first | walk_at "go")
      refine ⟨by rw [hc2]; exact nofun, ?_⟩
      (repeat first | walk_at "go")
      refine ⟨_, hc2, ?_, ?_⟩
      · rw [List.length_map]
        exact Nat.le_trans (Nat.succ_le_succ kp_le) (LBle (by lia))
      · (repeat first | walk_at "go")
        exact .mk _ o4 (hx2.put hcn) ((put_ne hbc).trans (put_self _ _ _)) ((put_self _ _ _).trans (by rw [kp_take_some ho, List.map_append]; rfl))
  · induction hI with | @mk o3 o4 σ' hx hpb hpc => ?_
    rw [List.length_map] at hpb hpc
    rw [List.take_length] at hpc
    (repeat first | walk_at "go")
    refine comp_list (fun R k σ'' => Ext σ' σ'' ∧ σ'' R = some (((kp C).take k).map fun r => (r.mapT (pl C)).v)) hpc noX (map_len (Nat.le_trans kp_le' (LBle (by lia)))) (fun R hR => ⟨Ext.new hR, put_self _ _ _⟩) (fun R hR k σ'' hI => hI.1 c _ hpc) (fun R hR k d σ'' hk hI => ?_) (fun R hR σ'' hI => ?_)
    · obtain ⟨hx2, hR2⟩ := hI
      obtain ⟨r, hr, rfl⟩ := mapInv hk
      (repeat first | walk_at "go")
      refine ⟨_, 2, by decide, hw, ?_⟩
      (repeat first | walk_at "go")
      refine ⟨_, 2, by decide, hj, .mk r fun cc hcc => ?_⟩
      have x3 : Ext σ' (put σ'' cc r.tg) := hx2.trans (Ext.new hcc)
      (repeat first | walk_at "go")
      refine comp_list (fun c2 => I6b c2 C r (put σ'' cc r.tg)) (put_self _ _ _) noX (Nat.le_trans (tg_le r) (by decide)) (fun c2 hc2 => .mk [] (Ext.new hc2) (put_self _ _ _) (fun _ => rfl) nofun) (fun c2 hc2 kk σ3 hI => by obtain ⟨l, hx⟩ := hI; exact hx cc _ (put_self _ _ _)) (fun c2 hc2 kk d σ3 hkk hI => ?_) (fun c2 hc2 σ3 hI => ?_)
      · obtain ⟨l, hx4, hl, hl0, _⟩ := hI
        obtain ⟨rfl, j, t, hrj, rfl⟩ := tg_get hkk
        obtain rfl := hl0 rfl
        (repeat first | walk_at "go")
        refine ⟨_, .int (pl C t : Nat), hx4 b _ (x3 b _ hpb), pyAt_nat.trans (plL_get (kp_tg htg (hrj ▸ hr))), ?_⟩
        (repeat first | walk_at "go")
        refine ⟨_, hl, by decide, .mk _ ((hx4.trans (Ext.refl _)).put hc2) (put_self _ _ _) nofun fun _ j' t' e' => ?_⟩
        obtain ⟨_, rfl⟩ := Row.jmp.inj (hrj.symm.trans e')
        rfl
      · obtain ⟨l, hx4, hl, hl0, hl1⟩ := hI
        obtain ⟨t', ht'⟩ : ∃ t', ∀ j t, r = .jmp j t → t' = pl C t := ⟨r.gl (pl C), fun j t e => by subst e; rfl⟩
        refine .mk r t' c2 l hl (fun j t e => ?_) (fun σ4 hx5 => ?_)
        · rw [ht' j t e]
          exact hl1 (by rw [tg_j e]; exact Nat.le_refl _) j t e
        · have hx6 : Ext σ'' σ4 := ((Ext.new hcc).trans hx4).trans hx5
          refine ⟨_, hx6 R _ hR2, ?_, (hx2.trans hx6).put hR, (put_self _ _ _).trans ?_⟩
          · rw [List.length_map]
            exact Nat.le_trans (Nat.succ_le_succ (Nat.le_trans (List.length_take_le' _ _) kp_le')) (LBle (by lia))
          · rw [List.take_add_one, hr, List.map_append, to_map ht']; rfl
    · obtain ⟨hx2, hR2⟩ := hI
      (repeat first | walk_at "go")
      refine hq R σ'' (hx.trans hx2) (hx.none hR) ?_
      rw [hR2, List.length_map, List.take_length, sq_kp, List.map_map]; rfl
end Mine
namespace Mine
theorem pow7 {b : Nat} (h : 7 ≤ b) : 128 ≤ 2 ^ b := Nat.le_trans (by decide) (Nat.pow_le_pow_right (by decide) h : 2 ^ 7 ≤ 2 ^ b)
theorem pow_succ2 {b : Nat} : 2 ^ (b + 1) = 2 ^ b + 2 ^ b := by rw [Nat.pow_succ]; lia
theorem num_le {b : Nat} (hb : 7 ≤ b) {x : Val} (h : ValOk b x) : (num x).natAbs ≤ 2 ^ b := by
  cases x with
  | non => exact Nat.zero_le _
  | int i => exact h
  | str k =>
    show (if k == 3 then (7 : Int) else 0).natAbs ≤ 2 ^ b
    split
    · exact Nat.le_trans (by decide) (pow7 hb)
    · exact Nat.zero_le _
theorem un_ok {b : Nat} (hb : 7 ≤ b) {o : UO} {x : Val} (h : ValOk b x) : ValOk (b + 1) (unV o x) := by
  cases o with
  | nt =>
    show ValOk (b + 1) (if isT x then .str 0 else .int 1)
    split
    · show 0 < 6; decide
    · exact Nat.le_trans (show 1 ≤ 128 by decide) (pow7 (Nat.le_succ_of_le hb))
  | neg =>
    show (-(num x)).natAbs ≤ 2 ^ (b + 1)
    rw [Int.natAbs_neg]
    exact Nat.le_trans (num_le hb h) (Nat.pow_le_pow_right (by decide) (Nat.le_succ b))
theorem txt_ok {b : Nat} {x : Val} (h : ValOk b x) : ValOk (b + 1) (txtV x) := by
  cases x with
  | non => simp [txtV, ValOk]
  | int i => simp only [txtV]; split <;> simp [ValOk]
  | str k => exact h
theorem xor_ok {b : Nat} {x y : Val} : ValOk (b + 1) (xorV x y) := by
  have : 1 ≤ 2 ^ (b + 1) := Nat.one_le_two_pow
  unfold xorV; split
  · simpa [ValOk] using this
  · simp [ValOk]
theorem fdiv_abs (a c : Int) : (a.fdiv c).natAbs ≤ a.natAbs := by
  match a, c with
  | 0, c => simp
  | .ofNat (m + 1), .ofNat n => exact Nat.div_le_self _ _
  | .ofNat (m + 1), .negSucc n =>
    show m / (n + 1) + 1 ≤ m + 1
    exact Nat.succ_le_succ (Nat.div_le_self _ _)
  | .negSucc m, 0 => show 0 ≤ m + 1; lia
  | .negSucc m, .ofNat (n + 1) =>
    show m / (n + 1) + 1 ≤ m + 1
    exact Nat.succ_le_succ (Nat.div_le_self _ _)
  | .negSucc m, .negSucc n =>
    show (m + 1) / (n + 1) ≤ m + 1
    exact Nat.div_le_self _ _
theorem bin_ok {b : Nat} (hb : 7 ≤ b) {o : BO} {x y v : Val} (hx : ValOk b x) (hy : ValOk b y) (h : binV o x y = some v) : ValOk (b + 1) v := by
  have a := num_le hb hx
  have c := num_le hb hy
  have s := Nat.add_le_add a c
  rw [← pow_succ2] at s
  cases o with
  | add => cases h; exact Nat.le_trans (Int.natAbs_add_le _ _) s
  | sub => cases h; exact Nat.le_trans (Int.natAbs_sub_le _ _) s
  | mul =>
    cases h
    have h1 : 0 ≤ (num x * num y).fmod 100 := Int.fmod_nonneg_of_pos _ (by decide)
    have h3 : (num x * num y).fmod 100 < 100 := Int.fmod_lt_of_pos _ (by decide)
    exact Nat.le_trans (Nat.le_of_lt (Int.natAbs_lt_natAbs_of_nonneg_of_lt h1 h3)) (Nat.le_trans (by decide) (pow7 (Nat.le_succ_of_le hb)))
  | div =>
    have h : (if num y = 0 then none else some (Val.int ((num x).fdiv (num y)))) = some v := h
    split at h
    · exact nns h
    · cases h
      exact Nat.le_trans (fdiv_abs _ _) (Nat.le_trans a (Nat.pow_le_pow_right (by decide) (Nat.le_succ b)))
theorem made_ok {b : Nat} (hb : 7 ≤ b) {op : Row} {vs : List Val} {v : Val} (hv : ∀ x ∈ vs, ValOk b x) (h : op.made vs = some v) : ValOk (b + 1) v := by
  cases op with
  | bin o => obtain ⟨x, y, rfl, h⟩ := on2V_some h; exact bin_ok hb (hv _ (.head _)) (hv _ (.tail _ (.head _))) h
  | xor => obtain ⟨x, y, rfl, h⟩ := on2V_some h; cases h; exact xor_ok
  | un o => obtain ⟨x, rfl, rfl⟩ := on1V_some h; exact un_ok hb (hv _ (.head _))
  | text => obtain ⟨x, rfl, rfl⟩ := on1V_some h; exact txt_ok (hv _ (.head _))
  | _ => exact nomatch h
structure FoldI (b : Nat) (P : List Row) (l : List Bool) (k : Nat) (C : Code) (cs : List Nat) : Prop where
  len : C.length = P.length
  imp : Imp (P.map some) C
  rest : ∀ i, k ≤ i → C[i]? = (P.map some)[i]?
  rows : ∀ (i : Nat) (r : Row), C[i]? = some (some r) → RowOk (b + k) r ∧ (P[i]? = some r ∨ ∃ v, r = .const v)
  term : ∀ (i : Nat) (r : Row), P[i]? = some r → goesOn r = false → C[i]? = some (some r)
  inc : cs.Pairwise (· < ·)
  lt : ∀ c ∈ cs, c < k
  cst : ∀ c ∈ cs, ∃ v, C[c]? = some (some (.const v))
  gap : ∀ x c, c ∈ cs → c ≤ x → x < k → x ∉ cs → C[x]? = some none
  nomk : ∀ x c, c ∈ cs → c < x → x < k → l[x]? = some false
variable {b k : Nat} {P : List Row} {l : List Bool} {C : Code} {cs : List Nat}
theorem FoldI.start (g : Good b P) : FoldI b P l 0 (P.map some) [] where
  len := by simp
  imp := Imp.refl g.safe
  rest := fun _ _ => rfl
  rows := fun i r h => by obtain ⟨q, e, h⟩ := some_inv h; cases e; exact ⟨g.row h, .inl h⟩
  term := fun i r h _ => some_get h
  inc := .nil
  lt := nofun
  cst := nofun
  gap := nofun
  nomk := nofun
theorem FoldI.reset (h : FoldI b P l k C cs) : FoldI b P l k C [] :=
  { h with inc := .nil, lt := nofun, cst := nofun, gap := nofun, nomk := nofun }
theorem FoldI.other (h : FoldI b P l k C cs) : FoldI b P l (k + 1) C [] :=
  { h with rest := fun i hi => h.rest i (by lia), rows := fun i r e => ⟨(h.rows i r e).1.mono (by lia), (h.rows i r e).2⟩, inc := .nil, lt := nofun, cst := nofun, gap := nofun, nomk := nofun }
theorem FoldI.const {v : Val} (h : FoldI b P l k C cs) (hk : P[k]? = some (.const v)) (hm : cs ≠ [] → l[k]? = some false) : FoldI b P l (k + 1) C (cs ++ [k]) where
  len := h.len
  imp := h.imp
  rest := fun i hi => h.rest i (by lia)
  rows := fun i r e => ⟨(h.rows i r e).1.mono (by lia), (h.rows i r e).2⟩
  term := h.term
  inc := List.pairwise_append.mpr ⟨h.inc, by simp, fun x hx y hy => by simp at hy; subst hy; exact h.lt x hx⟩
  lt := fun c hc => by
    rcases List.mem_append.mp hc with hc | hc
    · exact Nat.lt_succ_of_lt (h.lt c hc)
    · simp at hc; lia
  cst := fun c hc => by
    rcases List.mem_append.mp hc with hc | hc
    · exact h.cst c hc
    · simp at hc; subst hc; exact ⟨v, by rw [h.rest _ (Nat.le_refl _)]; exact some_get hk⟩
  gap := fun x c hc h1 h2 h3 => by
    have h4 : x ∉ cs := fun z => h3 (List.mem_append_left _ z)
    have h5 : x ≠ k := fun z => h3 (by simp [z])
    rcases List.mem_append.mp hc with hc | hc
    · exact h.gap x c hc h1 (by lia) h4
    · simp at hc; lia
  nomk := fun x c hc h1 h2 => by
    rcases List.mem_append.mp hc with hcm | hc
    · rcases Nat.lt_or_ge x k with h3 | h3
      · exact h.nomk x c hcm h1 h3
      · have : x = k := by lia
        subst this; exact hm (List.ne_nil_of_mem hcm)
    · simp at hc; lia
/-- which places jumps lead to -/
noncomputable def MarksOk (P : List Row) (l : List Bool) : Prop := ∀ (i : Nat) (j : J) (t : Nat), P[i]? = some (.jmp j t) → l[t]? = some true
theorem FoldI.nomark (h : FoldI b P l k C cs) (hl : MarksOk P l) {p : Nat} (hp : p ∈ cs) (hm : l[k]? = some false) : ∀ (x : Nat) (j : J) (t : Nat), C[x]? = some (some (Row.jmp j t)) → ¬ (p < t ∧ t < k + 1) := by
  intro x j t e ⟨h1, h2⟩
  rcases (h.rows x _ e).2 with e2 | ⟨v, e2⟩
  · have := hl x j t e2
    rcases Nat.lt_or_ge t k with h3 | h3
    · rw [h.nomk t p hp h1 h3] at this; cases this
    · have : t = k := by lia
      subst this
      rw [hm] at this; simp_all
  · cases e2
noncomputable def clear (C : Code) (l : List Nat) : Code := l.foldl (fun C p => C.set p none) C
theorem clear_len {l : List Nat} : ∀ {C : Code}, (clear C l).length = C.length := by
  induction l with
  | nil => exact rfl
  | cons p l ih => exact ih.trans List.length_set
theorem set_get {C : Code} {p : Nat} {o : Option Row} (hp : p < C.length) {x : Nat} : (C.set p o)[x]? = if x = p then some o else C[x]? := by
  by_cases h : x = p
  · subst h; rw [if_pos rfl, List.getElem?_set_self hp]
  · rw [if_neg h, List.getElem?_set_ne (Ne.symm h)]
theorem clear_get {l : List Nat} : ∀ {C : Code}, (∀ p ∈ l, p < C.length) → ∀ x, (clear C l)[x]? = if x ∈ l then some none else C[x]? := by
  induction l with
  | nil => intro C _ x; exact (if_neg List.not_mem_nil).symm
  | cons p l ih =>
    intro C h x
    refine (ih (fun q hq => by rw [List.length_set]; exact h q (.tail _ hq)) x).trans ?_
    rw [set_get (h p (.head _))]
    by_cases h1 : x ∈ l
    · rw [if_pos h1, if_pos (.tail _ h1)]
    · rw [if_neg h1]
      by_cases h2 : x = p
      · rw [if_pos h2, if_pos (h2 ▸ .head _)]
      · rw [if_neg h2, if_neg fun z => (List.mem_cons.mp z).elim h2 h1]
/-- a row made of the constants ahead of it -/
theorem FoldI.step {last : List Nat} {op : Row} {v : Val} (h : FoldI b P l k C (cs ++ last)) (hm : l[k]? = some false) (hk : P[k]? = some op) (hgo : goesOn op = true) (hne : last ≠ []) (hv : ValOk (b + (k + 1)) v) (himp : Imp C ((clear C last).set k (some (.const v)))) :
    FoldI b P l (k + 1) ((clear C last).set k (some (.const v))) (cs ++ [k]) := by
  have hck : C[k]? = some (some op) := by rw [h.rest _ (Nat.le_refl _)]; exact some_get hk
  obtain ⟨hi1, _, hi2⟩ := List.pairwise_append.mp h.inc
  have inl : ∀ {c}, c ∈ last → c ∈ cs ++ last := List.mem_append_right _
  have inc : ∀ {c}, c ∈ cs → c ∈ cs ++ last := List.mem_append_left _
  have lt : ∀ {c}, c ∈ cs ++ last → c < k := fun hc => h.lt _ hc
  have get : ∀ x, ((clear C last).set k (some (.const v)))[x]? = if x = k then some (some (.const v)) else if x ∈ last then some none else C[x]? := fun x => by
    rw [set_get (by rw [clear_len]; exact get_lt hck), clear_get fun p hp => Nat.lt_trans (lt (inl hp)) (get_lt hck)]
  have two : ∀ {c}, c ∈ cs ++ [k] → c ∈ cs ∨ c = k := fun hc => (List.mem_append.mp hc).imp_right List.mem_singleton.mp
  have lt2 : ∀ {x}, x < k + 1 → x ≠ k → x < k := fun h1 h2 => Nat.lt_of_le_of_ne (Nat.le_of_lt_succ h1) h2
  refine ⟨by rw [List.length_set, clear_len]; exact h.len, h.imp.trans himp, fun i hi => ?_, fun i r e => ?_, fun i r e hg => ?_, ?_, fun c hc => ?_, fun c hc => ?_, fun x c hc h1 h2 h3 => ?_, fun x c hc h1 h2 => ?_⟩
  · rw [get, if_neg fun z : i = k => Nat.lt_irrefl k (z ▸ hi), if_neg fun z => Nat.lt_asymm (lt (inl z)) hi]
    exact h.rest i (Nat.le_of_lt hi)
  · rw [get] at e
    split at e
    · cases e; exact ⟨hv, .inr ⟨v, rfl⟩⟩
    · split at e
      · exact nns (Option.some.inj e)
      · exact ⟨(h.rows i r e).1.mono (Nat.le_succ _), (h.rows i r e).2⟩
  · rw [get]
    split
    · rename_i z; subst z; cases hk.symm.trans e; exact ff (hg.symm.trans hgo)
    · split
      · rename_i z
        obtain ⟨w, hw⟩ := h.cst _ (inl z)
        cases (h.term _ _ e hg).symm.trans hw
        exact ff hg.symm
      · exact h.term i r e hg
  · exact List.pairwise_append.mpr ⟨hi1, List.pairwise_singleton .., fun x hx y hy => List.mem_singleton.mp hy ▸ lt (inc hx)⟩
  · rcases two hc with hc | rfl
    · exact Nat.lt_succ_of_lt (lt (inc hc))
    · exact Nat.lt_succ_self _
  · rw [get]
    rcases two hc with hc | rfl
    · rw [if_neg fun z : c = k => Nat.lt_irrefl k (z ▸ lt (inc hc)), if_neg fun z => Nat.lt_irrefl c (hi2 c hc c z)]; exact h.cst c (inc hc)
    · exact ⟨v, if_pos rfl⟩
  · have h5 : x ≠ k := fun z => h3 (z ▸ List.mem_append_right _ (.head _))
    rw [get, if_neg h5]
    split
    · rfl
    · rename_i h6
      rcases two hc with hc | rfl
      · exact h.gap x c (inc hc) h1 (lt2 h2 h5) fun z => (List.mem_append.mp z).elim (fun z => h3 (List.mem_append_left _ z)) h6
      · exact absurd (lt2 h2 h5) (Nat.not_lt.mpr h1)
  · by_cases h5 : x = k
    · rw [h5]; exact hm
    · rcases two hc with hc | rfl
      · exact h.nomk x c (inc hc) h1 (lt2 h2 h5)
      · exact absurd (lt2 h2 h5) (Nat.lt_asymm h1)
theorem FoldI.imp1 {p : Nat} {op : Row} {a v : Val} (h : FoldI b P l k C (cs ++ [p])) (hl : MarksOk P l) (hm : l[k]? = some false) (hk : P[k]? = some op) (hp : C[p]? = some (some (.const a))) (har : op.arity = 1) (hv : op.made [a] = some v) :
    Imp C ((clear C [p]).set k (some (.const v))) := by
  have hi2 := (List.pairwise_append.mp h.inc).2.2
  have ip : p ∈ cs ++ [p] := List.mem_append_right _ (.head _)
  refine w_fold1 hp (by rw [h.rest _ (Nat.le_refl _)]; exact some_get hk) (h.lt p ip) (fun x h1 h2 => h.gap x p ip (Nat.le_of_lt h1) h2 fun z => ?_) har hv (h.nomark hl ip hm) h.imp.1
  rcases List.mem_append.mp z with z | z
  · exact Nat.lt_asymm h1 (hi2 x z p (.head _))
  · exact Nat.lt_irrefl p (List.mem_singleton.mp z ▸ h1)
theorem FoldI.imp2 {p q : Nat} {op : Row} {a a' v : Val} (h : FoldI b P l k C (cs ++ [p, q])) (hl : MarksOk P l) (hm : l[k]? = some false) (hk : P[k]? = some op) (hp : C[p]? = some (some (.const a))) (hq : C[q]? = some (some (.const a'))) (har : op.arity = 2) (hv : op.made [a, a'] = some v) :
    Imp C ((clear C [p, q]).set k (some (.const v))) := by
  obtain ⟨_, hi1, hi2⟩ := List.pairwise_append.mp h.inc
  have hpq : p < q := (List.pairwise_cons.mp hi1).1 q (.head _)
  have ip : p ∈ cs ++ [p, q] := List.mem_append_right _ (.head _)
  have iq : q ∈ cs ++ [p, q] := List.mem_append_right _ (.tail _ (.head _))
  have hqk := h.lt q iq
  have nin : ∀ x, p < x → x ≠ q → x ∉ cs ++ [p, q] := fun x h1 h2 z => by
    rcases List.mem_append.mp z with z | z
    · exact Nat.lt_asymm h1 (hi2 x z p (.head _))
    · exact (List.mem_cons.mp z).elim (fun z => Nat.lt_irrefl p (z ▸ h1)) fun z => h2 (List.mem_singleton.mp z)
  exact w_fold2 hp hq (by rw [h.rest _ (Nat.le_refl _)]; exact some_get hk) hpq hqk (fun x h1 h2 => h.gap x p ip (Nat.le_of_lt h1) (Nat.lt_trans h2 hqk) (nin x h1 (Nat.ne_of_lt h2))) (fun x h1 h2 => h.gap x p ip (Nat.le_of_lt (Nat.lt_trans hpq h1)) h2 (nin x (Nat.lt_trans hpq h1) (Nat.ne_of_gt h1))) har hv (h.nomark hl ip hm) h.imp.1
theorem FoldI.done (g : Good b P) (h : FoldI b P l P.length C cs) : Good (b + 67) (sq C) ∧ Imp (P.map some) ((sq C).map some) ∧ (sq C).length ≤ P.length := by
  obtain ⟨rl, hl, hg⟩ := g.lastRow
  refine good_keep g h.len h.imp ⟨rl, h.term _ _ hl hg, hg⟩ fun i r e => ⟨(h.rows i r e).1.mono (by have := g.len; lia), fun j t ej => ?_⟩
  subst ej
  rcases (h.rows i _ e).2 with e2 | ⟨v, e2⟩
  · exact g.tg _ _ _ e2
  · cases e2
end Mine
namespace Mine
theorem ix_c1 {x : Val} {σ : Sto} {Q : V → Prop} (h : Q x.v) : vIdx (Row.const x).v (.int 1) σ Q := ⟨_, by decide, by decide, rfl, h⟩
theorem ix_j1 {j : J} {t : Nat} {σ : Sto} {Q : V → Prop} (h : Q (.int t)) : vIdx (Row.jmp j t).v (.int 1) σ Q := ⟨_, by decide, by decide, rfl, h⟩
theorem w17 {r : Row} (h : (r.w == 17) = true) : ∃ v, r = .const v := by
  cases r with
  | const v => exact ⟨v, rfl⟩
  | jmp j t => cases j <;> exact ff h
  | _ => exact ff h
theorem arity_le (r : Row) : r.arity ≤ 2 := by cases r <;> exact Nat.le_of_ble_eq_true rfl
theorem ar2 {r : Row} (h : (r.w == 35 || r.w == 36) = true) : r.arity = 2 := by
  cases r with
  | jmp j t => cases j <;> exact ff h
  | _ => first | rfl | exact ff h
theorem ar1 {r : Row} (h : (r.w == 37 || r.w == 38) = true) : r.arity = 1 := by
  cases r with
  | jmp j t => cases j <;> exact ff h
  | _ => first | rfl | exact ff h
theorem ar0 {r : Row} (h : (r.w == 35 || r.w == 36) = false) (h2 : (r.w == 37 || r.w == 38) = false) : r.arity = 0 := by
  cases r with
  | jmp j t => rfl
  | _ => first | rfl | exact ff h.symm | exact ff h2.symm
inductive S_taken (σ : Sto) (Q : V → Sto → Prop) (X : Sto → Prop) : List V → Prop
  | mk (r : Row) (h : Q (.int r.arity) σ) : S_taken σ Q X [r.v]
theorem f_taken_consts {K : Ctx} (h : chkFn K.frag 254 p_taken_consts n_taken_consts m_taken_consts = true) : FnOK K 1 (.ref 254) fun ds σ Q X => S_taken σ Q X ds := fnPure h fun ds σ Q X hS => by
  induction hS with | mk r hq => ?_
  refine ⟨rfl, ?_⟩
  (repeat first | walk_at "go" | refine ix_r0 ?_)
  refine boI_or (fun e => brkI (fun _ => ?_) fun e2 => ff (e2.symm.trans e)) (fun e => ?_)
  · (repeat first | walk_at "go")
    exact at_n (ar2 (Bool.or_eq_true_iff.mpr (.inl e))) hq
  (repeat first | walk_at "go" | refine ix_r0 ?_)
  refine brkI (fun e2 => ?_) (fun e2 => ?_)
  · (repeat first | walk_at "go")
    exact at_n (ar2 (Bool.or_eq_true_iff.mpr (.inr e2))) hq
  (repeat first | walk_at "go")
  refine ⟨rfl, ?_⟩
  have e35 : (r.w == 35 || r.w == 36) = false := Bool.or_eq_false_iff.mpr ⟨e, e2⟩
  (repeat first | walk_at "go" | refine ix_r0 ?_)
  refine boI_or (fun e => ifI (fun _ => ?_) fun e2 => ff (e2.symm.trans e)) (fun e => ?_)
  · (repeat first | walk_at "go")
    exact at_n (ar1 (Bool.or_eq_true_iff.mpr (.inl e))) hq
  (repeat first | walk_at "go" | refine ix_r0 ?_)
  refine ifI (fun e2 => ?_) (fun e2 => ?_)
  · (repeat first | walk_at "go")
    exact at_n (ar1 (Bool.or_eq_true_iff.mpr (.inr e2))) hq
  · (repeat first | walk_at "go")
    exact at_n (ar0 e35 (Bool.or_eq_false_iff.mpr ⟨e, e2⟩)) hq
/-- what `compute` makes -/
inductive S_comp (σ : Sto) (Q : V → Sto → Prop) (X : Sto → Prop) : List V → Prop
  | mk (r : Row) (vs : List Val) (a : Addr) (ha : σ a = some (vs.map Val.v)) (h0 : r.arity ≠ 0) (hl : vs.length = r.arity) (hok : ∀ x ∈ vs, ValOk 900 x) (hs : ∀ v, r.made vs = some v → ∀ σ', Ext σ σ' → Q v.v σ') (hn : r.made vs = none → ∀ σ', Ext σ σ' → X σ') : S_comp σ Q X [r.v, .list a]
inductive S_folded (σ : Sto) (Q : V → Sto → Prop) (X : Sto → Prop) : List V → Prop
  | mk (r : Row) (vs : List Val) (a : Addr) (ha : σ a = some (vs.map Val.v)) (h0 : r.arity ≠ 0) (hl : vs.length = r.arity) (hok : ∀ x ∈ vs, ValOk 900 x) (hs : ∀ v, r.made vs = some v → ∀ σ', Ext σ σ' → Q (.tup [.bool true, v.v]) σ')
    (hn : r.made vs = none → ∀ σ', Ext σ σ' → Q (.tup [.bool false, .non]) σ') : S_folded σ Q X [r.v, .list a, .raw (.ref 360)]
theorem f_folded_value {K : Ctx} {m : Nat} (hc : FnOK K m (.ref 360) fun ds σ Q X => S_comp σ Q X ds) (h : chkFn K.frag 261 p_folded_value n_folded_value m_folded_value = true) : FnOK K (m + 1) (.ref 261) fun ds σ Q X => S_folded σ Q X ds := fnPure h fun ds σ Q X hS => by
  induction hS with | mk r vs a ha h0 hl hok hs hn => ?_
  refine ⟨rfl, ?_⟩
  (repeat first | walk_at "go")
  exact ⟨_, m, Nat.le_refl _, hc, .mk r vs a ha h0 hl hok (fun v e σ' x => ⟨len_ok rfl, .ret (hs v e σ' x)⟩) fun e σ' x => .ret (hn e σ' x)⟩
end Mine
namespace Mine
structure BrI (b : Nat) (P : List Row) (k : Nat) (C : Code) : Prop where
  len : C.length = P.length
  imp : Imp (P.map some) C
  rest : ∀ i, k < i → C[i]? = (P.map some)[i]?
  here : ∀ v, P[k]? = some (.const v) → C[k]? = some (some (.const v))
  rows : ∀ (i : Nat) (r : Row), C[i]? = some (some r) → RowOk b r ∧ (P[i]? = some r ∨ ∃ j t, P[i]? = some (.jmp j t) ∧ r = .jmp .jump t)
  term : ∀ (i : Nat) (r : Row), P[i]? = some r → goesOn r = false → C[i]? = some (some r)
variable {b k : Nat} {P : List Row} {l : List Bool} {C : Code}
theorem BrI.start (g : Good b P) : BrI b P 0 (P.map some) where
  len := by simp
  imp := Imp.refl g.safe
  rest := fun _ _ => rfl
  here := fun v h => some_get h
  rows := fun i r h => by obtain ⟨q, e, h⟩ := some_inv h; cases e; exact ⟨g.row h, .inl h⟩
  term := fun i r h _ => some_get h
theorem BrI.skip (h : BrI b P k C) : BrI b P (k + 1) C :=
  { h with rest := fun i hi => h.rest i (by lia), here := fun v e => by rw [h.rest _ (by lia)]; exact some_get e }
theorem BrI.jumps (h : BrI b P k C) {i : Nat} {j : J} {t : Nat} (e : C[i]? = some (some (.jmp j t))) : ∃ j', P[i]? = some (.jmp j' t) := by
  rcases (h.rows i _ e).2 with e2 | ⟨j', t', e2, e3⟩
  · exact ⟨j, e2⟩
  · cases e3; exact ⟨j', e2⟩
noncomputable def brC (C : Code) (k : Nat) (j : J) (t : Nat) (a : Val) : Code :=
  if j.so a then (if j.pops then (C.set (k + 1) (some (.jmp .jump t))).set k none else C.set (k + 1) (some (.jmp .jump t))) else (C.set (k + 1) none).set k none
theorem brC_get {C : Code} {k : Nat} {j : J} {t : Nat} {a : Val} (h1 : k + 1 < C.length) {x : Nat} {o : Option Row} (h : (brC C k j t a)[x]? = some o) : C[x]? = some o ∨ (x = k + 1 ∧ (o = none ∨ o = some (.jmp .jump t))) ∨ (x = k ∧ o = none) := by
  unfold brC at h
  by_cases hx : x = k
  · subst hx
    split at h
    · split at h
      · simp [List.getElem?_set, show x < C.length by lia] at h; exact .inr (.inr ⟨rfl, h.symm⟩)
      · rw [List.getElem?_set_ne (by lia)] at h; exact .inl h
    · simp [List.getElem?_set, show x < C.length by lia] at h; exact .inr (.inr ⟨rfl, h.symm⟩)
  · by_cases hx2 : x = k + 1
    · subst hx2
      split at h
      · split at h
        · rw [List.getElem?_set_ne (by lia)] at h; simp [List.getElem?_set, h1] at h; exact .inr (.inl ⟨rfl, .inr h.symm⟩)
        · simp [List.getElem?_set, h1] at h; exact .inr (.inl ⟨rfl, .inr h.symm⟩)
      · rw [List.getElem?_set_ne (by lia)] at h; simp [List.getElem?_set, h1] at h; exact .inr (.inl ⟨rfl, .inl h.symm⟩)
    · left
      split at h
      · split at h
        · rw [List.getElem?_set_ne (by lia), List.getElem?_set_ne (by lia)] at h; exact h
        · rw [List.getElem?_set_ne (by lia)] at h; exact h
      · rw [List.getElem?_set_ne (by lia), List.getElem?_set_ne (by lia)] at h; exact h
theorem brC_len {C : Code} {k : Nat} {j : J} {t : Nat} {a : Val} : (brC C k j t a).length = C.length := by
  unfold brC; split
  · split <;> simp
  · simp
theorem brC_other {C : Code} {k : Nat} {j : J} {t : Nat} {a : Val} {x : Nat} (h1 : x ≠ k) (h2 : x ≠ k + 1) : (brC C k j t a)[x]? = C[x]? := by
  unfold brC; split
  · split
    · rw [List.getElem?_set_ne (by lia), List.getElem?_set_ne (by lia)]
    · rw [List.getElem?_set_ne (by lia)]
  · rw [List.getElem?_set_ne (by lia), List.getElem?_set_ne (by lia)]
theorem BrI.turn (h : BrI b P k C) (hl : MarksOk P l) {a : Val} {j : J} {t : Nat} (hk : P[k]? = some (.const a)) (hq : P[k + 1]? = some (.jmp j t)) (hj : j ≠ .jump) (hm : l[k + 1]? = some false) : BrI b P (k + 1) (brC C k j t a) := by
  have cq : C[k + 1]? = some (some (.jmp j t)) := by rw [h.rest _ (by lia)]; exact some_get hq
  have lt1 : k + 1 < C.length := get_lt cq
  have hgo : goesOn (.jmp j t) = true := by cases j <;> first | rfl | exact absurd rfl hj
  refine ⟨by rw [brC_len]; exact h.len, h.imp.trans (w_branch (h.here a hk) cq hj (fun x i u e z => ?_) rfl h.imp.1), fun i hi => ?_, fun v e => ?_, fun i r e => ?_, fun i r e hg => ?_⟩
  · obtain ⟨j', e'⟩ := h.jumps e
    have := hl x j' u e'
    rw [z, hm] at this; cases this
  · rw [brC_other (by lia) (by lia)]; exact h.rest i (by lia)
  · rw [hq] at e; cases e
  · rcases brC_get lt1 e with e2 | ⟨rfl, e2⟩ | ⟨rfl, e2⟩
    · exact h.rows i r e2
    · rcases e2 with e2 | e2
      · cases e2
      · cases e2
        exact ⟨trivial, .inr ⟨j, t, hq, rfl⟩⟩
    · cases e2
  · have n1 : i ≠ k := fun z => by subst z; rw [hk] at e; cases e; cases hg
    have n2 : i ≠ k + 1 := fun z => by subst z; rw [hq] at e; cases e; rw [hgo] at hg; cases hg
    rw [brC_other n1 n2]; exact h.term i r e hg
theorem BrI.tg (g : Good b P) (h : BrI b P k C) : ∀ (i : Nat) (j : J) (t : Nat), C[i]? = some (some (.jmp j t)) → t < C.length := fun i j t e => by
  obtain ⟨j', e'⟩ := h.jumps e
  rw [h.len]; exact g.tg _ _ _ e'
theorem BrI.done (g : Good b P) (h : BrI b P k C) : Good b (sq C) ∧ Imp (P.map some) ((sq C).map some) ∧ (sq C).length ≤ P.length := by
  obtain ⟨rl, hl, hg⟩ := g.lastRow
  refine good_keep g h.len h.imp ⟨rl, h.term _ _ hl hg, hg⟩ fun i r e => ⟨(h.rows i r e).1, fun j t ej => ?_⟩
  subst ej
  have := h.tg g i j t e
  rwa [h.len] at this
/-! pairs -/
structure PrI (b : Nat) (P : List Row) (k : Nat) (C : Code) : Prop where
  len : C.length = P.length
  imp : Imp (P.map some) C
  rest : ∀ i, k ≤ i → C[i]? = (P.map some)[i]?
  rows : ∀ (i : Nat) (r : Row), C[i]? = some (some r) → P[i]? = some r
  term : ∀ (i : Nat) (r : Row), P[i]? = some r → goesOn r = false → C[i]? = some (some r)
theorem PrI.start (g : Good b P) : PrI b P 0 (P.map some) where
  len := by simp
  imp := Imp.refl g.safe
  rest := fun _ _ => rfl
  rows := fun i r h => by obtain ⟨q, e, h⟩ := some_inv h; cases e; exact h
  term := fun i r h _ => some_get h
theorem PrI.skip (h : PrI b P k C) : PrI b P (k + 1) C := { h with rest := fun i hi => h.rest i (by lia) }
theorem PrI.pair (h : PrI b P k C) (hl : MarksOk P l) {x y : Row} (hi : idle x y = true) (hk : P[k]? = some x) (hq : P[k + 1]? = some y) (hm : l[k + 1]? = some false) : PrI b P (k + 2) ((C.set k none).set (k + 1) none) := by
  have ck : C[k]? = some (some x) := by rw [h.rest _ (by lia)]; exact some_get hk
  have cq : C[k + 1]? = some (some y) := by rw [h.rest _ (by lia)]; exact some_get hq
  have l1 := get_lt ck; have l2 := get_lt cq
  obtain ⟨hx, hy⟩ : goesOn x = true ∧ goesOn y = true := idle_ind (P := fun x y => goesOn x = true ∧ goesOn y = true) (fun _ => ⟨rfl, rfl⟩) ⟨rfl, rfl⟩ ⟨rfl, rfl⟩ ⟨rfl, rfl⟩ ⟨rfl, rfl⟩ hi
  have oth : ∀ {i : Nat}, i ≠ k → i ≠ k + 1 → ((C.set k none).set (k + 1) none)[i]? = C[i]? := fun h1 h2 => by
    rw [List.getElem?_set_ne (by lia), List.getElem?_set_ne (by lia)]
  refine ⟨by simp [h.len], h.imp.trans (w_pair hi ck cq (fun z i u e w => ?_) h.imp.1), fun i hi => ?_, fun i r e => ?_, fun i r e hg => ?_⟩
  · have := hl z i u (h.rows _ _ e)
    rw [w, hm] at this; cases this
  · rw [oth (by lia) (by lia)]; exact h.rest i (by lia)
  · by_cases n1 : i = k
    · subst n1; rw [List.getElem?_set_ne (by lia)] at e; simp [l1] at e
    · by_cases n2 : i = k + 1
      · subst n2; simp [List.getElem?_set, l2] at e
      · rw [oth n1 n2] at e; exact h.rows i r e
  · have n1 : i ≠ k := fun z => by subst z; rw [hk] at e; cases e; rw [hx] at hg; cases hg
    have n2 : i ≠ k + 1 := fun z => by subst z; rw [hq] at e; cases e; rw [hy] at hg; cases hg
    rw [oth n1 n2]; exact h.term i r e hg
theorem PrI.line (h : PrI b P k C) {x y : Int} (hk : P[k]? = some (.line x)) (hq : P[k + 1]? = some (.line y)) : PrI b P (k + 1) (C.set k none) := by
  have ck : C[k]? = some (some (.line x)) := by rw [h.rest _ (by lia)]; exact some_get hk
  have cq : C[k + 1]? = some (some (.line y)) := by rw [h.rest _ (by lia)]; exact some_get hq
  have l1 := get_lt ck
  refine ⟨by simp [h.len], h.imp.trans (w_line ck cq h.imp.1), fun i hi => ?_, fun i r e => ?_, fun i r e hg => ?_⟩
  · rw [List.getElem?_set_ne (by lia)]; exact h.rest i (by lia)
  · by_cases n1 : i = k
    · subst n1; simp [l1] at e
    · rw [List.getElem?_set_ne (by lia)] at e; exact h.rows i r e
  · have n1 : i ≠ k := fun z => by subst z; rw [hk] at e; cases e; cases hg
    rw [List.getElem?_set_ne (by lia)]; exact h.term i r e hg
theorem PrI.tg (g : Good b P) (h : PrI b P k C) : ∀ (i : Nat) (j : J) (t : Nat), C[i]? = some (some (.jmp j t)) → t < C.length := fun i j t e => by
  rw [h.len]; exact g.tg _ _ _ (h.rows _ _ e)
theorem PrI.done (g : Good b P) (h : PrI b P k C) : Good b (sq C) ∧ Imp (P.map some) ((sq C).map some) ∧ (sq C).length ≤ P.length := by
  obtain ⟨rl, hl, hg⟩ := g.lastRow
  refine good_keep g h.len h.imp ⟨rl, h.term _ _ hl hg, hg⟩ fun i r e => ⟨g.row (h.rows i r e), fun j t ej => ?_⟩
  subst ej
  exact g.tg _ _ _ (h.rows _ _ e)
/-! threads, live rows -/
theorem JChain.lt {b : Nat} {P : List Row} (g : Good b P) {t u : Nat} (c : JChain P t u) (h : t < P.length) : u < P.length := by
  induction c with
  | here t => exact h
  | more h' c ih => exact ih (g.tg _ _ _ h')
theorem ChRel.lt {b : Nat} {P : List Row} (g : Good b P) {j j2 : J} {t t2 : Nat} (c : ChRel P j t j2 t2) (h : t < P.length) : t2 < P.length := by
  cases c with
  | same => exact h
  | dd hu => exact g.tg _ _ _ hu
  | di hu => exact g.tg _ _ _ hu
  | oo hu => exact g.tg _ _ _ hu
  | ot hu => exact g.tg _ _ _ hu
  | aa hu => exact g.tg _ _ _ hu
  | af hu => exact g.tg _ _ _ hu
  | oa hu => rcases hu with hu | hu <;> exact g.last _ _ hu rfl
  | ao hu => rcases hu with hu | hu <;> exact g.last _ _ hu rfl
theorem thread_done {b : Nat} {P : List Row} {C : Code} (g : Good b P) (hlen : C.length = P.length) (h : ∀ i r, P[i]? = some r → ∃ o, C[i]? = some o ∧ ThrRel P i r o) :
    (∀ (i : Nat) (j : J) (t : Nat), C[i]? = some (some (.jmp j t)) → t < C.length) ∧ Good b (sq C) ∧ Imp (P.map some) ((sq C).map some) ∧ (sq C).length ≤ P.length := by
  have src : ∀ {i : Nat} {r : Row}, C[i]? = some (some r) → ∃ q, P[i]? = some q ∧ ThrRel P i q (some r) := fun {i r} e => by
    have hi : i < P.length := by rw [← hlen]; exact get_lt e
    obtain ⟨o, e2, th⟩ := h i P[i] (by simp [hi])
    rw [e] at e2; cases e2
    exact ⟨_, by simp [hi], th⟩
  have tg : ∀ (i : Nat) (j : J) (t : Nat), C[i]? = some (some (.jmp j t)) → t < P.length := fun i j t e => by
    obtain ⟨q, hq, th⟩ := src e
    cases th with
    | same hn => exact absurd rfl (hn j t)
    | jump c _ => exact c.lt g (g.tg _ _ _ hq)
    | br _ c hc => exact hc.lt g (c.lt g (g.tg _ _ _ hq))
  refine ⟨fun i j t e => by rw [hlen]; exact tg i j t e, ?_⟩
  refine good_keep g hlen (imp_thread g.safe h) ?_ fun i r e => ⟨?_, fun j t ej => by subst ej; exact tg i j t e⟩
  · obtain ⟨rl, hl, hg⟩ := g.lastRow
    obtain ⟨o, e, th⟩ := h _ _ hl
    have hne := g.ne
    cases th with
    | same hn => exact ⟨_, e, hg⟩
    | jump c hne => exact ⟨_, e, rfl⟩
    | gone c =>
      have := c.lt g (g.tg _ _ _ hl)
      lia
    | br hj _ _ => rename_i j _ _ _ _ _ _; cases j <;> first | exact absurd rfl hj | cases hg
    | dropped hj _ _ _ => rename_i j _ _ _ _ _ _ ; cases j <;> first | exact absurd rfl hj | cases hg
  · obtain ⟨q, hq, th⟩ := src e
    cases th with
    | same hn => exact g.row hq
    | _ => trivial
/-- what is marked is closed -/
structure LiveI (P : List Row) (m : List Bool) : Prop where
  len : m.length = P.length
  start : m[0]? = some true
  go : ∀ i r, P[i]? = some r → m[i]? = some true → goesOn r = true → m[i + 1]? = some true
  jmp : ∀ (i : Nat) (j : J) (t : Nat), P[i]? = some (.jmp j t) → m[i]? = some true → m[t]? = some true
noncomputable def liveC (P : List Row) (m : List Bool) : Code := (List.range P.length).map fun i => if m[i]? = some true then P[i]? else none
theorem live_done {b : Nat} {P : List Row} {m : List Bool} (g : Good b P) (h : LiveI P m) :
    (∀ (i : Nat) (j : J) (t : Nat), (liveC P m)[i]? = some (some (.jmp j t)) → t < (liveC P m).length) ∧ Good b (sq (liveC P m)) ∧ Imp (P.map some) ((sq (liveC P m)).map some) ∧ (sq (liveC P m)).length ≤ P.length := by
  have len : (liveC P m).length = P.length := by simp [liveC]
  have get : ∀ {i : Nat} {r : Row}, P[i]? = some r → m[i]? = some true → (liveC P m)[i]? = some (some r) := fun {i r} e e2 => by
    have hi : i < P.length := (List.getElem?_eq_some_iff.mp e).1
    unfold liveC
    rw [List.getElem?_map, List.getElem?_range hi]; simp [e, e2]
  have src : ∀ {i : Nat} {r : Row}, (liveC P m)[i]? = some (some r) → P[i]? = some r ∧ m[i]? = some true := fun {i r} e => by
    have hi : i < P.length := by rw [← len]; exact get_lt e
    unfold liveC at e
    rw [List.getElem?_map, List.getElem?_range hi] at e
    simp only [Option.map_some, Option.some.injEq] at e
    split at e
    · rename_i h2; exact ⟨e, h2⟩
    · cases e
  have lv : ∀ {t : Nat}, m[t]? = some true → pl (liveC P m) t < (sq (liveC P m)).length := fun {t} e => by
    have ht : t < P.length := by rw [← h.len]; exact (List.getElem?_eq_some_iff.mp e).1
    exact pl_lt (get (r := P[t]) (by simp [ht]) e)
  refine ⟨fun i j t e => by rw [len]; exact g.tg _ _ _ (src e).1, ?_⟩
  refine good_sq g len (imp_live (m := fun i => m[i]? == some true) g.safe (by simp [h.start]) (fun i r e e2 => get e (by simpa using e2)) (fun i r e e2 hg => by simpa using h.go i r e (by simpa using e2) hg) (fun i j t e e2 => by simpa using h.jmp i j t e (by simpa using e2))) fun i r e => ?_
  obtain ⟨e1, e2⟩ := src e
  refine ⟨g.row e1, fun j t ej => ?_, fun hg => lv (h.go i r e1 e2 hg)⟩
  subst ej
  exact lv (h.jmp i j t e1 e2)
end Mine
namespace Mine
/-- what holds behind a statement -/
theorem cutS {s : MS} {r : MSs} {K : Ctx} {n : Nat} {X : Sto → Prop} {ρ : Loc} {σ : Sto} {Q : KS} (P : Loc → Sto → Prop) (hc : ∀ ρ σ, P ρ σ → r.vc K n X ρ σ Q) (h : (∀ ρ σ, P ρ σ → kont (r.vc K n X) Q .next ρ σ) → s.vc K n X ρ σ (kont (r.vc K n X) Q)) :
    (MSs.cons s r).vc K n X ρ σ Q := h fun ρ σ p => .next (hc ρ σ p)
theorem cut_sub {n a : Nat} (h : a ≤ n) : cutAt ((n : Int) - (a : Int)) n = n - a := by
  unfold cutAt; rw [if_neg (by lia)]; lia
theorem big_sub {n a : Nat} (h : n ≤ 1000) (h2 : a ≤ n) : BigI ((n : Int) - (a : Int)) := by constructor <;> lia
theorem clear_snoc {C : Code} {l : List Nat} {p : Nat} : clear C (l ++ [p]) = (clear C l).set p none := List.foldl_append
noncomputable def natL (l : List Nat) : List V := l.map fun (c : Nat) => V.int (c : Int)
theorem natL_len {l : List Nat} : (natL l).length = l.length := List.length_map _
theorem natL_snoc {l : List Nat} {k : Nat} : natL l ++ [.int (k : Nat)] = natL (l ++ [k]) := (List.map_append (f := fun (c : Nat) => V.int (c : Int)) (l₁ := l) (l₂ := [k])).symm
theorem vals_of {C : Code} {b : Nat} : ∀ {l : List Nat}, (∀ c ∈ l, ∃ v, C[c]? = some (some (.const v)) ∧ ValOk b v) → ∃ vs : List Val, vs.length = l.length ∧ (∀ x ∈ vs, ValOk b x) ∧ ∀ (i p : Nat), l[i]? = some p → ∃ v : Val, vs[i]? = some v ∧ C[p]? = some (some (Row.const v))
  | [], _ => ⟨[], rfl, nofun, nofun⟩
  | c :: l, h => by
    obtain ⟨v, hv, hok⟩ := h c List.mem_cons_self
    obtain ⟨vs, h1, h2, h3⟩ := vals_of fun c hc => h c (List.mem_cons_of_mem _ hc)
    refine ⟨v :: vs, congrArg Nat.succ h1, fun x hx => (List.mem_cons.mp hx).elim (fun e => e ▸ hok) (h2 x), fun i p e => ?_⟩
    cases i with
    | zero => cases e; exact ⟨v, rfl, hv⟩
    | succ i => exact h3 i p e
theorem inc_len {k : Nat} : ∀ {cs : List Nat} {lo : Nat}, cs.Pairwise (· < ·) → (∀ c ∈ cs, lo ≤ c ∧ c < k) → cs.length ≤ k - lo
  | [], lo, _, _ => Nat.zero_le _
  | c :: cs, lo, h, hb => by
    obtain ⟨h1, h2⟩ := List.pairwise_cons.mp h
    have h3 := inc_len (lo := c + 1) h2 fun x hx => ⟨h1 x hx, (hb x (List.mem_cons_of_mem _ hx)).2⟩
    have h4 := hb c List.mem_cons_self
    show cs.length + 1 ≤ k - lo
    lia
theorem ValOk.mono {b c : Nat} {v : Val} (h : ValOk b v) (hb : b ≤ c) : ValOk c v := by
  cases v with
  | int i => exact Nat.le_trans h (Nat.pow_le_pow_right (by decide) hb)
  | _ => exact h
theorem good_tgC {b k : Nat} {P : List Row} {l : List Bool} {C : Code} {cs : List Nat} (g : Good b P) (h : FoldI b P l k C cs) : ∀ (i : Nat) (j : J) (t : Nat), C[i]? = some (some (.jmp j t)) → t < C.length := fun i j t e => by
  rw [h.len]
  rcases (h.rows i _ e).2 with e2 | ⟨v, e2⟩
  · exact g.tg _ _ _ e2
  · cases e2
theorem len_two {α : Type} {l : List α} (h : l.length = 2) : ∃ x y, l = [x, y] := match l, h with | [x, y], _ => ⟨x, y, rfl⟩
/-- a row made of its constants -/
theorem FoldI.made {b k : Nat} {P : List Row} {l : List Bool} {C : Code} {cs : List Nat} {op : Row} {vs : List Val} {v : Val} (hb : 7 ≤ b) (h : FoldI b P l k C cs) (hl : MarksOk P l) (hm : l[k]? = some false) (hk : P[k]? = some op) (h0 : op.arity ≠ 0) (hle : op.arity ≤ cs.length)
    (hvl : vs.length = op.arity) (hvg : ∀ (i p : Nat), (cs.drop (cs.length - op.arity))[i]? = some p → ∃ v : Val, vs[i]? = some v ∧ C[p]? = some (some (Row.const v))) (hv : op.made vs = some v) :
    FoldI b P l (k + 1) ((clear C (cs.drop (cs.length - op.arity))).set k (some (.const v))) (cs.take (cs.length - op.arity) ++ [k]) := by
  have hdl : (cs.drop (cs.length - op.arity)).length = op.arity := by rw [List.length_drop]; lia
  have hsplit : cs = cs.take (cs.length - op.arity) ++ cs.drop (cs.length - op.arity) := (List.take_append_drop _ _).symm
  generalize cs.drop (cs.length - op.arity) = last at hvg hdl hsplit ⊢
  generalize cs.take (cs.length - op.arity) = cs2 at hsplit ⊢
  subst hsplit
  have hgo : goesOn op = true := by cases op <;> first | rfl | exact absurd rfl h0
  have hok : ValOk (b + (k + 1)) v := made_ok (b := b + k) (Nat.le_add_right_of_le hb) (fun x hx => by
    obtain ⟨i, hi⟩ := List.getElem?_of_mem hx
    have hi2 : i < last.length := by rw [hdl, ← hvl]; exact (List.getElem?_eq_some_iff.mp hi).1
    obtain ⟨w, e1, e2⟩ := hvg i _ (List.getElem?_eq_getElem hi2)
    cases hi.symm.trans e1
    exact (h.rows _ _ e2).1) hv
  have hne : last ≠ [] := fun z => h0 (by rw [← hdl, z]; rfl)
  refine h.step hm hk hgo hne hok ?_
  cases op with
  | bin o =>
    obtain ⟨x, y, rfl, _⟩ := on2V_some hv
    obtain ⟨p, q, rfl⟩ := len_two hdl
    obtain ⟨_, e, hp⟩ := hvg 0 p rfl
    obtain ⟨_, e2, hq⟩ := hvg 1 q rfl
    cases e; cases e2
    exact FoldI.imp2 h hl hm hk hp hq rfl hv
  | xor =>
    obtain ⟨x, y, rfl, _⟩ := on2V_some hv
    obtain ⟨p, q, rfl⟩ := len_two hdl
    obtain ⟨_, e, hp⟩ := hvg 0 p rfl
    obtain ⟨_, e2, hq⟩ := hvg 1 q rfl
    cases e; cases e2
    exact FoldI.imp2 h hl hm hk hp hq rfl hv
  | un o =>
    obtain ⟨x, rfl, _⟩ := on1V_some hv
    obtain ⟨p, rfl⟩ := List.length_eq_one_iff.mp hdl
    obtain ⟨_, e, hp⟩ := hvg 0 p rfl
    cases e
    exact FoldI.imp1 h hl hm hk hp rfl hv
  | text =>
    obtain ⟨x, rfl, _⟩ := on1V_some hv
    obtain ⟨p, rfl⟩ := List.length_eq_one_iff.mp hdl
    obtain ⟨_, e, hp⟩ := hvg 0 p rfl
    cases e
    exact FoldI.imp1 h hl hm hk hp rfl hv
  | _ => exact absurd rfl h0
/-- a pass over the rows: what comes out is a good code that does the same -/
inductive S_passOf (mk : Addr → List V) (d : Nat) (σ : Sto) (Q : V → Sto → Prop) (X : Sto → Prop) : List V → Prop
  | mk (a : Addr) (P : List Row) (b : Nat) (ha : σ a = some (P.map Row.v)) (g : Good b P) (h7 : 7 ≤ b) (h8 : b ≤ 800)
    (h : ∀ c σ' P', Ext σ σ' → σ c = none → σ' c = some (P'.map Row.v) → Good (b + d) P' → Imp (P.map some) (P'.map some) → P'.length ≤ P.length → Q (.list c) σ') : S_passOf mk d σ Q X (mk a)
structure F8 (m o c : Addr) (P : List Row) (l : List Bool) (b : Nat) (σ : Sto) (k : Nat) (cs : List Nat) (C : Code) (σ' : Sto) : Prop where
  x : Ext σ σ'
  hm : σ' m = some (l.map V.bool)
  ho : σ' o = some (C.map orv)
  hc : σ' c = some (natL cs)
  cn : σ c = none
  cm : c ≠ m
  co : c ≠ o
  F : FoldI b P l k C cs
inductive I8 (a m o : Addr) (P : List Row) (l : List Bool) (b : Nat) (σ : Sto) (k : Nat) : Loc → Sto → Prop
  | mk (c : Addr) (cs : List Nat) (C : Code) (x5 x6 x7 x8 x9 x10 : Option V) {σ' : Sto} (f : F8 m o c P l b σ k cs C σ') : I8 a m o P l b σ k [some (.list a), some (.raw (.ref 360)), some (.list m), some (.list o), some (.list c), x5, x6, x7, x8, x9, x10] σ'
inductive I8m (a m o : Addr) (P : List Row) (l : List Bool) (b : Nat) (σ : Sto) (k : Nat) : Loc → Sto → Prop
  | mk (c : Addr) (cs : List Nat) (C : Code) (x6 x7 x8 x9 x10 : Option V) {σ' : Sto} (f : F8 m o c P l b σ k cs C σ') (hm : cs ≠ [] → l[k]? = some false) (hl : cs.length ≤ k) : I8m a m o P l b σ k [some (.list a), some (.raw (.ref 360)), some (.list m), some (.list o), some (.list c), some (.int (k : Nat)), x6, x7, x8, x9, x10] σ'
/-- behind the trial: what was made -/
inductive I8t (a m o c : Addr) (P : List Row) (l : List Bool) (b : Nat) (σ : Sto) (k : Nat) (cs : List Nat) (C : Code) (op : Row) : Loc → Sto → Prop
  | no (x9 x10 : Option V) {σ' : Sto} (f : F8 m o c P l b σ k cs C σ') : I8t a m o c P l b σ k cs C op [some (.list a), some (.raw (.ref 360)), some (.list m), some (.list o), some (.list c), some (.int (k : Nat)), some op.v, some (.int op.arity), some (.bool false), x9, x10] σ'
  | yes (x9 : Option V) (vs : List Val) (v : Val) {σ' : Sto} (f : F8 m o c P l b σ k cs C σ') (h0 : op.arity ≠ 0) (hle : op.arity ≤ cs.length) (hvl : vs.length = op.arity) (hvg : ∀ (i p : Nat), (cs.drop (cs.length - op.arity))[i]? = some p → ∃ v : Val, vs[i]? = some v ∧ C[p]? = some (some (Row.const v)))
      (hv : op.made vs = some v) : I8t a m o c P l b σ k cs C op [some (.list a), some (.raw (.ref 360)), some (.list m), some (.list o), some (.list c), some (.int (k : Nat)), some op.v, some (.int op.arity), some (.bool true), x9, some v.v] σ'
inductive I8c (a m o c s : Addr) (l : List Bool) (σ : Sto) (k : Nat) (cs : List Nat) (C : Code) (op : Row) (v : Val) (last : List Nat) (kk : Nat) : Loc → Sto → Prop
  | mk (x9 : Option V) {σ' : Sto} (hx : Ext σ σ') (hs : σ' s = some (natL last)) (hm : σ' m = some (l.map V.bool)) (hc : σ' c = some (natL cs)) (ho : σ' o = some ((clear C (last.take kk)).map orv)) :
    I8c a m o c s l σ k cs C op v last kk [some (.list a), some (.raw (.ref 360)), some (.list m), some (.list o), some (.list c), some (.int (k : Nat)), some op.v, some (.int op.arity), some (.bool true), x9, some v.v] σ'
theorem map_set {α : Type} {f : α → V} {l : List α} {i : Nat} {x : α} : (l.map f).set i (f x) = (l.set i x).map f := List.map_set.symm
theorem F8.new {m o c c2 : Addr} {P : List Row} {l : List Bool} {b : Nat} {σ : Sto} {k : Nat} {cs : List Nat} {C : Code} {σ' : Sto} (f : F8 m o c P l b σ k cs C σ') (h : σ' c2 = none) : F8 m o c2 P l b σ k [] C (put σ' c2 []) :=
  ⟨f.x.trans (Ext.new h), (Ext.new h) _ _ f.hm, (Ext.new h) _ _ f.ho, put_self _ _ _, f.x.none h, (Ext.ne f.hm h).symm, (Ext.ne f.ho h).symm, f.F.reset⟩
theorem F8.ext {m o c : Addr} {P : List Row} {l : List Bool} {b : Nat} {σ : Sto} {k : Nat} {cs : List Nat} {C : Code} {σ' σ'' : Sto} (f : F8 m o c P l b σ k cs C σ') (h : Ext σ' σ'') : F8 m o c P l b σ k cs C σ'' :=
  { f with x := f.x.trans h, hm := h _ _ f.hm, ho := h _ _ f.ho, hc := h _ _ f.hc }
theorem I8.drop {a m o c c2 : Addr} {P : List Row} {l : List Bool} {b : Nat} {σ : Sto} {k : Nat} {cs : List Nat} {C : Code} {σ' : Sto} {x5 x6 x7 x8 x9 x10 : Option V} (f : F8 m o c P l b σ k cs C σ') (h : σ' c2 = none) :
    I8 a m o P l b σ (k + 1) [some (.list a), some (.raw (.ref 360)), some (.list m), some (.list o), some (.list c2), x5, x6, x7, x8, x9, x10] (put σ' c2 []) := .mk c2 [] C _ _ _ _ _ _ { f.new h with F := f.F.other }
theorem f_fold {K : Ctx} {nf : Nat} (hnf : 3 ≤ nf) (hm : FnOK K 3 (.ref 242) fun ds σ Q X => S_marks σ Q X ds) (hs : FnOK K 3 (.ref 247) fun ds σ Q X => S_sq σ Q X ds) (ht : FnOK K 1 (.ref 254) fun ds σ Q X => S_taken σ Q X ds) (hf : FnOK K nf (.ref 261) fun ds σ Q X => S_folded σ Q X ds)
    (h : chkFn K.frag 266 p_fold_rows n_fold_rows m_fold_rows = true) : FnOK K (nf + 1) (.ref 266) fun ds σ Q X => S_passOf (fun a => [.list a, .raw (.ref 360)]) 67 σ Q X ds := fnPure h fun ds σ Q X hS => by
  induction hS with | mk a P b ha g h7 h8 hq => ?_
  refine ⟨rfl, ?_⟩
  have hlen := g.len
  (repeat first | walk_at "go")
  refine ⟨_, 3, hnf, hm, .mk a P ha (by lia) g.tg fun m σ1 l hx1 hmn hml hll hmk => ?_⟩
  (repeat first | walk_at "go")
  refine ⟨_, hx1 a _ ha, fun o hon => ?_⟩
  (repeat first | walk_at "go")
  refine ⟨Nat.zero_le _, fun c hcn => ?_⟩
  have hno := hx1.none hon
  have x2 : Ext σ (put σ1 o (P.map Row.v)) := hx1.trans (Ext.new hon)
  have x3 : Ext σ (put (put σ1 o (P.map Row.v)) c []) := x2.trans (Ext.new hcn)
  have hmo : m ≠ o := Ext.ne hml hon
  have hml2 := (Ext.new (l := P.map Row.v) hon) _ _ hml
  have f0 : F8 m o c P l b σ 0 [] (P.map some) (put (put σ1 o (P.map Row.v)) c []) := ⟨x3, (Ext.new hcn) _ _ hml2, ((Ext.new hcn) _ _ (put_self _ _ _)).trans (congrArg some (orv_some P).symm), put_self _ _ _, x2.none hcn, (Ext.ne hml2 hcn).symm, (Ext.ne (put_self _ _ _) hcn).symm, FoldI.start g⟩
  (repeat first | walk_at "go")
  refine ⟨_, x3 a _ ha, ?_⟩
  (repeat first | walk_at "go")
  have e0 : ((P.map Row.v).length : Int) = (P.length : Nat) := by rw [List.length_map]
  refine ⟨by rw [e0]; exact big_n (LBle (by lia)), ?_⟩
  (repeat first | walk_at "go")
  refine for_rng (I8 a m o P l b σ) e0 noX (LBle (by lia)) (.mk c [] _ _ _ _ _ _ _ f0) (fun k ρ σ' hkl hI => ?_) (fun ρ σ' hI => ?_)
  · induction hI with | @mk c cs C x5 x6 x7 x8 x9 x10 σ' f => ?_
    have hlk : k < l.length := by lia
    refine cutS (I8m a m o P l b σ k) (fun ρ σ' hI => ?_) fun hc => ?_
    · induction hI with | @mk c cs C x6 x7 x8 x9 x10 σ' f hnm hcl => ?_
      have hPk : P[k]? = some P[k] := List.getElem?_eq_getElem hkl
      generalize P[k] = op at hPk
      (repeat first | walk_at "go")
      refine ⟨_, _, f.x a _ ha, pyAt_nat.trans (mapGet hPk), ?_⟩
      (repeat first | walk_at "go")
      refine ⟨_, 1, Nat.le_trans (by decide) hnf, ht, .mk op ?_⟩
      (repeat first | walk_at "go" | refine ix_r0 ?_)
      refine brkI (fun e => ?_) (fun e => ?_)
      · obtain ⟨v, rfl⟩ := w17 e
        (repeat first | walk_at "go")
        refine ⟨by rw [f.hc]; exact nofun, ?_⟩
        (repeat first | walk_at "go")
        refine ⟨_, f.hc, by rw [natL_len]; exact LBle (by lia), ?_⟩
        (repeat first | walk_at "go")
        exact .mk c (cs ++ [k]) C _ _ _ _ _ _ ⟨f.x.put f.cn, (put_ne f.cm.symm).trans f.hm, (put_ne f.co.symm).trans f.ho, (put_self _ _ _).trans (congrArg some natL_snoc), f.cn, f.cm, f.co, f.F.const hPk hnm⟩
      · refine .next (.next ?_)
        refine cutS (I8t a m o c P l b σ k cs C op) (fun ρ σ' hI => ?_) fun hc => ?_
        · cases hI with
          | no x9 x10 f => 
            (repeat first | walk_at "go")
            refine .t ?_
            (repeat first | walk_at "go")
            refine ⟨Nat.zero_le _, fun c2 hc2 => ?_⟩
            (repeat first | walk_at "go")
            exact I8.drop f hc2
          | yes x9 vs v f h0 hle hvl hvg hv =>
            (repeat first | walk_at "go")
            refine .f ?_
            have hvg2 := hvg
            have hdl : (cs.drop (cs.length - op.arity)).length = op.arity := by rw [List.length_drop]; lia
            (repeat first | walk_at "go")
            refine ⟨_, f.hc, ?_⟩
            (repeat first | walk_at "go")
            refine ⟨_, f.hc, by rw [natL_len]; exact big_sub (by lia) hle, fun s hsn => ?_⟩
            rw [natL_len, cut_sub hle, show (natL cs).drop (cs.length - op.arity) = natL (cs.drop (cs.length - op.arity)) from (List.map_drop).symm]
            have hso : s ≠ o := (Ext.ne f.ho hsn).symm
            have hsm : s ≠ m := (Ext.ne f.hm hsn).symm
            have hsc : s ≠ c := (Ext.ne f.hc hsn).symm
            have xs : Ext _ (put _ s (natL (cs.drop (cs.length - op.arity)))) := Ext.new hsn
            (repeat first | walk_at "go")
            refine for_list (I8c a m o c s l σ k cs C op v (cs.drop (cs.length - op.arity))) (put_self _ _ _) noX (by rw [natL_len, hdl]; exact Nat.le_trans (arity_le op) (by decide)) (.mk x9 (f.x.trans xs) (put_self _ _ _) (xs _ _ f.hm) (xs _ _ f.hc) (xs _ _ f.ho)) (fun kk ρ σ' hI => ?_) (fun kk d ρ σ' hkk hI => ?_) (fun ρ σ' hI => ?_)
            · induction hI with | mk x9 hx hs => exact hs
            · induction hI with | @mk x9 σ' hx hs hm2 hc2 ho2 => ?_
              obtain ⟨p, hp, rfl⟩ := mapInv hkk
              obtain ⟨_, _, hCp⟩ := hvg kk p hp
              (repeat first | walk_at "go")
              refine ⟨_, ho2, by lia, by rw [List.length_map, clear_len]; exact get_lt hCp, ?_⟩
              (repeat first | walk_at "go")
              refine .mk _ (hx.put hno) ((put_ne hso).trans hs) ((put_ne hmo).trans hm2) ((put_ne f.co).trans hc2) ((put_self _ _ _).trans (congrArg some ?_))
              rw [List.take_add_one, hp]
              exact (map_set (f := orv) (x := none)).trans (congrArg (List.map orv) clear_snoc.symm)
            · induction hI with | @mk x9 σ' hx hs hm2 hc2 ho2 => ?_
              rw [natL_len, List.take_length] at ho2
              (repeat first | walk_at "go")
              refine ⟨_, hc2, ?_⟩
              (repeat first | walk_at "go")
              refine ⟨_, hc2, by rw [natL_len]; exact big_sub (by lia) hle, fun t1 ht1 => ?_⟩
              rw [natL_len, cut_sub hle, show (natL cs).take (cs.length - op.arity) = natL (cs.take (cs.length - op.arity)) from (List.map_take).symm]
              (repeat first | walk_at "go")
              refine ⟨len_ok rfl, fun t2 ht2 => ?_⟩
              (repeat first | walk_at "go")
              refine ⟨_, _, (Ext.new ht2) t1 _ (put_self _ _ _), put_self _ _ _, ?_, fun c3 hc3 => ?_⟩
              · rw [natL_len, List.length_take]
                exact Nat.le_trans (Nat.add_le_add_right (Nat.min_le_right _ _) 1) (LBle (by lia))
              have y2 := (Ext.new (l := natL (cs.take (cs.length - op.arity))) ht1).trans (Ext.new (l := [V.int (k : Nat)]) ht2)
              have y3 := y2.trans (Ext.new (l := natL (cs.take (cs.length - op.arity)) ++ [V.int (k : Nat)]) hc3)
              have n1 : c3 ≠ m := (Ext.ne (y2 _ _ hm2) hc3).symm
              have n2 : c3 ≠ o := (Ext.ne (y2 _ _ ho2) hc3).symm
              have hoc3 := y3 o _ ho2
              (repeat first | walk_at "go")
              refine ⟨len_ok rfl, ?_⟩
              (repeat first | walk_at "go")
              refine ⟨_, hoc3, by lia, by rw [List.length_map, clear_len, f.F.len]; exact hkl, ?_⟩
              (repeat first | walk_at "go")
              refine .mk c3 (cs.take (cs.length - op.arity) ++ [k]) ((clear C (cs.drop (cs.length - op.arity))).set k (some (.const v))) _ _ _ _ _ _ ⟨(hx.trans y3).put hno, (put_ne hmo).trans (y3 m _ hm2), (put_self _ _ _).trans (congrArg some (map_set (f := orv) (x := some (.const v)))), (put_ne n2).trans ((put_self _ _ _).trans (congrArg some natL_snoc)), (hx.trans y2).none hc3, n1, n2, ?_⟩
              exact f.F.made h7 hmk (hnm fun z => h0 (Nat.eq_zero_of_le_zero (by subst z; exact hle))) hPk h0 hle hvl hvg hv
        · (repeat first | walk_at "go")
          refine ⟨rfl, ?_⟩
          (repeat first | walk_at "go")
          refine ifI (fun e1 => ?_) (fun e1 => .f (hc _ _ (.no _ _ f)))
          (repeat first | walk_at "go")
          refine ⟨_, f.hc, ?_⟩
          (repeat first | walk_at "go")
          refine brkI (fun e2 => ?_) (fun e2 => hc _ _ (.no _ _ f))
          have hle : op.arity ≤ cs.length := by have := of_decide_eq_true e2; rw [natL_len] at this; lia
          have h0 : op.arity ≠ 0 := by have := of_decide_eq_true e1; lia
          (repeat first | walk_at "go")
          refine ⟨_, nf, Nat.le_refl _, hf, ?_⟩
          (repeat first | walk_at "go")
          refine ⟨_, f.hc, ?_⟩
          (repeat first | walk_at "go")
          refine ⟨_, f.hc, by rw [natL_len]; exact big_sub (by lia) hle, fun s hsn => ?_⟩
          rw [natL_len, cut_sub hle, show (natL cs).drop (cs.length - op.arity) = natL (cs.drop (cs.length - op.arity)) from (List.map_drop).symm]
          obtain ⟨vs, hvl, hvok, hvg⟩ := vals_of (C := C) (b := b + k) (l := cs.drop (cs.length - op.arity)) fun c hc => by
            obtain ⟨v, hv⟩ := f.F.cst c (List.mem_of_mem_drop hc)
            exact ⟨v, hv, (f.F.rows c _ hv).1⟩
          have hdl : (cs.drop (cs.length - op.arity)).length = op.arity := by rw [List.length_drop]; lia
          have xs := Ext.new (l := natL (cs.drop (cs.length - op.arity))) hsn
          (repeat first | walk_at "go")
          refine comp_list (fun R kk σ2 => Ext _ σ2 ∧ σ2 R = some ((vs.take kk).map Val.v)) (put_self _ _ _) noX (by rw [natL_len, hdl]; exact Nat.le_trans (arity_le op) (by decide)) (fun R hR => ⟨Ext.new hR, put_self _ _ _⟩) (fun R hR k σ'' hI => hI.1 _ _ (put_self _ _ _)) (fun R hR kk d σ2 hkk hI => ?_) (fun R hR σ2 hI => ?_)
          · obtain ⟨hx2, hR2⟩ := hI
            obtain ⟨p, hp, rfl⟩ := mapInv hkk
            obtain ⟨v, hv, hCp⟩ := hvg kk p hp
            (repeat first | walk_at "go")
            refine ⟨_, _, hx2 o _ (xs o _ f.ho), pyAt_nat.trans (mapGet hCp), ?_⟩
            (repeat first | walk_at "go")
            refine ix_c1 ⟨_, hR2, ?_, (hx2.trans (Ext.refl _)).put hR, (put_self _ _ _).trans ?_⟩
            · rw [List.length_map, List.length_take]
              exact Nat.le_trans (Nat.add_le_add_right (Nat.min_le_right _ _) 1) (LBle (by have := arity_le op; lia))
            · rw [List.take_add_one, hv, List.map_append]; rfl
          · obtain ⟨hx2, hR2⟩ := hI
            rw [natL_len, ← hvl, List.take_length] at hR2
            have hvl2 := hvl.trans hdl
            refine .mk op vs R hR2 h0 hvl2 (fun x hx => (hvok x hx).mono (by lia)) (fun v hv σ3 hx3 => ?_) fun hv σ3 hx3 => ?_
            · exact ⟨rfl, .next (hc _ _ (.yes _ vs v (f.ext ((xs.trans hx2).trans hx3)) h0 hle hvl2 hvg hv))⟩
            · exact ⟨rfl, .next (hc _ _ (.no _ _ (f.ext ((xs.trans hx2).trans hx3))))⟩
    · (repeat first | walk_at "go")
      refine ⟨_, .bool l[k], f.hm, pyAt_nat.trans (mapGet (List.getElem?_eq_getElem hlk)), ?_⟩
      refine brkI (fun e => ?_) (fun e => ?_)
      · (repeat first | walk_at "go")
        refine ⟨Nat.zero_le _, fun c' hcz => ?_⟩
        refine .next (hc _ _ (.mk c' [] C _ _ _ _ _ (f.new hcz) (fun z => absurd rfl z) (Nat.zero_le _)))
      · refine hc _ _ (.mk c cs C _ _ _ _ _ f (fun _ => (List.getElem?_eq_getElem hlk).trans (congrArg some e)) ?_)
        have := inc_len (lo := 0) f.F.inc (fun c hc => ⟨Nat.zero_le _, f.F.lt c hc⟩)
        exact this
  · induction hI with | @mk c cs C x5 x6 x7 x8 x9 x10 σ' f => ?_
    (repeat first | walk_at "go")
    refine ⟨_, 3, hnf, hs, .mk o C f.ho (by rw [f.F.len]; lia) (good_tgC g f.F) fun r σ2 hx2 hrn hr2 => ?_⟩
    obtain ⟨g1, g2, g3⟩ := f.F.done g
    (repeat first | walk_at "go")
    exact hq r σ2 _ (f.x.trans hx2) (f.x.none hrn) hr2 g1 g2 g3
end Mine
namespace Mine
theorem notF {b : Bool} (h : (!b) = false) : b = true := by cases b <;> first | rfl | exact ff h.symm
theorem notT {b : Bool} (h : (!b) = true) : b = false := by cases b <;> first | rfl | exact ff h
theorem truthy_isT (x : Val) : truthy x = isT x := by
  cases x with
  | non => rfl
  | int i =>
    by_cases h : i = 0
    · subst h; rfl
    · have e : (i == 0) = false := beq_false_of_ne h
      have e2 : (Val.int i == Val.int 0) = false := beq_false_of_ne fun z => h (Val.int.inj z)
      show (!(i == 0)) = !(false || false || false || (Val.int i == Val.int 0))
      rw [e, e2]; rfl
  | str k =>
    by_cases h : k = 0
    · subst h; rfl
    by_cases h1 : k = 1
    · subst h1; rfl
    have e : (k == 0) = false := beq_false_of_ne h
    have e1 : (k == 1) = false := beq_false_of_ne h1
    have e2 : (Val.str k == Val.str 0) = false := beq_false_of_ne fun z => h (Val.str.inj z)
    have e3 : (Val.str k == Val.str 1) = false := beq_false_of_ne fun z => h1 (Val.str.inj z)
    show (!(k == 0) && !(k == 1)) = !(false || (Val.str k == Val.str 0) || (Val.str k == Val.str 1) || false)
    rw [e, e1, e2, e3]; rfl
theorem wBr {r : Row} (h : (29 == r.w || (30 == r.w || (31 == r.w || (32 == r.w || (33 == r.w || 34 == r.w))))) = true) : ∃ j t, r = .jmp j t ∧ j ≠ .jump := by
  cases r with
  | jmp j t => exact ⟨j, t, rfl, fun z => by subst z; exact ff h⟩
  | _ => exact ff h
theorem sub1 {n : Nat} (h : 0 < n) : ((n : Int) - 1) = ((n - 1 : Nat) : Int) := by lia
theorem so_t {j : J} {x : Val} (h : (31 == j.w || 34 == j.w) = true) : j.so x = !(x == .non) := by cases j <;> first | rfl | exact ff h
theorem so_f {j : J} {x : Val} (hj : j ≠ .jump) (h : (31 == j.w || 34 == j.w) = false) : j.so x = (isT x == (30 == j.w || 32 == j.w)) := by
  cases j with
  | jump => exact absurd rfl hj
  | ifd => exact ff h.symm
  | dorj => exact ff h.symm
  | _ =>
    show _ = (isT x == _)
    cases e : isT x <;> simp only [J.so, e] <;> rfl
theorem isn_v {x : Val} {σ : Sto} {Q : Bool → Prop} (h : Q (!(x == .non))) : vCmp .IsNot x.v .non σ Q := by cases x <;> exact h
inductive S_isTaken (σ : Sto) (Q : V → Sto → Prop) (X : Sto → Prop) : List V → Prop
  | mk (j : J) (x : Val) (hj : j ≠ .jump) (h : Q (.bool (j.so x)) σ) : S_isTaken σ Q X [.str j.w, x.v]
theorem f_is_taken {K : Ctx} (ht : FnOK K 1 (.ref 21) fun ds σ Q X => S_truth σ Q X ds) (h : chkFn K.frag 273 p_is_taken n_is_taken m_is_taken = true) : FnOK K 2 (.ref 273) fun ds σ Q X => S_isTaken σ Q X ds := fnPure h fun ds σ Q X hS => by
  induction hS with | mk j x hj hq => ?_
  refine ⟨rfl, ?_⟩
  (repeat first | walk_at "go" | refine ⟨len_ok rfl, ?_⟩)
  refine brkI (fun e => ?_) (fun e => ?_)
  · (repeat first | walk_at "go" | refine ⟨len_ok rfl, ?_⟩)
    refine isn_v ?_
    (repeat first | walk_at "go" | refine ⟨len_ok rfl, ?_⟩)
    exact at_b (so_t e) hq
  · (repeat first | walk_at "go" | refine ⟨len_ok rfl, ?_⟩)
    refine ⟨_, 1, by decide, ht, .mk x ?_⟩
    (repeat first | walk_at "go" | refine ⟨len_ok rfl, ?_⟩)
    rw [truthy_isT]
    exact at_b (so_f hj e) hq
inductive I9 (a m o : Addr) (P : List Row) (l : List Bool) (b : Nat) (σ : Sto) (k : Nat) : Loc → Sto → Prop
  | mk (C : Code) (x3 x4 x5 : Option V) {σ' : Sto} (hx : Ext σ σ') (hm : σ' m = some (l.map V.bool)) (ho : σ' o = some (C.map orv)) (F : BrI b P k C) : I9 a m o P l b σ k [some (.list a), some (.list m), some (.list o), x3, x4, x5] σ'
theorem pops_w {j : J} (hj : j ≠ .jump) : (29 == j.w || (30 == j.w || 31 == j.w)) = j.pops := by cases j <;> first | rfl | exact absurd rfl hj
theorem set_set {C : Code} {i k : Nat} {x y : Option Row} : ((C.map orv).set i (orv x)).set k (orv y) = ((C.set i x).set k y).map orv := by rw [List.map_set, List.map_set]
theorem f_branch {K : Ctx} (hm : FnOK K 3 (.ref 242) fun ds σ Q X => S_marks σ Q X ds) (hs : FnOK K 3 (.ref 247) fun ds σ Q X => S_sq σ Q X ds) (ht : FnOK K 2 (.ref 273) fun ds σ Q X => S_isTaken σ Q X ds)
    (h : chkFn K.frag 280 p_branch_rows n_branch_rows m_branch_rows = true) : FnOK K 4 (.ref 280) fun ds σ Q X => S_passOf (fun a => [.list a]) 0 σ Q X ds := fnPure h fun ds σ Q X hS => by
  induction hS with | mk a P b ha g h7 h8 hq => ?_
  refine ⟨rfl, ?_⟩
  have hlen := g.len
  have hne := g.ne
  (repeat first | walk_at "go" | refine ⟨len_ok rfl, ?_⟩)
  refine ⟨_, 3, Nat.le_refl _, hm, .mk a P ha (by lia) g.tg fun m σ1 l hx1 hmn hml hll hmk => ?_⟩
  (repeat first | walk_at "go" | refine ⟨len_ok rfl, ?_⟩)
  refine ⟨_, hx1 a _ ha, fun o hon => ?_⟩
  have hno := hx1.none hon
  have x3 : Ext σ (put σ1 o (P.map Row.v)) := hx1.trans (Ext.new hon)
  have hmo : m ≠ o := Ext.ne hml hon
  (repeat first | walk_at "go" | refine ⟨len_ok rfl, ?_⟩)
  refine ⟨_, x3 a _ ha, ?_⟩
  (repeat first | walk_at "go" | refine ⟨len_ok rfl, ?_⟩)
  have e0 : ((P.map Row.v).length : Int) - 1 = (P.length - 1 : Nat) := by rw [List.length_map]; exact sub1 hne
  refine ⟨by rw [e0]; exact big_n (LBle (by lia)), ?_⟩
  (repeat first | walk_at "go" | refine ⟨len_ok rfl, ?_⟩)
  refine for_rng (I9 a m o P l b σ) e0 noX (LBle (by lia)) (.mk _ _ _ _ x3 ((put_ne hmo).trans hml) ((put_self _ _ _).trans (congrArg some (orv_some P).symm)) (BrI.start g)) (fun k ρ σ' hkl hI => ?_) (fun ρ σ' hI => ?_)
  · induction hI with | @mk C x3 x4 x5 σ' hx hm' ho' F => ?_
    have hk1 : k + 1 < P.length := by lia
    have hP0 : P[k]? = some (P[k]'(by lia)) := List.getElem?_eq_getElem _
    have hP1 : P[k + 1]? = some P[k + 1] := List.getElem?_eq_getElem hk1
    generalize P[k]'(by lia) = p at hP0
    generalize P[k + 1] = q at hP1
    have hlk : k + 1 < l.length := by lia
    have gi0 := pyAt_nat.trans (mapGet (f := Row.v) hP0)
    have gi1 := (pyAt_nat (n := k + 1)).trans (mapGet (f := Row.v) hP1)
    (repeat first | walk_at "go" | refine ⟨len_ok rfl, ?_⟩)
    refine ⟨_, _, hx a _ ha, gi1, ?_⟩
    (repeat first | walk_at "go" | refine ⟨len_ok rfl, ?_⟩)
    refine ⟨_, _, hx a _ ha, gi0, ?_⟩
    have skip : I9 a m o P l b σ (k + 1) [some (.list a), some (.list m), some (.list o), some (.int (k : Nat)), some q.v, x5] σ' := .mk C _ _ _ hx hm' ho' F.skip
    (repeat first | walk_at "go" | refine ix_r0 ?_ | refine ⟨len_ok rfl, ?_⟩)
    refine boI_or (fun e => brkI (fun _ => ?_) (fun e2 => ff (e2.symm.trans e))) (fun e => ?_)
    · (repeat first | walk_at "go" | refine ⟨len_ok rfl, ?_⟩)
      exact skip
    obtain ⟨v, rfl⟩ := w17 (notF e)
    (repeat first | walk_at "go" | refine ix_r0 ?_ | refine ⟨len_ok rfl, ?_⟩)
    refine boI_or (fun e => brkI (fun _ => ?_) (fun e2 => ff (e2.symm.trans e))) (fun e => ?_)
    · (repeat first | walk_at "go" | refine ⟨len_ok rfl, ?_⟩)
      exact skip
    obtain ⟨j, t, rfl, hj⟩ := wBr (notF e)
    (repeat first | walk_at "go" | refine ⟨len_ok rfl, ?_⟩)
    refine ⟨_, .bool l[k + 1], hm', (pyAt_nat (n := k + 1)).trans (mapGet (List.getElem?_eq_getElem hlk)), ?_⟩
    refine brkI (fun e => ?_) (fun e => ?_)
    · (repeat first | walk_at "go" | refine ⟨len_ok rfl, ?_⟩)
      exact skip
    have hCq : C[k + 1]? = some (some (.jmp j t)) := (F.rest _ (Nat.lt_succ_self k)).trans (some_get hP1)
    have hl1 : k + 1 < C.length := get_lt hCq
    have F2 := F.turn hmk hP0 hP1 hj ((List.getElem?_eq_getElem hlk).trans (congrArg some e))
    unfold brC at F2
    (repeat first | walk_at "go" | refine ⟨len_ok rfl, ?_⟩)
    refine ⟨_, 2, by decide, ht, ?_⟩
    (repeat first | walk_at "go" | refine ix_r0 ?_ | refine ⟨len_ok rfl, ?_⟩)
    refine ⟨_, _, hx a _ ha, gi0, ?_⟩
    (repeat first | walk_at "go" | refine ⟨len_ok rfl, ?_⟩)
    refine ix_c1 (.mk j v hj ?_)
    cases hso : j.so v with
    | false =>
      rw [hso, if_neg Bool.false_ne_true] at F2
      (repeat first | walk_at "go" | refine ⟨len_ok rfl, ?_⟩)
      refine ⟨rfl, ?_⟩
      (repeat first | walk_at "go" | refine ⟨len_ok rfl, ?_⟩)
      refine ⟨_, ho', by lia, by rw [List.length_map]; exact hl1, ?_⟩
      (repeat first | walk_at "go" | refine ⟨len_ok rfl, ?_⟩)
      refine .t ?_
      (repeat first | walk_at "go" | refine ⟨len_ok rfl, ?_⟩)
      refine ⟨_, put_self _ _ _, by lia, by rw [List.length_set, List.length_map]; exact Nat.lt_of_succ_lt hl1, ?_⟩
      (repeat first | walk_at "go" | refine ⟨len_ok rfl, ?_⟩)
      exact .mk _ _ _ _ ((hx.put hno).put hno) ((put_ne hmo).trans ((put_ne hmo).trans hm')) ((put_self _ _ _).trans (congrArg some (set_set (x := none) (y := none)))) F2
    | true =>
      rw [hso, if_pos rfl] at F2
      (repeat first | walk_at "go" | refine ⟨len_ok rfl, ?_⟩)
      refine ⟨rfl, ?_⟩
      (repeat first | walk_at "go" | refine ix_j1 ?_ | refine ⟨len_ok rfl, ?_⟩)
      refine ⟨_, ho', by lia, by rw [List.length_map]; exact hl1, ?_⟩
      (repeat first | walk_at "go" | refine ix_r0 ?_ | refine ⟨len_ok rfl, ?_⟩)
      refine brkI (fun e => ?_) (fun e => ?_)
      · rw [if_pos ((pops_w hj).symm.trans e)] at F2
        (repeat first | walk_at "go" | refine ⟨len_ok rfl, ?_⟩)
        refine ⟨_, put_self _ _ _, by lia, by rw [List.length_set, List.length_map]; exact Nat.lt_of_succ_lt hl1, ?_⟩
        (repeat first | walk_at "go" | refine ⟨len_ok rfl, ?_⟩)
        exact .mk _ _ _ _ ((hx.put hno).put hno) ((put_ne hmo).trans ((put_ne hmo).trans hm')) ((put_self _ _ _).trans (congrArg some (set_set (x := some (.jmp .jump t)) (y := none)))) F2
      · rw [if_neg (by rw [(pops_w hj).symm.trans e]; exact Bool.false_ne_true)] at F2
        (repeat first | walk_at "go" | refine ⟨len_ok rfl, ?_⟩)
        exact .mk _ _ _ _ (hx.put hno) ((put_ne hmo).trans hm') ((put_self _ _ _).trans (congrArg some (map_set (f := orv) (x := some (.jmp .jump t))))) F2
  · induction hI with | @mk C x3 x4 x5 σ' hx hm' ho' F => ?_
    (repeat first | walk_at "go" | refine ⟨len_ok rfl, ?_⟩)
    refine ⟨_, 3, Nat.le_refl _, hs, .mk o C ho' (by rw [F.len]; lia) (F.tg g) fun r σ2 hx2 hrn hr2 => ?_⟩
    obtain ⟨g1, g2, g3⟩ := F.done g
    (repeat first | walk_at "go" | refine ⟨len_ok rfl, ?_⟩)
    exact hq r σ2 _ (hx.trans hx2) (hx.none hrn) hr2 g1 g2 g3
end Mine
namespace Mine
noncomputable def pushW (a : Nat) : Bool := 17 == a || (18 == a || (19 == a || 20 == a))
noncomputable def pairW (a b : Nat) : Bool := 22 == a && (22 == b && true) || (23 == a && (24 == b && true) || 25 == a && (26 == b && true))
theorem or_f {a : Bool} : false = (a && false || false) := by cases a <;> rfl
theorem or_t {a b : Bool} (h : b = a) : b = (a && true || false) := by subst h; cases b <;> rfl
theorem or_p {a b c : Bool} (h : b = c) : b = (a && false || c) := by subst h; cases a <;> rfl
theorem f_p {b c : Bool} (h : b = c) : b = (c && true || false) := by subst h; cases b <;> rfl
theorem idle_w (x y : Row) : idle x y = ((y.w == 21 && pushW x.w) || pairW x.w y.w) := by
  cases x with
  | const v => exact or_t (by cases y <;> first | rfl | (rename_i j t; cases j <;> rfl))
  | dup => exact or_t (by cases y <;> first | rfl | (rename_i j t; cases j <;> rfl))
  | swap => exact or_p (by cases y <;> first | rfl | (rename_i j t; cases j <;> rfl))
  | begin => exact or_p (by cases y <;> first | rfl | (rename_i j t; cases j <;> rfl))
  | enter => exact or_p (by cases y <;> first | rfl | (rename_i j t; cases j <;> rfl))
  | jmp j t => cases j <;> exact or_f
  | _ => exact or_f
theorem w27 {r : Row} (h : (r.w == 27) = true) : ∃ n, r = .line n := by
  cases r with
  | line v => exact ⟨v, rfl⟩
  | jmp j t => cases j <;> exact ff h
  | _ => exact ff h
theorem wrkI {B : RS} {P : Loc → Sto → Prop} {Q : KS} {ρ : Loc} {σ : Sto} {b : Bool} (ht : b = true → B ρ σ (lop P Q)) (hf : b = false → Q .next ρ σ) : wrk B P Q ρ (.bool b) σ := by
  cases b with
  | true => exact .t (ht rfl)
  | false => exact .f (hf rfl)
inductive S_idle (σ : Sto) (Q : V → Sto → Prop) (X : Sto → Prop) : List V → Prop
  | mk (x y : Row) (h : Q (.bool (idle x y)) σ) : S_idle σ Q X [x.v, y.v]
theorem f_is_idle {K : Ctx} (h : chkFn K.frag 287 p_is_idle n_is_idle m_is_idle = true) : FnOK K 1 (.ref 287) fun ds σ Q X => S_idle σ Q X ds := fnPure h fun ds σ Q X hS => by
  induction hS with | mk x y hq => ?_
  refine ⟨rfl, ?_⟩
  rw [idle_w] at hq
  (repeat first | walk_at "go" | refine ix_r0 ?_ | refine ⟨len_ok rfl, ?_⟩)
  refine boI_and (fun e => ?_) (fun e => brkI (fun e2 => ff (e.symm.trans e2)) fun _ => ?_)
  · (repeat first | walk_at "go" | refine ix_r0 ?_ | refine ⟨len_ok rfl, ?_⟩)
    refine brkI (fun e2 => ?_) (fun e2 => ?_)
    · (repeat first | walk_at "go" | refine ⟨len_ok rfl, ?_⟩)
      exact at_b (Bool.or_eq_true_iff.mpr (.inl (Bool.and_eq_true_iff.mpr ⟨e, e2⟩))) hq
    · (repeat first | walk_at "go" | refine ix_r0 ?_ | refine ⟨len_ok rfl, ?_⟩)
      exact at_b (b := _ || pairW x.w y.w) (by rw [show pushW x.w = false from e2, Bool.and_false, Bool.false_or]; rfl) hq
  · (repeat first | walk_at "go" | refine ix_r0 ?_ | refine ⟨len_ok rfl, ?_⟩)
    exact at_b (b := _ || pairW x.w y.w) (by rw [show (y.w == 21) = false from e, Bool.false_and, Bool.false_or]; rfl) hq
inductive I10 (a m o : Addr) (P : List Row) (l : List Bool) (b : Nat) (σ : Sto) (q : Nat) : Loc → Sto → Prop
  | mk (k : Nat) (C : Code) {σ' : Sto} (hq : q + k = P.length) (hx : Ext σ σ') (hm : σ' m = some (l.map V.bool)) (ho : σ' o = some (C.map orv)) (F : PrI b P k C) : I10 a m o P l b σ q [some (.list a), some (.list m), some (.list o), some (.int (k : Nat))] σ'
theorem ifsE {K : Ctx} {n : Nat} {X : Sto → Prop} {ρ : Loc} {σ : Sto} {Q : KS} {c : ME} {t e : MSs} (he : e.vc K n X ρ σ Q) (h : e.vc K n X ρ σ Q → (MS.ifs c t e).vc K n X ρ σ Q) : (MS.ifs c t e).vc K n X ρ σ Q := h he
theorem ssI {K : Ctx} {n : Nat} {X : Sto → Prop} {ρ : Loc} {σ : Sto} {Q : KS} {s : MS} {r : MSs} (h : s.vc K n X ρ σ (kont (r.vc K n X) Q)) : (MSs.cons s r).vc K n X ρ σ Q := h
inductive I10b (a m o : Addr) (P : List Row) (l : List Bool) (b : Nat) (σ : Sto) (k : Nat) : Loc → Sto → Prop
  | mk (k' : Nat) (C : Code) {σ' : Sto} (hk : k ≤ k') (hlt : k' + 1 ≤ P.length) (hx : Ext σ σ') (hm : σ' m = some (l.map V.bool)) (ho : σ' o = some (C.map orv)) (F : PrI b P (k' + 1) C) : I10b a m o P l b σ k [some (.list a), some (.list m), some (.list o), some (.int (k' : Nat))] σ'
theorem f_pair {K : Ctx} (hm : FnOK K 3 (.ref 242) fun ds σ Q X => S_marks σ Q X ds) (hs : FnOK K 3 (.ref 247) fun ds σ Q X => S_sq σ Q X ds) (hi : FnOK K 1 (.ref 287) fun ds σ Q X => S_idle σ Q X ds)
    (h : chkFn K.frag 294 p_pair_rows n_pair_rows m_pair_rows = true) : FnOK K 4 (.ref 294) fun ds σ Q X => S_passOf (fun a => [.list a]) 0 σ Q X ds := fnPure h fun ds σ Q X hS => by
  induction hS with | mk a P b ha g h7 h8 hq => ?_
  refine ⟨rfl, ?_⟩
  have hlen := g.len
  have hne := g.ne
  (repeat first | walk_at "go" | refine ⟨len_ok rfl, ?_⟩)
  refine ⟨_, 3, Nat.le_refl _, hm, .mk a P ha (by lia) g.tg fun m σ1 l hx1 hmn hml hll hmk => ?_⟩
  (repeat first | walk_at "go" | refine ⟨len_ok rfl, ?_⟩)
  refine ⟨_, hx1 a _ ha, fun o hon => ?_⟩
  have hno := hx1.none hon
  have x3 : Ext σ (put σ1 o (P.map Row.v)) := hx1.trans (Ext.new hon)
  have hmo : m ≠ o := Ext.ne hml hon
  (repeat first | walk_at "go" | refine ⟨len_ok rfl, ?_⟩)
  refine ⟨noX, I10 a m o P l b σ, ⟨P.length, .mk 0 _ rfl x3 ((put_ne hmo).trans hml) ((put_self _ _ _).trans (congrArg some (orv_some P).symm)) (PrI.start g)⟩, fun q ρ σ' hI => ?_⟩
  induction hI with | @mk k C σ' hqk hx hm' ho' F => ?_
  (repeat first | walk_at "go" | refine ⟨len_ok rfl, ?_⟩)
  refine ⟨_, hx a _ ha, ?_⟩
  rw [List.length_map]
  (repeat first | walk_at "go" | refine ⟨len_ok rfl, ?_⟩)
  rw [sub1 hne]
  refine wrkI (fun e => ?_) (fun e => ?_)
  · have hk1 : k + 1 < P.length := by have := of_decide_eq_true e; lia
    have hP0 : P[k]? = some (P[k]'(by lia)) := List.getElem?_eq_getElem _
    have hP1 : P[k + 1]? = some P[k + 1] := List.getElem?_eq_getElem hk1
    generalize P[k]'(by lia) = p at hP0
    generalize P[k + 1] = q at hP1
    have hlk : k + 1 < l.length := by lia
    have gi0 := pyAt_nat.trans (mapGet (f := Row.v) hP0)
    have gi1 := (pyAt_nat (n := k + 1)).trans (mapGet (f := Row.v) hP1)
    have hkC : k + 1 < C.length := by rw [F.len]; exact hk1
    refine cutS (I10b a m o P l b σ k) (fun ρ σ' hI => ?_) fun hc => ?_
    · induction hI with | mk k' C hk hlt hx hm ho F => ?_
      (repeat first | walk_at "go" | refine ⟨len_ok rfl, ?_⟩)
      exact ⟨P.length - (k' + 1), by lia, .mk (k' + 1) C (by lia) hx hm ho F⟩
    · have skip : I10b a m o P l b σ k [some (.list a), some (.list m), some (.list o), some (.int (k : Nat))] σ' := .mk k C (Nat.le_refl _) (Nat.le_of_lt hk1) hx hm' ho' F.skip
      refine ifsE ?_ fun hE => ?_
      · refine ssI (ifsE (.next (hc _ _ skip)) fun hE => ?_)
        (repeat first | walk_at "go" | refine ⟨len_ok rfl, ?_⟩)
        refine ⟨_, _, hx a _ ha, gi0, ?_⟩
        (repeat first | walk_at "go" | refine ix_r0 ?_ | refine ⟨len_ok rfl, ?_⟩)
        refine boI_and (fun e => ?_) (fun e => brkI (fun e2 => ff (e.symm.trans e2)) fun _ => hE)
        (repeat first | walk_at "go" | refine ⟨len_ok rfl, ?_⟩)
        refine ⟨_, _, hx a _ ha, gi1, ?_⟩
        (repeat first | walk_at "go" | refine ix_r0 ?_ | refine ⟨len_ok rfl, ?_⟩)
        refine brkI (fun e2 => ?_) fun _ => hE
        obtain ⟨x, rfl⟩ := w27 e
        obtain ⟨y, rfl⟩ := w27 e2
        (repeat first | walk_at "go" | refine ⟨len_ok rfl, ?_⟩)
        refine ⟨_, ho', by lia, by rw [List.length_map]; exact Nat.lt_of_succ_lt hkC, ?_⟩
        refine .next (.next (hc _ _ (.mk k _ (Nat.le_refl _) (Nat.le_of_lt hk1) (hx.put hno) ((put_ne hmo).trans hm') ((put_self _ _ _).trans (congrArg some (map_set (f := orv) (x := none)))) (F.line hP0 hP1))))
      · (repeat first | walk_at "go" | refine ⟨len_ok rfl, ?_⟩)
        refine ⟨_, 1, by decide, hi, ?_⟩
        (repeat first | walk_at "go" | refine ⟨len_ok rfl, ?_⟩)
        refine ⟨_, _, hx a _ ha, gi0, ?_⟩
        (repeat first | walk_at "go" | refine ⟨len_ok rfl, ?_⟩)
        refine ⟨_, _, hx a _ ha, gi1, .mk p q ?_⟩
        refine boI_and (fun e => ?_) (fun e => brkI (fun e2 => ff (e.symm.trans e2)) fun _ => hE)
        (repeat first | walk_at "go" | refine ⟨len_ok rfl, ?_⟩)
        refine ⟨_, .bool l[k + 1], hm', (pyAt_nat (n := k + 1)).trans (mapGet (List.getElem?_eq_getElem hlk)), ?_⟩
        refine brkI (fun e2 => ?_) fun _ => hE
        (repeat first | walk_at "go" | refine ⟨len_ok rfl, ?_⟩)
        refine ⟨_, ho', by lia, by rw [List.length_map]; exact Nat.lt_of_succ_lt hkC, ?_⟩
        (repeat first | walk_at "go" | refine ⟨len_ok rfl, ?_⟩)
        refine ⟨_, put_self _ _ _, by lia, by rw [List.length_set, List.length_map]; exact hkC, ?_⟩
        refine .next (.next (hc _ _ (.mk (k + 1) _ (Nat.le_succ _) hk1 ((hx.put hno).put hno) ((put_ne hmo).trans ((put_ne hmo).trans hm')) ((put_self _ _ _).trans (congrArg some (set_set (x := none) (y := none)))) (F.pair hmk e hP0 hP1 ((List.getElem?_eq_getElem hlk).trans (congrArg some (notT e2)))))))
  · (repeat first | walk_at "go" | refine ⟨len_ok rfl, ?_⟩)
    refine ⟨_, 3, Nat.le_refl _, hs, .mk o C ho' (by rw [F.len]; lia) (F.tg g) fun r σ2 hx2 hrn hr2 => ?_⟩
    obtain ⟨g1, g2, g3⟩ := F.done g
    (repeat first | walk_at "go" | refine ⟨len_ok rfl, ?_⟩)
    exact hq r σ2 _ (hx.trans hx2) (hx.none hrn) hr2 g1 g2 g3
end Mine
namespace Mine
noncomputable def J.of (n : Nat) : J := if n = 29 then .iff else if n = 30 then .ift else if n = 31 then .ifd else if n = 32 then .orj else if n = 33 then .andj else if n = 34 then .dorj else .jump
theorem J.of_w (j : J) : J.of j.w = j := by cases j <;> rfl
theorem wJ {r : Row} {j : J} (hj : j ≠ .jump) (h : (r.w == j.w) = true) : ∃ u, r = .jmp j u := by
  have h := eq_of_beq h
  obtain ⟨j2, u, rfl, _⟩ := wBr (r := r) (by rw [h]; cases j <;> first | rfl | exact absurd rfl hj)
  have h : j2.w = j.w := h
  obtain rfl : j2 = j := by rw [← J.of_w j2, ← J.of_w j, h]
  exact ⟨u, rfl⟩
theorem w28 {r : Row} (h : (r.w == 28) = true) : ∃ t, r = .jmp .jump t := by
  cases r with
  | jmp j t => exact ⟨t, by obtain rfl : j = .jump := (J.of_w j).symm.trans (congrArg J.of (eq_of_beq h : j.w = 28)); rfl⟩
  | _ => exact ff h
theorem wBr' {j : J} (h : j ≠ .jump) : (29 == j.w || (30 == j.w || (31 == j.w || (32 == j.w || (33 == j.w || 34 == j.w))))) = true := by cases j <;> first | rfl | exact absurd rfl h
theorem flip_or {a b c : Nat} (h : (a == c || b == c) = true) : (c == a) = true ∨ (c == b) = true :=
  (Bool.or_eq_true_iff.mp h).imp (fun e => beq_iff_eq.mpr (eq_of_beq e).symm) fun e => beq_iff_eq.mpr (eq_of_beq e).symm
theorem leF {n u : Nat} {P : Prop} (h : u < n) (e : decide ((n : Int) ≤ (u : Int)) = true) : P := absurd h (Nat.not_lt.mpr (Int.ofNat_le.mp (of_decide_eq_true e)))
inductive S_land (σ : Sto) (Q : V → Sto → Prop) (X : Sto → Prop) : List V → Prop
  | mk (a : Addr) (P : List Row) (t : Nat) (ha : σ a = some (P.map Row.v)) (hlen : P.length ≤ 900) (htg : ∀ (i : Nat) (j : J) (u : Nat), P[i]? = some (.jmp j u) → u < P.length) (ht : t < P.length) (h : ∀ u : Nat, JChain P t u → Q (.int (u : Nat)) σ) : S_land σ Q X [.list a, .int (t : Nat)]
inductive I11 (a : Addr) (P : List Row) (t : Nat) (σ : Sto) : Loc → Sto → Prop
  | mk (u : Nat) (x3 : Option V) (hc : JChain P t u) (hu : u < P.length) : I11 a P t σ [some (.list a), some (.int (t : Nat)), some (.int (u : Nat)), x3] σ
theorem f_landing {K : Ctx} (h : chkFn K.frag 301 p_landing_row n_landing_row m_landing_row = true) : FnOK K 1 (.ref 301) fun ds σ Q X => S_land σ Q X ds := fnPure h fun ds σ Q X hS => by
  induction hS with | mk a P t ha hlen htg ht hq => ?_
  refine ⟨rfl, ?_⟩
  have e0 : ((P.map Row.v).length : Int) = (P.length : Nat) := by rw [List.length_map]
  (repeat first | walk_at "go" | refine ⟨rfl, ?_⟩ | refine ⟨len_ok rfl, ?_⟩)
  refine ⟨_, ha, ?_⟩
  (repeat first | walk_at "go" | refine ⟨rfl, ?_⟩ | refine ⟨len_ok rfl, ?_⟩)
  refine ⟨by rw [e0]; exact big_n (LBle (by lia)), ?_⟩
  (repeat first | walk_at "go" | refine ⟨rfl, ?_⟩ | refine ⟨len_ok rfl, ?_⟩)
  refine for_rng (fun _ => I11 a P t σ) e0 noX (LBle (by lia)) (.mk t _ (.here t) ht) (fun k ρ σ' hkl hI => ?_) (fun ρ σ' hI => ?_)
  · induction hI with | @mk u x3 hc hu => ?_
    have hPu : P[u]? = some P[u] := List.getElem?_eq_getElem hu
    generalize P[u] = q at hPu
    have gi := pyAt_nat.trans (mapGet (f := Row.v) hPu)
    (repeat first | walk_at "go" | refine ⟨rfl, ?_⟩ | refine ⟨len_ok rfl, ?_⟩)
    refine ⟨_, ha, ?_⟩
    rw [e0]
    (repeat first | walk_at "go" | refine ⟨rfl, ?_⟩ | refine ⟨len_ok rfl, ?_⟩)
    refine boI_or (fun e => brkI (leF hu) (fun e2 => ff (e2.symm.trans e))) (fun _ => ?_)
    (repeat first | walk_at "go" | refine ⟨rfl, ?_⟩ | refine ⟨len_ok rfl, ?_⟩)
    refine ⟨_, _, ha, gi, ?_⟩
    (repeat first | walk_at "go" | refine ix_r0 ?_ | refine ⟨rfl, ?_⟩ | refine ⟨len_ok rfl, ?_⟩)
    refine brkI (fun e => ?_) (fun e => ?_)
    · (repeat first | walk_at "go" | refine ⟨rfl, ?_⟩ | refine ⟨len_ok rfl, ?_⟩)
      exact hq u hc
    · obtain ⟨v, rfl⟩ := w28 (notF e)
      (repeat first | walk_at "go" | refine ⟨rfl, ?_⟩ | refine ⟨len_ok rfl, ?_⟩)
      refine ⟨_, _, ha, gi, ?_⟩
      (repeat first | walk_at "go" | refine ix_j1 ?_ | refine ⟨rfl, ?_⟩ | refine ⟨len_ok rfl, ?_⟩)
      exact .mk v _ (hc.snoc hPu) (htg _ _ _ hPu)
  · induction hI with | @mk u x3 hc hu => ?_
    (repeat first | walk_at "go" | refine ⟨rfl, ?_⟩ | refine ⟨len_ok rfl, ?_⟩)
    exact hq t (.here t)
inductive S_chained (σ : Sto) (Q : V → Sto → Prop) (X : Sto → Prop) : List V → Prop
  | mk (a : Addr) (P : List Row) (j : J) (t : Nat) (ha : σ a = some (P.map Row.v)) (hlen : P.length ≤ 900) (ht : t < P.length) (hj : j = .orj ∨ j = .andj ∨ j = .dorj) (h : ∀ j2 t2, ChRel P j t j2 t2 → Q (Row.jmp j2 t2).v σ) : S_chained σ Q X [(Row.jmp j t).v, .list a]
inductive I11b (a : Addr) (j : J) (t : Nat) (q : Row) (σ : Sto) : Loc → Sto → Prop
  | mk (th : V) (x5 x6 x7 : Option V) (h : ∀ j' u, q = .jmp j' u → j' ≠ .jump → th = .int (u : Nat)) : I11b a j t q σ [some (Row.jmp j t).v, some (.list a), some (.int (t : Nat)), some (.str q.w), some th, x5, x6, x7] σ
theorem f_chained {K : Ctx} (h : chkFn K.frag 308 p_chained n_chained m_chained = true) : FnOK K 1 (.ref 308) fun ds σ Q X => S_chained σ Q X ds := fnPure h fun ds σ Q X hS => by
  induction hS with | mk a P j t ha hlen ht hj hq => ?_
  refine ⟨rfl, ?_⟩
  have hPt : P[t]? = some P[t] := List.getElem?_eq_getElem ht
  generalize P[t] = q at hPt
  have gi := pyAt_nat.trans (mapGet (f := Row.v) hPt)
  have same := hq j t (.same j t)
  (repeat first | walk_at "go" | refine ix_j1 ?_ | refine ⟨rfl, ?_⟩ | refine ⟨len_ok rfl, ?_⟩)
  refine ⟨_, ha, ?_⟩
  rw [List.length_map]
  (repeat first | walk_at "go" | refine ⟨rfl, ?_⟩ | refine ⟨len_ok rfl, ?_⟩)
  refine brkI (leF ht) fun _ => ?_
  (repeat first | walk_at "go" | refine ⟨rfl, ?_⟩ | refine ⟨len_ok rfl, ?_⟩)
  refine ⟨_, _, ha, gi, ?_⟩
  refine oB (ix_r0 (.next ?_))
  refine cutS (I11b a j t q σ) (fun ρ σ' hI => ?_) fun hc => ?_
  · induction hI with | @mk th x5 x6 x7 hth => ?_
    rcases hj with rfl | rfl | rfl
    · (repeat first | walk_at "go" | refine ix_r0 ?_ | refine ⟨rfl, ?_⟩ | refine ⟨len_ok rfl, ?_⟩)
      refine .f ?_
      (repeat first | walk_at "go" | refine ix_r0 ?_ | refine ⟨rfl, ?_⟩ | refine ⟨len_ok rfl, ?_⟩)
      refine .f ?_
      (repeat first | walk_at "go" | refine ⟨rfl, ?_⟩ | refine ⟨len_ok rfl, ?_⟩)
      refine brkI (fun e => ?_) fun _ => ?_
      · obtain ⟨u, rfl⟩ := wJ (j := .orj) nofun e
        obtain rfl := hth _ _ rfl nofun
        (repeat first | walk_at "go" | refine ⟨rfl, ?_⟩ | refine ⟨len_ok rfl, ?_⟩)
        exact hq _ _ (.oo hPt)
      (repeat first | walk_at "go" | refine ⟨rfl, ?_⟩ | refine ⟨len_ok rfl, ?_⟩)
      refine brkI (fun e => ?_) fun _ => ?_
      · obtain ⟨u, rfl⟩ := wJ (j := .ift) nofun e
        obtain rfl := hth _ _ rfl nofun
        (repeat first | walk_at "go" | refine ⟨rfl, ?_⟩ | refine ⟨len_ok rfl, ?_⟩)
        exact hq _ _ (.ot hPt)
      (repeat first | walk_at "go" | refine ⟨rfl, ?_⟩ | refine ⟨len_ok rfl, ?_⟩)
      refine ifI (fun e => ?_) fun _ => ?_
      · (repeat first | walk_at "go" | refine ⟨rfl, ?_⟩ | refine ⟨len_ok rfl, ?_⟩)
        rcases flip_or e with e | e
        · obtain ⟨u, rfl⟩ := wJ (j := .andj) nofun e
          exact hq _ _ (.oa (.inl hPt))
        · obtain ⟨u, rfl⟩ := wJ (j := .iff) nofun e
          exact hq _ _ (.oa (.inr hPt))
      · (repeat first | walk_at "go" | refine ⟨rfl, ?_⟩ | refine ⟨len_ok rfl, ?_⟩)
        exact same
    · (repeat first | walk_at "go" | refine ix_r0 ?_ | refine ⟨rfl, ?_⟩ | refine ⟨len_ok rfl, ?_⟩)
      refine .f ?_
      (repeat first | walk_at "go" | refine ix_r0 ?_ | refine ⟨rfl, ?_⟩ | refine ⟨len_ok rfl, ?_⟩)
      refine .t ?_
      (repeat first | walk_at "go" | refine ⟨rfl, ?_⟩ | refine ⟨len_ok rfl, ?_⟩)
      refine brkI (fun e => ?_) fun _ => ?_
      · obtain ⟨u, rfl⟩ := wJ (j := .andj) nofun e
        obtain rfl := hth _ _ rfl nofun
        (repeat first | walk_at "go" | refine ⟨rfl, ?_⟩ | refine ⟨len_ok rfl, ?_⟩)
        exact hq _ _ (.aa hPt)
      (repeat first | walk_at "go" | refine ⟨rfl, ?_⟩ | refine ⟨len_ok rfl, ?_⟩)
      refine brkI (fun e => ?_) fun _ => ?_
      · obtain ⟨u, rfl⟩ := wJ (j := .iff) nofun e
        obtain rfl := hth _ _ rfl nofun
        (repeat first | walk_at "go" | refine ⟨rfl, ?_⟩ | refine ⟨len_ok rfl, ?_⟩)
        exact hq _ _ (.af hPt)
      (repeat first | walk_at "go" | refine ⟨rfl, ?_⟩ | refine ⟨len_ok rfl, ?_⟩)
      refine ifI (fun e => ?_) fun _ => ?_
      · (repeat first | walk_at "go" | refine ⟨rfl, ?_⟩ | refine ⟨len_ok rfl, ?_⟩)
        rcases flip_or e with e | e
        · obtain ⟨u, rfl⟩ := wJ (j := .orj) nofun e
          exact hq _ _ (.ao (.inl hPt))
        · obtain ⟨u, rfl⟩ := wJ (j := .ift) nofun e
          exact hq _ _ (.ao (.inr hPt))
      · (repeat first | walk_at "go" | refine ⟨rfl, ?_⟩ | refine ⟨len_ok rfl, ?_⟩)
        exact same
    · (repeat first | walk_at "go" | refine ix_r0 ?_ | refine ⟨rfl, ?_⟩ | refine ⟨len_ok rfl, ?_⟩)
      refine .t ?_
      (repeat first | walk_at "go" | refine ⟨rfl, ?_⟩ | refine ⟨len_ok rfl, ?_⟩)
      refine brkI (fun e => ?_) fun _ => ?_
      · obtain ⟨u, rfl⟩ := wJ (j := .dorj) nofun e
        obtain rfl := hth _ _ rfl nofun
        (repeat first | walk_at "go" | refine ⟨rfl, ?_⟩ | refine ⟨len_ok rfl, ?_⟩)
        exact hq _ _ (.dd hPt)
      (repeat first | walk_at "go" | refine ⟨rfl, ?_⟩ | refine ⟨len_ok rfl, ?_⟩)
      refine ifI (fun e => ?_) fun _ => ?_
      · obtain ⟨u, rfl⟩ := wJ (j := .ifd) nofun e
        obtain rfl := hth _ _ rfl nofun
        (repeat first | walk_at "go" | refine ⟨rfl, ?_⟩ | refine ⟨len_ok rfl, ?_⟩)
        exact hq _ _ (.di hPt)
      · (repeat first | walk_at "go" | refine ⟨rfl, ?_⟩ | refine ⟨len_ok rfl, ?_⟩)
        exact same
  · (repeat first | walk_at "go" | refine ⟨rfl, ?_⟩ | refine ⟨len_ok rfl, ?_⟩)
    refine ifI (fun e => ?_) fun e => ?_
    · obtain ⟨j', u, rfl, hj'⟩ := wBr e
      (repeat first | walk_at "go" | refine ⟨rfl, ?_⟩ | refine ⟨len_ok rfl, ?_⟩)
      refine ⟨_, _, ha, gi, ?_⟩
      refine oB (ix_j1 (hc _ _ (.mk _ _ _ _ fun j2 u2 e _ => ?_)))
      obtain ⟨_, rfl⟩ := Row.jmp.inj e
      rfl
    · refine hc _ _ (.mk _ _ _ _ fun j2 u2 e2 h2 => ?_)
      subst e2
      exact ff (e.symm.trans (wBr' h2))
end Mine
namespace Mine
theorem w32 {r : Row} (h : (32 == r.w || (33 == r.w || 34 == r.w)) = true) : ∃ j t, r = .jmp j t ∧ (j = .orj ∨ j = .andj ∨ j = .dorj) := by
  obtain ⟨j, t, rfl, hj⟩ := wBr (r := r) (by rw [show (32 == r.w || (33 == r.w || 34 == r.w)) = true from h, Bool.or_true, Bool.or_true, Bool.or_true])
  refine ⟨j, t, rfl, ?_⟩
  cases j with
  | orj => exact .inl rfl
  | andj => exact .inr (.inl rfl)
  | dorj => exact .inr (.inr rfl)
  | _ => exact ff h
theorem w29 {r : Row} (h : (29 == r.w || (30 == r.w || 31 == r.w)) = true) : ∃ j t, r = .jmp j t ∧ j.pops = true := by
  cases r with
  | jmp j t => exact ⟨j, t, rfl, by cases j <;> first | rfl | exact ff h⟩
  | _ => exact ff h
theorem eqN {a b : Nat} (h : ((a : Int) == (b : Int)) = true) : a = b := Int.ofNat.inj (eq_of_beq h)
theorem neN {a b : Nat} (h : ((a : Int) == (b : Int)) = false) : a ≠ b := fun z => by subst z; exact ff (h.symm.trans (beq_self_eq_true _))
theorem ifsH {K : Ctx} {n : Nat} {X : Sto → Prop} {ρ : Loc} {σ : Sto} {Q : KS} {c : ME} {t e : MSs} (H : Prop) (he : H → e.vc K n X ρ σ Q) (h : (H → e.vc K n X ρ σ Q) → (MS.ifs c t e).vc K n X ρ σ Q) : (MS.ifs c t e).vc K n X ρ σ Q := h he
/-- with its goal brought forward -/
inductive Thr0 (P : List Row) (r : Row) : Row → Prop
  | nj (h : ∀ j t, r ≠ .jmp j t) : Thr0 P r r
  | j {j : J} {t u : Nat} (h : r = .jmp j t) (hc : JChain P t u) : Thr0 P r (.jmp j u)
inductive Thr1 (P : List Row) (r : Row) : Row → Prop
  | nj (h : ∀ j t, r ≠ .jmp j t) : Thr1 P r r
  | ju {t u : Nat} (h : r = .jmp .jump t) (hc : JChain P t u) : Thr1 P r (.jmp .jump u)
  | br {j j2 : J} {t t1 t2 : Nat} (h : r = .jmp j t) (hj : j ≠ .jump) (hc : JChain P t t1) (hr : ChRel P j t1 j2 t2) : Thr1 P r (.jmp j2 t2)
theorem Thr0.up {P : List Row} {r q : Row} (h : Thr0 P r q) : Thr1 P r q := by
  induction h with
  | nj h => exact .nj h
  | @j j t u h hc => exact if e : j = .jump then by subst e; exact .ju h hc else .br h e hc (.same j u)
theorem Thr1.fin {P : List Row} {k : Nat} {r q : Row} (h : Thr1 P r q) (hn : ∀ u, q = .jmp .jump u → u ≠ k + 1) : ThrRel P k r (some q) := by
  induction h with
  | nj h => exact .same h
  | ju h hc => subst h; exact .jump hc (hn _ rfl)
  | br h hj hc hr => subst h; exact .br hj hc hr
theorem Thr1.gone {P : List Row} {k : Nat} {r : Row} (h : Thr1 P r (.jmp .jump (k + 1))) : ThrRel P k r none := by
  generalize hq : Row.jmp .jump (k + 1) = q at h
  induction h with
  | nj h => exact absurd hq.symm (h _ _)
  | ju h hc => obtain ⟨_, rfl⟩ := Row.jmp.inj hq; subst h; exact .gone hc
  | br h hj hc hr => obtain ⟨rfl, _⟩ := Row.jmp.inj hq; exact absurd rfl (hr.jump hj)
theorem Thr1.drop {P : List Row} {k : Nat} {r : Row} {j : J} (hp : j.pops = true) (h : Thr1 P r (.jmp j (k + 1))) : ThrRel P k r (some .drop) := by
  generalize hq : Row.jmp j (k + 1) = q at h
  induction h with
  | nj h => exact absurd hq.symm (h _ _)
  | ju h hc => obtain ⟨rfl, _⟩ := Row.jmp.inj hq; exact ff hp
  | br h hj hc hr => obtain ⟨rfl, rfl⟩ := Row.jmp.inj hq; subst h; exact .dropped hj hc hr hp
inductive I12 (a o : Addr) (P : List Row) (σ : Sto) (k : Nat) : Loc → Sto → Prop
  | mk (x2 x3 x4 : Option V) (C : Code) {σ' : Sto} (hx : Ext σ σ') (ho : σ' o = some (C.map orv)) (hC : C.length = k) (h : ∀ i r, P[i]? = some r → i < k → ∃ o', C[i]? = some o' ∧ ThrRel P i r o') : I12 a o P σ k [some (.list a), some (.list o), x2, x3, x4] σ'
inductive I12b (a o : Addr) (P : List Row) (σ : Sto) (k : Nat) (R : V → Prop) : Loc → Sto → Prop
  | mk (v : V) (x4 : Option V) {σ' : Sto} (hv : R v) (hx : Ext σ σ') : I12b a o P σ k R [some (.list a), some (.list o), some (.int (k : Nat)), some v, x4] σ'
inductive I12c (c : Addr) (P : List Row) (r : Row) (σ : Sto) (k : Nat) (σ' : Sto) : Prop
  | mk (l : List V) (hx : Ext σ σ') (hc : σ' c = some l) (h0 : k = 0 → l = []) (h1 : 1 ≤ k → ∀ j t, r = .jmp j t → ∃ u : Nat, l = [.int (u : Nat)] ∧ JChain P t u)
theorem f_thread {K : Ctx} (hj : FnOK K 2 (.ref 215) fun ds σ Q X => S_jumps σ Q X ds) (hw : FnOK K 2 (.ref 222) fun ds σ Q X => S_with σ Q X ds) (hl : FnOK K 1 (.ref 301) fun ds σ Q X => S_land σ Q X ds) (hch : FnOK K 1 (.ref 308) fun ds σ Q X => S_chained σ Q X ds) (hs : FnOK K 3 (.ref 247) fun ds σ Q X => S_sq σ Q X ds)
    (h : chkFn K.frag 313 p_thread_rows n_thread_rows m_thread_rows = true) : FnOK K 4 (.ref 313) fun ds σ Q X => S_passOf (fun a => [.list a]) 0 σ Q X ds := fnPure h fun ds σ Q X hS => by
  induction hS with | mk a P b ha g h7 h8 hq => ?_
  refine ⟨rfl, ?_⟩
  have hlen := g.len
  have e0 : ((P.map Row.v).length : Int) = (P.length : Nat) := by rw [List.length_map]
  (repeat first | walk_at "go" | refine ⟨rfl, ?_⟩ | refine ⟨len_ok rfl, ?_⟩)
  refine fun o hon => ?_
  have x1 : Ext σ (put σ o []) := Ext.new hon
  (repeat first | walk_at "go" | refine ⟨rfl, ?_⟩ | refine ⟨len_ok rfl, ?_⟩)
  refine ⟨_, x1 a _ ha, ?_⟩
  (repeat first | walk_at "go" | refine ⟨rfl, ?_⟩ | refine ⟨len_ok rfl, ?_⟩)
  refine ⟨by rw [e0]; exact big_n (LBle (by lia)), ?_⟩
  (repeat first | walk_at "go" | refine ⟨rfl, ?_⟩ | refine ⟨len_ok rfl, ?_⟩)
  refine for_rng (I12 a o P σ) e0 noX (LBle (by lia)) (.mk _ _ _ [] x1 (put_self _ _ _) rfl nofun) (fun k ρ σ' hkl hI => ?_) (fun ρ σ' hI => ?_)
  · induction hI with | @mk x2 x3 x4 C σ' hx ho hC hth => ?_
    have hPk : P[k]? = some P[k] := List.getElem?_eq_getElem hkl
    generalize P[k] = r at hPk
    have gi := pyAt_nat.trans (mapGet (f := Row.v) hPk)
    refine cutS (I12b a o P σ' k fun v => ∃ q, v = q.v ∧ Thr0 P r q) (fun ρ σ2 hI => ?_) fun hc => ?_
    · induction hI with | @mk v x4 σ2 hv hx2 => ?_
      obtain ⟨q, rfl, hq0⟩ := hv
      refine cutS (I12b a o P σ' k fun v => ∃ q, v = q.v ∧ Thr1 P r q) (fun ρ σ3 hI => ?_) fun hc => ?_
      · induction hI with | @mk v x4 σ3 hv hx3 => ?_
        obtain ⟨q, rfl, hq1⟩ := hv
        refine cutS (I12b a o P σ' k fun v => ∃ o', v = orv o' ∧ ThrRel P k r o') (fun ρ σ4 hI => ?_) fun hc => ?_
        · induction hI with | @mk v x4 σ4 hv hx4 => ?_
          obtain ⟨o', rfl, ht⟩ := hv
          (repeat first | walk_at "go" | refine ⟨rfl, ?_⟩ | refine ⟨len_ok rfl, ?_⟩)
          refine ⟨by rw [hx4 _ _ ho]; exact nofun, ?_⟩
          (repeat first | walk_at "go" | refine ⟨rfl, ?_⟩ | refine ⟨len_ok rfl, ?_⟩)
          refine ⟨_, hx4 _ _ ho, by rw [List.length_map, hC]; exact LBle (by lia), ?_⟩
          (repeat first | walk_at "go" | refine ⟨rfl, ?_⟩ | refine ⟨len_ok rfl, ?_⟩)
          refine .mk _ _ _ (C ++ [o']) ((hx.trans hx4).put hon) ((put_self _ _ _).trans (congrArg some (List.map_append (f := orv) (l₁ := C) (l₂ := [o'])).symm)) (by rw [List.length_append, hC]; rfl) fun i r' hi hik => ?_
          rcases Nat.lt_or_eq_of_le (Nat.le_of_lt_succ hik) with h1 | rfl
          · obtain ⟨o2, e2, t2⟩ := hth i r' hi h1
            exact ⟨o2, by rw [List.getElem?_append_left (by rw [hC]; exact h1)]; exact e2, t2⟩
          · obtain rfl := Option.some.inj (hPk.symm.trans hi)
            exact ⟨o', by rw [List.getElem?_append_right (by rw [hC]; exact Nat.le_refl _), hC, Nat.sub_self]; rfl, ht⟩
        · refine ifsH (∀ u, q = .jmp .jump u → u ≠ k + 1) (fun hn => ?_) fun hE => ?_
          · have stay := hc _ _ (.mk q.v x4 ⟨some q, rfl, hq1.fin hn⟩ hx3)
            refine ssI (ifsE (.next stay) fun hE => ?_)
            (repeat first | walk_at "go" | refine ix_r0 ?_ | refine ⟨rfl, ?_⟩ | refine ⟨len_ok rfl, ?_⟩)
            refine boI_and (fun e => ?_) (fun e => brkI (fun e2 => ff (e.symm.trans e2)) fun _ => hE)
            obtain ⟨j, t, rfl, hp⟩ := w29 e
            (repeat first | walk_at "go" | refine ix_j1 ?_ | refine ⟨rfl, ?_⟩ | refine ⟨len_ok rfl, ?_⟩)
            refine brkI (fun e2 => ?_) fun _ => hE
            obtain rfl := eqN (b := k + 1) e2
            exact ⟨len_ok rfl, .next (.next (hc _ _ (.mk _ x4 ⟨some .drop, rfl, hq1.drop hp⟩ hx3)))⟩
          · (repeat first | walk_at "go" | refine ix_r0 ?_ | refine ⟨rfl, ?_⟩ | refine ⟨len_ok rfl, ?_⟩)
            refine boI_and (fun e => ?_) (fun e => brkI (fun e2 => ff (e.symm.trans e2)) fun _ => hE fun u z => ?_)
            · obtain ⟨u, rfl⟩ := w28 e
              (repeat first | walk_at "go" | refine ix_j1 ?_ | refine ⟨rfl, ?_⟩ | refine ⟨len_ok rfl, ?_⟩)
              refine brkI (fun e2 => ?_) fun e2 => hE fun u' z => ?_
              · obtain rfl := eqN (b := k + 1) e2
                exact .next (hc _ _ (.mk _ x4 ⟨none, rfl, hq1.gone⟩ hx3))
              · obtain ⟨_, rfl⟩ := Row.jmp.inj z
                exact neN (b := k + 1) e2
            · subst z
              exact ff e.symm
      · (repeat first | walk_at "go" | refine ix_r0 ?_ | refine ⟨rfl, ?_⟩ | refine ⟨len_ok rfl, ?_⟩)
        refine brkI (fun e => ?_) fun _ => hc _ _ (.mk q.v x4 ⟨q, rfl, hq0.up⟩ hx2)
        obtain ⟨j, u, rfl, hj3⟩ := w32 e
        obtain ⟨t, hrt, hcu⟩ : ∃ t, r = .jmp j t ∧ JChain P t u := by
          generalize hq : Row.jmp j u = q at hq0
          induction hq0 with
          | nj h => exact absurd hq.symm (h _ _)
          | j h hc => obtain ⟨rfl, rfl⟩ := Row.jmp.inj hq; exact ⟨_, h, hc⟩
        have hjj : j ≠ .jump := by rcases hj3 with rfl | rfl | rfl <;> nofun
        (repeat first | walk_at "go" | refine ⟨rfl, ?_⟩ | refine ⟨len_ok rfl, ?_⟩)
        refine ⟨_, 1, by decide, hch, .mk a P j u (hx2 _ _ (hx _ _ ha)) (by lia) (hcu.lt g (g.tg k _ t (hrt ▸ hPk))) hj3 fun j2 t2 hr => ?_⟩
        exact .next (hc _ _ (.mk _ x4 ⟨_, rfl, .br hrt hjj hcu hr⟩ hx2))
    · (repeat first | walk_at "go" | refine ⟨rfl, ?_⟩ | refine ⟨len_ok rfl, ?_⟩)
      refine ⟨_, 2, by decide, hw, ?_⟩
      (repeat first | walk_at "go" | refine ⟨rfl, ?_⟩ | refine ⟨len_ok rfl, ?_⟩)
      refine ⟨_, _, hx a _ ha, gi, ?_⟩
      (repeat first | walk_at "go" | refine ⟨rfl, ?_⟩ | refine ⟨len_ok rfl, ?_⟩)
      refine ⟨_, 2, by decide, hj, ?_⟩
      (repeat first | walk_at "go" | refine ⟨rfl, ?_⟩ | refine ⟨len_ok rfl, ?_⟩)
      refine ⟨_, _, hx a _ ha, gi, .mk r fun cc hcc => ?_⟩
      have x2 : Ext σ' (put σ' cc r.tg) := Ext.new hcc
      (repeat first | walk_at "go" | refine ⟨rfl, ?_⟩ | refine ⟨len_ok rfl, ?_⟩)
      refine comp_list (fun c2 => I12c c2 P r (put σ' cc r.tg)) (put_self _ _ _) noX (Nat.le_trans (tg_le r) (by decide)) (fun c2 hc2 => .mk [] (Ext.new hc2) (put_self _ _ _) (fun _ => rfl) nofun) (fun c2 hc2 kk σ3 hI => by obtain ⟨l, hx⟩ := hI; exact hx cc _ (put_self _ _ _)) (fun c2 hc2 kk d σ3 hkk hI => ?_) (fun c2 hc2 σ3 hI => ?_)
      · obtain ⟨l, hx4, hl', hl0, _⟩ := hI
        obtain ⟨rfl, j, t, hrj, rfl⟩ := tg_get hkk
        obtain rfl := hl0 rfl
        (repeat first | walk_at "go" | refine ⟨rfl, ?_⟩ | refine ⟨len_ok rfl, ?_⟩)
        refine ⟨_, 1, by decide, hl, .mk a P t (hx4 a _ (x2 a _ (hx a _ ha))) (by lia) g.tg (g.tg k j t (hrj ▸ hPk)) fun u hu => ?_⟩
        refine ⟨_, hl', by decide, .mk _ (hx4.put hc2) (put_self _ _ _) nofun fun _ j' t' e' => ?_⟩
        obtain ⟨_, rfl⟩ := Row.jmp.inj (hrj.symm.trans e')
        exact ⟨u, rfl, hu⟩
      · obtain ⟨l, hx4, hl', hl0, hl1⟩ := hI
        obtain ⟨u, hu, h2⟩ : ∃ u : Nat, (∀ j t, r = .jmp j t → l = [.int (u : Nat)]) ∧ Thr0 P r (r.to u) := by
          cases hJ : r.isJ with
          | true =>
            obtain ⟨j, t, rfl⟩ := isJ_t hJ
            obtain ⟨u, e, hc⟩ := hl1 (Nat.le_refl _) j t rfl
            exact ⟨u, fun _ _ _ => e, .j rfl hc⟩
          | false =>
            have nj : ∀ j t, r ≠ .jmp j t := fun j t z => by subst z; exact ff hJ.symm
            exact ⟨0, fun j t z => absurd z (nj j t), ((isJ_f hJ).2 0).symm ▸ (.nj nj : Thr0 P r r)⟩
        exact .mk r u c2 l hl' hu fun σ4 hx5 => hc _ _ (.mk _ x4 ⟨_, rfl, h2⟩ ((x2.trans hx4).trans hx5))
  · induction hI with | @mk x2 x3 x4 C σ' hx ho hC hth => ?_
    obtain ⟨t1, g1, g2, g3⟩ := thread_done g hC fun i r e => hth i r e (get_lt e)
    (repeat first | walk_at "go" | refine ⟨rfl, ?_⟩ | refine ⟨len_ok rfl, ?_⟩)
    refine ⟨_, 3, Nat.le_refl _, hs, .mk o C ho (by lia) t1 fun r σ2 hx2 hrn hr2 => ?_⟩
    (repeat first | walk_at "go" | refine ⟨rfl, ?_⟩ | refine ⟨len_ok rfl, ?_⟩)
    exact hq r σ2 _ (hx.trans hx2) (hx.none hrn) hr2 g1 g2 g3
end Mine
namespace Mine
theorem goes_eq (r : Row) : r.goes = goesOn r := by
  cases r with
  | jmp j t => cases j <;> rfl
  | _ => rfl
/-- what is still to be looked at -/
noncomputable def Todo (P : List Row) (m : List Bool) (L : List Nat) (x : Nat) : Prop := m[x]? = some true ∨ x ∈ L
structure RI (P : List Row) (m : List Bool) (L : List Nat) : Prop where
  len : m.length = P.length
  lim : ∀ x ∈ L, x < P.length
  start : Todo P m L 0
  go : ∀ i r, P[i]? = some r → m[i]? = some true → goesOn r = true → Todo P m L (i + 1)
  jmp : ∀ (i : Nat) (j : J) (t : Nat), P[i]? = some (.jmp j t) → m[i]? = some true → Todo P m L t
noncomputable def RI.cnt (m : List Bool) : Nat := (m.filter fun b => !b).length
theorem cnt_set {m : List Bool} {i : Nat} (h : m[i]? = some false) : RI.cnt (m.set i true) + 1 = RI.cnt m := by
  unfold RI.cnt
  induction m generalizing i with
  | nil => simp at h
  | cons b m ih =>
    cases i with
    | zero => simp at h; subst h; simp
    | succ i =>
      have := ih (i := i) (by simpa using h)
      cases b <;> simp [List.set_cons_succ, List.filter_cons] <;> lia
theorem RI.seen {P : List Row} {m : List Bool} {L : List Nat} {x : Nat} (h : RI P m (L ++ [x])) (hm : m[x]? = some true) : RI P m L := by
  have td : ∀ y, Todo P m (L ++ [x]) y → Todo P m L y := fun y z => by
    rcases z with z | z
    · exact .inl z
    · rcases List.mem_append.mp z with z | z
      · exact .inr z
      · simp at z; subst z; exact .inl hm
  exact ⟨h.len, fun y z => h.lim y (List.mem_append_left _ z), td _ h.start, fun i r e e2 g => td _ (h.go i r e e2 g), fun i j t e e2 => td _ (h.jmp i j t e e2)⟩
noncomputable def tgN : Row → List Nat
  | .jmp _ t => [t]
  | _ => []
noncomputable def nx (r : Row) (x : Nat) : List Nat := if goesOn r then [x + 1] else []
theorem RI.mark {P : List Row} {m : List Bool} {L : List Nat} {x : Nat} {r : Row} (h : RI P m (L ++ [x])) (hr : P[x]? = some r) (htg : ∀ (i : Nat) (j : J) (u : Nat), P[i]? = some (.jmp j u) → u < P.length) (hgo : ∀ (i : Nat) (r : Row), P[i]? = some r → goesOn r = true → i + 1 < P.length) :
    RI P (m.set x true) (L ++ tgN r ++ nx r x) := by
  have hx : x < P.length := h.lim x (by simp)
  have hxm : x < m.length := by rw [h.len]; exact hx
  have mm : ∀ y, (m.set x true)[y]? = some true ↔ (y = x ∨ m[y]? = some true) := fun y => by
    rw [List.getElem?_set]
    split
    · rename_i e; subst e; simp [hxm]
    · rename_i e; exact ⟨.inr, fun z => z.resolve_left (Ne.symm e)⟩
  have td : ∀ y, Todo P m (L ++ [x]) y → Todo P (m.set x true) (L ++ tgN r ++ nx r x) y := fun y z => by
    rcases z with z | z
    · exact .inl ((mm y).mpr (.inr z))
    · rcases List.mem_append.mp z with z | z
      · exact .inr (List.mem_append_left _ (List.mem_append_left _ z))
      · simp at z; exact .inl ((mm y).mpr (.inl z))
  refine ⟨by simp [h.len], fun y z => ?_, td _ h.start, fun i q e e2 g => ?_, fun i j t e e2 => ?_⟩
  · rcases List.mem_append.mp z with z | z
    · rcases List.mem_append.mp z with z | z
      · exact h.lim y (List.mem_append_left _ z)
      · cases r with
        | jmp j t => simp [tgN] at z; subst z; exact htg x j _ hr
        | _ => simp [tgN] at z
    · unfold nx at z
      split at z
      · rename_i g; simp at z; subst z; exact hgo x r hr g
      · simp at z
  · rcases (mm i).mp e2 with rfl | e2
    · rw [hr] at e; cases e
      exact .inr (List.mem_append_right _ (by simp [nx, g]))
    · exact td _ (h.go i q e e2 g)
  · rcases (mm i).mp e2 with rfl | e2
    · rw [hr] at e; cases e
      exact .inr (List.mem_append_left _ (List.mem_append_right _ (by simp [tgN])))
    · exact td _ (h.jmp i j t e e2)
theorem RI.done {P : List Row} {m : List Bool} (h : RI P m []) : LiveI P m := by
  have td : ∀ y, Todo P m [] y → m[y]? = some true := fun y z => z.resolve_right (by simp)
  exact ⟨h.len, td _ h.start, fun i r e e2 g => td _ (h.go i r e e2 g), fun i j t e e2 => td _ (h.jmp i j t e e2)⟩
theorem tgN_v (r : Row) : r.tg = (tgN r).map fun (t : Nat) => V.int (t : Int) := by cases r <;> rfl
theorem tgN_len (r : Row) : (tgN r).length ≤ 1 := by cases r <;> simp [tgN]
inductive S_live (σ : Sto) (Q : V → Sto → Prop) (X : Sto → Prop) : List V → Prop
  | mk (a : Addr) (P : List Row) (ha : σ a = some (P.map Row.v)) (hlen : P.length ≤ 900) (hne : 0 < P.length) (htg : ∀ (i : Nat) (j : J) (u : Nat), P[i]? = some (.jmp j u) → u < P.length) (hgo : ∀ (i : Nat) (r : Row), P[i]? = some r → goesOn r = true → i + 1 < P.length)
    (h : ∀ c σ' (m : List Bool), Ext σ σ' → σ c = none → σ' c = some (m.map V.bool) → LiveI P m → Q (.list c) σ') : S_live σ Q X [.list a]
inductive I13 (a c ll : Addr) (P : List Row) (σ : Sto) (q : Nat) : Loc → Sto → Prop
  | mk (m : List Bool) (L : List Nat) (x3 : Option V) {σ' : Sto} (hqe : q = 3 * RI.cnt m + L.length) (hql : q ≤ 3 * P.length + 1) (hx : Ext σ σ') (hm : σ' c = some (m.map V.bool)) (hL : σ' ll = some (natL L)) (hR : RI P m L) : I13 a c ll P σ q [some (.list a), some (.list c), some (.list ll), x3] σ'
theorem LBle5 {n : Nat} (h : n ≤ 5000) : n ≤ LB := Nat.le_trans h (by decide)
theorem cnt_rep (n : Nat) : RI.cnt (List.replicate n false) = n := by
  unfold RI.cnt
  rw [List.filter_replicate]
  exact List.length_replicate
theorem natL_drop {L : List Nat} {x : Nat} : (natL (L ++ [x])).dropLast = natL L := by rw [← natL_snoc]; exact List.dropLast_concat
theorem f_reached {K : Ctx} (hj : FnOK K 2 (.ref 215) fun ds σ Q X => S_jumps σ Q X ds) (hg : FnOK K 1 (.ref 229) fun ds σ Q X => S_goes σ Q X ds) (h : chkFn K.frag 320 p_reached_rows n_reached_rows m_reached_rows = true) : FnOK K 3 (.ref 320) fun ds σ Q X => S_live σ Q X ds := fnPure h fun ds σ Q X hS => by
  induction hS with | mk a P ha hlen hne htg hgo hq => ?_
  refine ⟨rfl, ?_⟩
  (repeat first | walk_at "go" | refine ⟨rfl, ?_⟩ | refine ⟨len_ok rfl, ?_⟩)
  refine fun c0 hc0 => ?_
  (repeat first | walk_at "go" | refine ⟨rfl, ?_⟩ | refine ⟨len_ok rfl, ?_⟩)
  refine ⟨_, Ext.new hc0 _ _ ha, ?_⟩
  (repeat first | walk_at "go" | refine ⟨rfl, ?_⟩ | refine ⟨len_ok rfl, ?_⟩)
  have e0 : ((P.map Row.v).length : Int).toNat = P.length := by rw [List.length_map]; rfl
  refine ⟨put_self _ _ _, by lia, by rw [List.length_map]; lia, by rw [e0]; exact Nat.le_trans (Nat.le_of_eq (Nat.one_mul _)) (LBle (by lia)), fun c hc => ?_⟩
  have x0 : Ext σ (put σ c0 [.bool false]) := Ext.new hc0
  have hcn : σ c = none := x0.none hc
  rw [e0, rep_bool]
  have x1 : Ext σ (put (put σ c0 [.bool false]) c ((List.replicate P.length false).map V.bool)) := x0.trans (Ext.new hc)
  (repeat first | walk_at "go" | refine ⟨rfl, ?_⟩ | refine ⟨len_ok rfl, ?_⟩)
  refine fun ll hll => ?_
  have hlln := x1.none hll
  have hcl : c ≠ ll := Ext.ne (put_self _ _ _) hll
  (repeat first | walk_at "go" | refine ⟨rfl, ?_⟩ | refine ⟨len_ok rfl, ?_⟩)
  refine ⟨noX, I13 a c ll P σ, ⟨3 * P.length + 1, .mk (List.replicate P.length false) [0] none (by rw [cnt_rep]; rfl) (Nat.le_refl _) (x1.trans (Ext.new hll)) ((put_ne hcl).trans (put_self _ _ _)) (put_self _ _ _) ?_⟩, fun q ρ σ' hI => ?_⟩
  · have no : ∀ (i : Nat), (List.replicate P.length false)[i]? = some true → False := fun i e => by
      have := List.eq_of_mem_replicate (List.mem_of_getElem? e)
      cases this
    exact ⟨List.length_replicate, fun x hx => by rw [List.mem_singleton.mp hx]; exact hne, .inr (List.mem_singleton.mpr rfl), fun i r e e2 => (no i e2).elim, fun i j t e e2 => (no i e2).elim⟩
  induction hI with | @mk m L x3 σ' hqe hql hx hm hL hR => ?_
  (repeat first | walk_at "go" | refine ⟨rfl, ?_⟩ | refine ⟨len_ok rfl, ?_⟩)
  refine ⟨_, hL, ?_⟩
  rcases List.eq_nil_or_concat L with rfl | ⟨L', x, rfl⟩
  · refine .f ?_
    (repeat first | walk_at "go" | refine ⟨rfl, ?_⟩ | refine ⟨len_ok rfl, ?_⟩)
    exact hq c σ' m hx hcn hm hR.done
  rw [List.concat_eq_append] at hqe hL hR ⊢
  have hxP : x < P.length := hR.lim x (List.mem_append_right _ (List.mem_singleton.mpr rfl))
  have hPx : P[x]? = some P[x] := List.getElem?_eq_getElem hxP
  generalize P[x] = r at hPx
  have gi := pyAt_nat.trans (mapGet (f := Row.v) hPx)
  have hxm : x < m.length := by rw [hR.len]; exact hxP
  rw [List.length_append] at hqe
  have hqe : q = 3 * RI.cnt m + (L'.length + 1) := hqe
  rw [show (!(natL (L' ++ [x])).isEmpty) = true by cases L' <;> rfl]
  refine .t ?_
  (repeat first | walk_at "go" | refine ⟨rfl, ?_⟩ | refine ⟨len_ok rfl, ?_⟩)
  refine ⟨by rw [hL]; exact nofun, ?_⟩
  (repeat first | walk_at "go" | refine ⟨rfl, ?_⟩ | refine ⟨len_ok rfl, ?_⟩)
  refine ⟨_, .int (x : Nat), hL, by rw [← natL_snoc]; exact List.getLast?_concat, ?_⟩
  rw [natL_drop]
  have hx2 : Ext σ (put σ' ll (natL L')) := hx.put hlln
  have hm2 : put σ' ll (natL L') c = some (m.map V.bool) := (put_ne hcl).trans hm
  have hL2 : put σ' ll (natL L') ll = some (natL L') := put_self _ _ _
  generalize put σ' ll (natL L') = σ2 at hx2 hm2 hL2 ⊢
  (repeat first | walk_at "go" | refine ⟨rfl, ?_⟩ | refine ⟨len_ok rfl, ?_⟩)
  refine ⟨_, hx2 a _ ha, ?_⟩
  rw [List.length_map]
  (repeat first | walk_at "go" | refine ⟨rfl, ?_⟩ | refine ⟨len_ok rfl, ?_⟩)
  refine boI_or (fun e => brkI (leF hxP) (fun e2 => ff (e2.symm.trans e))) (fun _ => ?_)
  (repeat first | walk_at "go" | refine ⟨rfl, ?_⟩ | refine ⟨len_ok rfl, ?_⟩)
  refine ⟨_, .bool m[x], hm2, pyAt_nat.trans (mapGet (List.getElem?_eq_getElem hxm)), ?_⟩
  refine brkI (fun e => ?_) (fun e => ?_)
  · (repeat first | walk_at "go" | refine ⟨rfl, ?_⟩ | refine ⟨len_ok rfl, ?_⟩)
    exact ⟨q - 1, by lia, .mk m L' _ (by lia) (by lia) hx2 hm2 hL2 (hR.seen ((List.getElem?_eq_getElem hxm).trans (congrArg some e)))⟩
  have hcnt := cnt_set (m := m) (i := x) ((List.getElem?_eq_getElem hxm).trans (congrArg some e))
  (repeat first | walk_at "go" | refine ⟨rfl, ?_⟩ | refine ⟨len_ok rfl, ?_⟩)
  refine ⟨_, hm2, by lia, by rw [List.length_map]; exact hxm, ?_⟩
  rw [show (m.map V.bool).set ((x : Int).toNat) (V.bool true) = (m.set x true).map V.bool from List.map_set.symm]
  have hx3 : Ext σ (put σ2 c ((m.set x true).map V.bool)) := hx2.put hcn
  have hL3 : put σ2 c ((m.set x true).map V.bool) ll = some (natL L') := (put_ne hcl.symm).trans hL2
  have hm3 : put σ2 c ((m.set x true).map V.bool) c = some ((m.set x true).map V.bool) := put_self _ _ _
  generalize put σ2 c ((m.set x true).map V.bool) = σ3 at hx3 hL3 hm3 ⊢
  have hF := hR.mark hPx htg hgo
  have htl := tgN_len r
  (repeat first | walk_at "go" | refine ⟨rfl, ?_⟩ | refine ⟨len_ok rfl, ?_⟩)
  refine ⟨by rw [hL3]; exact nofun, ?_⟩
  (repeat first | walk_at "go" | refine ⟨rfl, ?_⟩ | refine ⟨len_ok rfl, ?_⟩)
  refine ⟨_, 2, by decide, hj, ?_⟩
  (repeat first | walk_at "go" | refine ⟨rfl, ?_⟩ | refine ⟨len_ok rfl, ?_⟩)
  refine ⟨_, _, hx3 a _ ha, gi, .mk r fun cc hcc => ?_⟩
  have hccl : ll ≠ cc := Ext.ne hL3 hcc
  have hccc : c ≠ cc := Ext.ne hm3 hcc
  rw [tgN_v]
  (repeat first | walk_at "go" | refine ⟨rfl, ?_⟩ | refine ⟨len_ok rfl, ?_⟩)
  refine ⟨_, _, hccl, (put_ne hccl).trans hL3, put_self _ _ _, by rw [natL_len, List.length_map]; exact LBle5 (by lia), ?_⟩
  rw [show natL L' ++ (tgN r).map (fun (t : Nat) => V.int (t : Int)) = natL (L' ++ tgN r) from List.map_append.symm]
  have hx4 := (hx3.trans (Ext.new (l := (tgN r).map fun (t : Nat) => V.int (t : Int)) hcc)).put (l := natL (L' ++ tgN r)) hlln
  have hm4 : put (put σ3 cc ((tgN r).map fun (t : Nat) => V.int (t : Int))) ll (natL (L' ++ tgN r)) c = some ((m.set x true).map V.bool) := (put_ne hcl).trans ((put_ne hccc).trans hm3)
  have hL4 := put_self (put σ3 cc ((tgN r).map fun (t : Nat) => V.int (t : Int))) ll (natL (L' ++ tgN r))
  generalize put (put σ3 cc ((tgN r).map fun (t : Nat) => V.int (t : Int))) ll (natL (L' ++ tgN r)) = σ4 at hx4 hm4 hL4 ⊢
  (repeat first | walk_at "go" | refine ⟨rfl, ?_⟩ | refine ⟨len_ok rfl, ?_⟩)
  refine ⟨_, 1, by decide, hg, ?_⟩
  (repeat first | walk_at "go" | refine ⟨rfl, ?_⟩ | refine ⟨len_ok rfl, ?_⟩)
  refine ⟨_, _, hx4 a _ ha, gi, .mk r ?_⟩
  rw [goes_eq]
  unfold nx at hF
  refine brkI (fun e => ?_) (fun e => ?_)
  · rw [if_pos e] at hF
    (repeat first | walk_at "go" | refine ⟨rfl, ?_⟩ | refine ⟨len_ok rfl, ?_⟩)
    refine ⟨by rw [hL4]; exact nofun, ?_⟩
    (repeat first | walk_at "go" | refine ⟨rfl, ?_⟩ | refine ⟨len_ok rfl, ?_⟩)
    refine ⟨_, hL4, by rw [natL_len, List.length_append]; exact LBle5 (by lia), ?_⟩
    (repeat first | walk_at "go" | refine ⟨rfl, ?_⟩ | refine ⟨len_ok rfl, ?_⟩)
    refine ⟨3 * RI.cnt (m.set x true) + (L' ++ tgN r ++ [x + 1]).length, ?_, .mk (m.set x true) (L' ++ tgN r ++ [x + 1]) _ rfl ?_ (hx4.put hlln) ((put_ne hcl).trans hm4) ((put_self _ _ _).trans (congrArg some natL_snoc)) hF⟩
    · rw [List.length_append, List.length_append, List.length_singleton]; lia
    · rw [List.length_append, List.length_append, List.length_singleton]; lia
  · rw [if_neg (by rw [e]; exact Bool.false_ne_true), List.append_nil] at hF
    (repeat first | walk_at "go" | refine ⟨rfl, ?_⟩ | refine ⟨len_ok rfl, ?_⟩)
    refine ⟨3 * RI.cnt (m.set x true) + (L' ++ tgN r).length, ?_, .mk (m.set x true) (L' ++ tgN r) _ rfl ?_ hx4 hm4 hL4 hF⟩
    · rw [List.length_append]; lia
    · rw [List.length_append]; lia
end Mine
namespace Mine
theorem f_live {K : Ctx} (hr : FnOK K 3 (.ref 320) fun ds σ Q X => S_live σ Q X ds) (hs : FnOK K 3 (.ref 247) fun ds σ Q X => S_sq σ Q X ds) (h : chkFn K.frag 325 p_live_rows n_live_rows m_live_rows = true) : FnOK K 4 (.ref 325) fun ds σ Q X => S_passOf (fun a => [.list a]) 0 σ Q X ds := fnPure h fun ds σ Q X hS => by
  induction hS with | mk a P b ha g h7 h8 hq => ?_
  refine ⟨rfl, ?_⟩
  have hlen := g.len
  have e0 : ((P.map Row.v).length : Int) = (P.length : Nat) := by rw [List.length_map]
  (repeat first | walk_at "go" | refine ⟨rfl, ?_⟩ | refine ⟨len_ok rfl, ?_⟩)
  refine ⟨_, 3, Nat.le_refl _, hr, .mk a P ha (by lia) g.ne g.tg g.last fun c σ1 m hx hcn hc hL => ?_⟩
  (repeat first | walk_at "go" | refine ⟨rfl, ?_⟩ | refine ⟨len_ok rfl, ?_⟩)
  refine ⟨_, 3, Nat.le_refl _, hs, ?_⟩
  (repeat first | walk_at "go" | refine ⟨rfl, ?_⟩ | refine ⟨len_ok rfl, ?_⟩)
  refine ⟨_, hx a _ ha, ?_⟩
  (repeat first | walk_at "go" | refine ⟨rfl, ?_⟩ | refine ⟨len_ok rfl, ?_⟩)
  refine ⟨by rw [e0]; exact big_n (LBle (by lia)), ?_⟩
  have hlc : (liveC P m).length = P.length := by rw [liveC, List.length_map, List.length_range]
  (repeat first | walk_at "go" | refine ⟨rfl, ?_⟩ | refine ⟨len_ok rfl, ?_⟩)
  refine comp_rng (fun R k σ2 => Ext σ1 σ2 ∧ σ2 R = some (((liveC P m).take k).map orv)) e0 noX (LBle (by lia)) (fun R hR => ⟨Ext.new hR, put_self _ _ _⟩) (fun R hR k σ2 hkl hI => ?_) (fun R hR σ2 hI => ?_)
  · obtain ⟨hx2, hR2⟩ := hI
    have hPk : P[k]? = some P[k] := List.getElem?_eq_getElem hkl
    generalize P[k] = r at hPk
    have hkm : k < m.length := by rw [hL.len]; exact hkl
    have hCk : (liveC P m)[k]? = some (if m[k]? = some true then P[k]? else none) := by
      unfold liveC; rw [List.getElem?_map, List.getElem?_range hkl]; rfl
    rw [List.getElem?_eq_getElem hkm, hPk] at hCk
    have hz : (((liveC P m).take k).map orv).length + 1 ≤ LB := by rw [List.length_map]; exact Nat.le_trans (Nat.succ_le_succ (List.length_take_le' _ _)) (by rw [hlc]; exact LBle (by lia))
    (repeat first | walk_at "go" | refine ⟨rfl, ?_⟩ | refine ⟨len_ok rfl, ?_⟩)
    refine ⟨_, .bool m[k], hx2 c _ hc, pyAt_nat.trans (mapGet (List.getElem?_eq_getElem hkm)), ?_⟩
    refine ifI (fun e => ?_) (fun e => ?_)
    · rw [if_pos (congrArg some e)] at hCk
      (repeat first | walk_at "go" | refine ⟨rfl, ?_⟩ | refine ⟨len_ok rfl, ?_⟩)
      refine ⟨_, _, hx2 a _ (hx a _ ha), pyAt_nat.trans (mapGet hPk), _, hR2, hz, hx2.put hR, (put_self _ _ _).trans ?_⟩
      rw [List.take_add_one, hCk, List.map_append]; rfl
    · rw [if_neg (fun z => ff (e.symm.trans (Option.some.inj z)))] at hCk
      (repeat first | walk_at "go" | refine ⟨rfl, ?_⟩ | refine ⟨len_ok rfl, ?_⟩)
      refine ⟨_, hR2, hz, hx2.put hR, (put_self _ _ _).trans ?_⟩
      rw [List.take_add_one, hCk, List.map_append]; rfl
  · obtain ⟨hx2, hR2⟩ := hI
    obtain ⟨t1, g1, g2, g3⟩ := live_done g hL
    rw [← hlc, List.take_length] at hR2
    refine .mk R (liveC P m) hR2 (by lia) t1 fun r σ3 hx3 hrn hr3 => ?_
    (repeat first | walk_at "go" | refine ⟨rfl, ?_⟩ | refine ⟨len_ok rfl, ?_⟩)
    exact hq r σ3 _ ((hx.trans hx2).trans hx3) ((hx.trans hx2).none hrn) hr3 g1 g2 g3
end Mine
namespace Mine
theorem row_dat (r : Row) : V.dat 4 r.v = true := by
  cases r with
  | const x => cases x <;> rfl
  | _ => rfl
theorem rows_dat (P : List Row) : (P.map Row.v).all (V.dat 4) = true := by
  rw [List.all_map, List.all_eq_true]; exact fun r _ => row_dat r
inductive S_impr (σ : Sto) (Q : V → Sto → Prop) (X : Sto → Prop) : List V → Prop
  | mk (a : Addr) (P : List Row) (b r : Nat) (ha : σ a = some (P.map Row.v)) (g : Good b P) (h7 : 7 ≤ b) (h8 : b ≤ 400) (hr : r ≤ 2)
    (h : ∀ c σ' P', Ext σ σ' → σ' c = some (P'.map Row.v) → Good (b + 134) P' → Imp (P.map some) (P'.map some) → P'.length ≤ P.length → Q (.list c) σ') : S_impr σ Q X [.list a, .raw (.ref 360), .int (r : Nat)]
inductive I15 (P : List Row) (b r : Nat) (σ : Sto) (k : Nat) : Loc → Sto → Prop
  | mk (c : Addr) (P' : List Row) (x3 x4 : Option V) {σ' : Sto} (hx : Ext σ σ') (hc : σ' c = some (P'.map Row.v)) (g : Good (b + 67 * k) P') (im : Imp (P.map some) (P'.map some)) (hl : P'.length ≤ P.length) : I15 P b r σ k [some (.list c), some (.raw (.ref 360)), some (.int (r : Nat)), x3, x4] σ'
theorem f_improved {K : Ctx} {nf : Nat} (hnf : 4 ≤ nf) (h1 : FnOK K nf (.ref 266) fun ds σ Q X => S_passOf (fun a => [.list a, .raw (.ref 360)]) 67 σ Q X ds) (h2 : FnOK K 4 (.ref 280) fun ds σ Q X => S_passOf (fun a => [.list a]) 0 σ Q X ds) (h3 : FnOK K 4 (.ref 294) fun ds σ Q X => S_passOf (fun a => [.list a]) 0 σ Q X ds)
    (h4 : FnOK K 4 (.ref 313) fun ds σ Q X => S_passOf (fun a => [.list a]) 0 σ Q X ds) (h5 : FnOK K 4 (.ref 325) fun ds σ Q X => S_passOf (fun a => [.list a]) 0 σ Q X ds) (h : chkFn K.frag 332 p_improved_rows n_improved_rows m_improved_rows = true) : FnOK K (nf + 1) (.ref 332) fun ds σ Q X => S_impr σ Q X ds := fnPure h fun ds σ Q X hS => by
  induction hS with | mk a P b r ha g h7 h8 hr hq => ?_
  refine ⟨rfl, ?_⟩
  (repeat first | walk_at "go" | refine ⟨rfl, ?_⟩ | refine ⟨len_ok rfl, ?_⟩)
  refine ⟨big_n (LBle (by lia)), ?_⟩
  (repeat first | walk_at "go" | refine ⟨rfl, ?_⟩ | refine ⟨len_ok rfl, ?_⟩)
  refine for_rng (I15 P b r σ) rfl noX (LBle (by lia)) (.mk a P none none (Ext.refl _) ha g (Imp.refl g.safe) (Nat.le_refl _)) (fun k ρ σ' hkr hI => ?_) (fun ρ σ' hI => ?_)
  · induction hI with | @mk c P' x3 x4 σ' hx hc g' im hl => ?_
    (repeat first | walk_at "go" | refine ⟨rfl, ?_⟩ | refine ⟨len_ok rfl, ?_⟩)
    refine ⟨_, 4, hnf, h2, ?_⟩
    (repeat first | walk_at "go" | refine ⟨rfl, ?_⟩ | refine ⟨len_ok rfl, ?_⟩)
    refine ⟨_, nf, Nat.le_refl _, h1, .mk c P' (b + 67 * k) hc g' (by lia) (by lia) fun c1 σ1 P1 hx1 hn1 hc1 g1 i1 l1 => .mk c1 P1 _ hc1 g1 (by lia) (by lia) fun c2 σ2 P2 hx2 hn2 hc2 g2 i2 l2 => ?_⟩
    (repeat first | walk_at "go" | refine ⟨rfl, ?_⟩ | refine ⟨len_ok rfl, ?_⟩)
    refine ⟨_, 4, hnf, h5, ?_⟩
    (repeat first | walk_at "go" | refine ⟨rfl, ?_⟩ | refine ⟨len_ok rfl, ?_⟩)
    refine ⟨_, 4, hnf, h4, ?_⟩
    (repeat first | walk_at "go" | refine ⟨rfl, ?_⟩ | refine ⟨len_ok rfl, ?_⟩)
    refine ⟨_, 4, hnf, h3, .mk c2 P2 _ hc2 g2 (by lia) (by lia) fun c3 σ3 P3 hx3 hn3 hc3 g3 i3 l3 => .mk c3 P3 _ hc3 g3 (by lia) (by lia) fun c4 σ4 P4 hx4 hn4 hc4 g4 i4 l4 => .mk c4 P4 _ hc4 g4 (by lia) (by lia) fun c5 σ5 P5 hx5 hn5 hc5 g5 i5 l5 => ?_⟩
    have xx : Ext σ' σ5 := (((hx1.trans hx2).trans hx3).trans hx4).trans hx5
    (repeat first | walk_at "go" | refine ⟨rfl, ?_⟩ | refine ⟨len_ok rfl, ?_⟩)
    refine ⟨_, _, hc5, xx c _ hc, rows_dat _, rows_dat _, ?_⟩
    refine brkI (fun e => ?_) (fun e => ?_)
    · (repeat first | walk_at "go" | refine ⟨rfl, ?_⟩ | refine ⟨len_ok rfl, ?_⟩)
      exact hq c σ5 P' (hx.trans xx) (xx c _ hc) (g'.mono (by lia)) im hl
    · (repeat first | walk_at "go" | refine ⟨rfl, ?_⟩ | refine ⟨len_ok rfl, ?_⟩)
      exact .mk c5 P5 _ _ (hx.trans xx) hc5 (g5.mono (by lia)) (((((im.trans i1).trans i2).trans i3).trans i4).trans i5) (by lia)
  · induction hI with | @mk c P' x3 x4 σ' hx hc g' im hl => ?_
    (repeat first | walk_at "go" | refine ⟨rfl, ?_⟩ | refine ⟨len_ok rfl, ?_⟩)
    exact hq c σ' P' hx hc (g'.mono (by lia)) im hl
end Mine
namespace Mine
inductive S_num (σ : Sto) (Q : V → Sto → Prop) (X : Sto → Prop) : List V → Prop
  | mk (x : Val) (h : Q (.int (num x)) σ) : S_num σ Q X [x.v]
theorem f_number {K : Ctx} (h : chkFn K.frag 346 p_law_number n_law_number m_law_number = true) : FnOK K 1 (.ref 346) fun ds σ Q X => S_num σ Q X ds := fnPure h fun ds σ Q X hS => by
  induction hS with | mk x hq => ?_
  refine ⟨rfl, ?_⟩
  induction x with
  | non =>
    (repeat first | walk_at "go" | refine ⟨rfl, ?_⟩ | refine ⟨len_ok rfl, ?_⟩)
    refine .f ?_
    (repeat first | walk_at "go" | refine ⟨rfl, ?_⟩ | refine ⟨len_ok rfl, ?_⟩)
    exact hq
  | int i =>
    (repeat first | walk_at "go" | refine ⟨rfl, ?_⟩ | refine ⟨len_ok rfl, ?_⟩)
    refine .t ?_
    (repeat first | walk_at "go" | refine ⟨rfl, ?_⟩ | refine ⟨len_ok rfl, ?_⟩)
    exact hq
  | str k =>
    (repeat first | walk_at "go" | refine ⟨rfl, ?_⟩ | refine ⟨len_ok rfl, ?_⟩)
    refine .f ?_
    have hq : Q (.int (if (k == 3) = true then 7 else 0)) σ := hq
    (repeat first | walk_at "go" | refine ⟨rfl, ?_⟩ | refine ⟨len_ok rfl, ?_⟩)
    refine ifI (fun e => ?_) (fun e => ?_)
    · rw [if_pos (show (k == 3) = true from e)] at hq
      (repeat first | walk_at "go" | refine ⟨rfl, ?_⟩ | refine ⟨len_ok rfl, ?_⟩)
      exact hq
    · rw [if_neg (show ¬ (k == 3) = true from fun z => ff (e.symm.trans z))] at hq
      (repeat first | walk_at "go" | refine ⟨rfl, ?_⟩ | refine ⟨len_ok rfl, ?_⟩)
      exact hq
inductive S_text (σ : Sto) (Q : V → Sto → Prop) (X : Sto → Prop) : List V → Prop
  | mk (x : Val) (h : Q (txtV x).v σ) : S_text σ Q X [x.v]
theorem f_text {K : Ctx} (h : chkFn K.frag 353 p_law_text n_law_text m_law_text = true) : FnOK K 1 (.ref 353) fun ds σ Q X => S_text σ Q X ds := fnPure h fun ds σ Q X hS => by
  induction hS with | mk x hq => ?_
  refine ⟨rfl, ?_⟩
  induction x with
  | non =>
    (repeat first | walk_at "go" | refine ⟨rfl, ?_⟩ | refine ⟨len_ok rfl, ?_⟩)
    exact hq
  | int i =>
    (repeat first | walk_at "go" | refine ⟨rfl, ?_⟩ | refine ⟨len_ok rfl, ?_⟩)
    by_cases e : (0 : Int) < i
    · rw [show decide (0 < i) = true from decide_eq_true e]
      have hq : Q (.str (if 0 < i then 4 else 5)) σ := hq
      rw [if_pos e] at hq
      refine ⟨12, ⟨_, _, _, rfl, rfl, by decide, rfl, rfl⟩, ?_⟩
      (repeat first | walk_at "go" | refine ⟨rfl, ?_⟩ | refine ⟨len_ok rfl, ?_⟩)
      refine ⟨10, _, _, rfl, rfl, rfl, ?_⟩
      (repeat first | walk_at "go" | refine ⟨rfl, ?_⟩ | refine ⟨len_ok rfl, ?_⟩)
      refine ⟨4, _, _, rfl, rfl, rfl, ?_⟩
      (repeat first | walk_at "go" | refine ⟨rfl, ?_⟩ | refine ⟨len_ok rfl, ?_⟩)
      exact hq
    · rw [show decide (0 < i) = false from decide_eq_false e]
      have hq : Q (.str (if 0 < i then 4 else 5)) σ := hq
      rw [if_neg e] at hq
      refine ⟨11, ⟨_, _, _, rfl, rfl, by decide, rfl, rfl⟩, ?_⟩
      (repeat first | walk_at "go" | refine ⟨rfl, ?_⟩ | refine ⟨len_ok rfl, ?_⟩)
      refine ⟨9, _, _, rfl, rfl, rfl, ?_⟩
      (repeat first | walk_at "go" | refine ⟨rfl, ?_⟩ | refine ⟨len_ok rfl, ?_⟩)
      refine ⟨5, _, _, rfl, rfl, rfl, ?_⟩
      (repeat first | walk_at "go" | refine ⟨rfl, ?_⟩ | refine ⟨len_ok rfl, ?_⟩)
      exact hq
  | str k =>
    (repeat first | walk_at "go" | refine ⟨rfl, ?_⟩ | refine ⟨len_ok rfl, ?_⟩)
    exact hq
end Mine
namespace Mine
theorem val_dat (x : Val) : V.dat 4 x.v = true := by cases x <;> rfl
theorem fals2 (x : Val) : (veq .non x.v || (veq (.str 0) x.v || (veq (.str 1) x.v || veq (.int 0) x.v))) = !isT x := by
  cases x with
  | non => rfl
  | int i =>
    by_cases h : i = 0
    · subst h; rfl
    · have e : (0 == i) = false := beq_false_of_ne (Ne.symm h)
      have e2 : (Val.int i == Val.int 0) = false := beq_false_of_ne fun z => h (Val.int.inj z)
      show (false || (false || (false || (0 == i)))) = !(!(false || false || false || (Val.int i == Val.int 0)))
      rw [e, e2]; rfl
  | str k =>
    by_cases h : k = 0
    · subst h; rfl
    by_cases h1 : k = 1
    · subst h1; rfl
    have e0 : (0 == k) = false := beq_false_of_ne (Ne.symm h)
    have e1 : (1 == k) = false := beq_false_of_ne (Ne.symm h1)
    have e2 : (Val.str k == Val.str 0) = false := beq_false_of_ne fun z => h (Val.str.inj z)
    have e3 : (Val.str k == Val.str 1) = false := beq_false_of_ne fun z => h1 (Val.str.inj z)
    show (false || ((0 == k) || ((1 == k) || false))) = !(!(false || (Val.str k == Val.str 0) || (Val.str k == Val.str 1) || false))
    rw [e0, e1, e2, e3]; rfl
theorem in_f {x : Val} {Q : Bool → Prop} (h : Q (!isT x)) : vIn x.v (.tup [.non, .str 0, .str 1, .int 0]) Q := by
  show (match true && V.dat 4 x.v with | true => Q _ | false => False)
  rw [val_dat, ← fals2] at *
  exact h
theorem cin_f {x : Val} {σ : Sto} {Q : Bool → Prop} (h : Q (!isT x)) : vCmp .In x.v (.tup [.non, .str 0, .str 1, .int 0]) σ Q := in_f h
theorem cni_f {x : Val} {σ : Sto} {Q : Bool → Prop} (h : Q (isT x)) : vCmp .NotIn x.v (.tup [.non, .str 0, .str 1, .int 0]) σ Q := in_f (Q := fun b => Q (!b)) (by show Q (!(!isT x)); rw [Bool.not_not]; exact h)
theorem small_num {x : Val} (h : ValOk 900 x) : SmallI (num x) := by
  have := num_le (b := 900) (by decide) h
  unfold SmallI
  exact Nat.lt_of_le_of_lt this (Nat.pow_lt_pow_right (by decide) (by decide))
theorem two_of {α : Type} {l : List α} (h : l.length = 2) : ∃ x y, l = [x, y] := by
  match l, h with
  | [x, y], _ => exact ⟨x, y, rfl⟩
theorem one_of {α : Type} {l : List α} (h : l.length = 1) : ∃ x, l = [x] := by
  match l, h with
  | [x], _ => exact ⟨x, rfl⟩
theorem xor_b {a b : Bool} : (!((!a) == (!b))) = (a != b) := by cases a <;> cases b <;> rfl
theorem f_compute {K : Ctx} {n : Nat} (hn : 1 ≤ n) (hD : DieRaise K n) (hnum : FnOK K 1 (.ref 346) fun ds σ Q X => S_num σ Q X ds) (htxt : FnOK K 1 (.ref 353) fun ds σ Q X => S_text σ Q X ds)
    (h : chkFn K.frag 360 p_law_compute n_law_compute m_law_compute = true) : FnOK K (n + 1) (.ref 360) fun ds σ Q X => S_comp σ Q X ds := fnIn h fun ds σ Q X hS => by
  induction hS with | mk r vs a ha h0 hvl hok hs hno => ?_
  refine ⟨rfl, .inr hD, ?_⟩
  cases r with
  | xor =>
    obtain ⟨x, y, rfl⟩ := two_of hvl
    have q := hs _ rfl σ (Ext.refl _)
    (repeat first | walk_at "go" | refine ix_r0 ?_ | refine ⟨rfl, ?_⟩ | refine ⟨len_ok rfl, ?_⟩)
    refine .t ?_
    (repeat first | walk_at "go" | refine ⟨rfl, ?_⟩ | refine ⟨len_ok rfl, ?_⟩)
    refine ⟨_, x.v, ha, rfl, ?_⟩
    (repeat first | walk_at "go" | refine ⟨rfl, ?_⟩ | refine ⟨len_ok rfl, ?_⟩)
    refine cin_f ?_
    (repeat first | walk_at "go" | refine ⟨rfl, ?_⟩ | refine ⟨len_ok rfl, ?_⟩)
    refine ⟨_, y.v, ha, rfl, ?_⟩
    (repeat first | walk_at "go" | refine ⟨rfl, ?_⟩ | refine ⟨len_ok rfl, ?_⟩)
    refine cin_f ?_
    unfold xorV at q
    (repeat first | walk_at "go" | refine ⟨rfl, ?_⟩ | refine ⟨len_ok rfl, ?_⟩)
    refine ifI (fun e => ?_) (fun e => ?_)
    · rw [if_pos (xor_b.symm.trans e)] at q
      (repeat first | walk_at "go" | refine ⟨rfl, ?_⟩ | refine ⟨len_ok rfl, ?_⟩)
      exact q
    · rw [if_neg (fun z => ff (e.symm.trans (xor_b.trans z)))] at q
      (repeat first | walk_at "go" | refine ⟨rfl, ?_⟩ | refine ⟨len_ok rfl, ?_⟩)
      exact q
  | text =>
    obtain ⟨x, rfl⟩ := one_of hvl
    (repeat first | walk_at "go" | refine ix_r0 ?_ | refine ⟨rfl, ?_⟩ | refine ⟨len_ok rfl, ?_⟩)
    refine .f ?_
    (repeat first | walk_at "go" | refine ix_r0 ?_ | refine ⟨rfl, ?_⟩ | refine ⟨len_ok rfl, ?_⟩)
    refine .t ?_
    (repeat first | walk_at "go" | refine ⟨rfl, ?_⟩ | refine ⟨len_ok rfl, ?_⟩)
    refine ⟨_, 1, hn, htxt, ?_⟩
    (repeat first | walk_at "go" | refine ⟨rfl, ?_⟩ | refine ⟨len_ok rfl, ?_⟩)
    refine ⟨_, x.v, ha, rfl, .mk x ?_⟩
    (repeat first | walk_at "go" | refine ⟨rfl, ?_⟩ | refine ⟨len_ok rfl, ?_⟩)
    exact hs _ rfl σ (Ext.refl _)
  | un o =>
    obtain ⟨x, rfl⟩ := one_of hvl
    have q := hs _ rfl σ (Ext.refl _)
    (repeat first | walk_at "go" | refine ix_r0 ?_ | refine ⟨rfl, ?_⟩ | refine ⟨len_ok rfl, ?_⟩)
    refine .f ?_
    (repeat first | walk_at "go" | refine ix_r0 ?_ | refine ⟨rfl, ?_⟩ | refine ⟨len_ok rfl, ?_⟩)
    refine .f ?_
    (repeat first | walk_at "go" | refine ix_r0 ?_ | refine ⟨rfl, ?_⟩ | refine ⟨len_ok rfl, ?_⟩)
    refine .t ?_
    (repeat first | walk_at "go" | refine ⟨rfl, ?_⟩ | refine ⟨len_ok rfl, ?_⟩)
    refine ⟨_, x.v, ha, rfl, ?_⟩
    (repeat first | walk_at "go" | refine ⟨rfl, ?_⟩ | refine ⟨len_ok rfl, ?_⟩)
    refine cni_f ?_
    (repeat first | walk_at "go" | refine ⟨rfl, ?_⟩ | refine ⟨len_ok rfl, ?_⟩)
    refine ⟨_, by decide, by decide, rfl, ?_⟩
    cases o with
    | nt =>
      have q : Q (if isT x then Val.str 0 else Val.int 1).v σ := q
      (repeat first | walk_at "go" | refine ⟨rfl, ?_⟩ | refine ⟨len_ok rfl, ?_⟩)
      refine ifI (fun e => ?_) (fun e => ?_)
      · rw [if_pos e] at q
        (repeat first | walk_at "go" | refine ⟨rfl, ?_⟩ | refine ⟨len_ok rfl, ?_⟩)
        exact q
      · rw [if_neg (fun z => ff (e.symm.trans z))] at q
        (repeat first | walk_at "go" | refine ⟨rfl, ?_⟩ | refine ⟨len_ok rfl, ?_⟩)
        exact q
    | neg =>
      (repeat first | walk_at "go" | refine ⟨rfl, ?_⟩ | refine ⟨len_ok rfl, ?_⟩)
      refine ⟨_, 1, hn, hnum, ?_⟩
      (repeat first | walk_at "go" | refine ⟨rfl, ?_⟩ | refine ⟨len_ok rfl, ?_⟩)
      refine ⟨_, x.v, ha, rfl, .mk x ?_⟩
      (repeat first | walk_at "go" | refine ⟨rfl, ?_⟩ | refine ⟨len_ok rfl, ?_⟩)
      exact q
  | bin o =>
    obtain ⟨x, y, rfl⟩ := two_of hvl
    have sx := small_num (hok x List.mem_cons_self)
    have sy := small_num (hok y (List.mem_cons_of_mem _ List.mem_cons_self))
    (repeat first | walk_at "go" | refine ix_r0 ?_ | refine ⟨rfl, ?_⟩ | refine ⟨len_ok rfl, ?_⟩)
    refine .f ?_
    (repeat first | walk_at "go" | refine ix_r0 ?_ | refine ⟨rfl, ?_⟩ | refine ⟨len_ok rfl, ?_⟩)
    refine .f ?_
    (repeat first | walk_at "go" | refine ix_r0 ?_ | refine ⟨rfl, ?_⟩ | refine ⟨len_ok rfl, ?_⟩)
    refine .f ?_
    (repeat first | walk_at "go" | refine ⟨rfl, ?_⟩ | refine ⟨len_ok rfl, ?_⟩)
    refine ⟨_, 1, hn, hnum, ?_⟩
    (repeat first | walk_at "go" | refine ⟨rfl, ?_⟩ | refine ⟨len_ok rfl, ?_⟩)
    refine ⟨_, x.v, ha, rfl, .mk x ?_⟩
    (repeat first | walk_at "go" | refine ⟨rfl, ?_⟩ | refine ⟨len_ok rfl, ?_⟩)
    refine ⟨_, 1, hn, hnum, ?_⟩
    (repeat first | walk_at "go" | refine ⟨rfl, ?_⟩ | refine ⟨len_ok rfl, ?_⟩)
    refine ⟨_, y.v, ha, rfl, .mk y ⟨by decide, ?_⟩⟩
    (repeat first | walk_at "go" | refine ⟨rfl, ?_⟩ | refine ⟨len_ok rfl, ?_⟩)
    refine ⟨_, by decide, by decide, rfl, ?_⟩
    cases o with
    | div =>
      have e1 : (Row.bin BO.div).made [x, y] = if num y = 0 then none else some (.int ((num x).fdiv (num y))) := rfl
      rw [e1] at hs hno
      (repeat first | walk_at "go" | refine ⟨rfl, ?_⟩ | refine ⟨len_ok rfl, ?_⟩)
      refine .t ?_
      (repeat first | walk_at "go" | refine ⟨rfl, ?_⟩ | refine ⟨len_ok rfl, ?_⟩)
      refine brkI (fun e => ?_) (fun e => ?_)
      · exact hno (if_pos (eq_of_beq e)) σ (Ext.refl _)
      · have e2 : ¬ num y = 0 := fun z => ff (e.symm.trans (beq_iff_eq.mpr z))
        (repeat first | walk_at "go" | refine ⟨rfl, ?_⟩ | refine ⟨len_ok rfl, ?_⟩)
        refine ⟨e2, sx, ?_⟩
        (repeat first | walk_at "go" | refine ⟨rfl, ?_⟩ | refine ⟨len_ok rfl, ?_⟩)
        exact hs _ (if_neg e2) σ (Ext.refl _)
    | _ =>
      (repeat first | walk_at "go" | refine ⟨rfl, ?_⟩ | refine ⟨len_ok rfl, ?_⟩)
      refine .f (.next ⟨sx, sy, by decide, ?_⟩)
      (repeat first | walk_at "go" | refine ⟨rfl, ?_⟩ | refine ⟨len_ok rfl, ?_⟩)
      refine ⟨_, by decide, by decide, rfl, _, rfl, ?_⟩
      (repeat first | walk_at "go" | refine ⟨rfl, ?_⟩ | refine ⟨len_ok rfl, ?_⟩)
      exact hs _ rfl σ (Ext.refl _)
  | _ => exact absurd rfl h0
end Mine
namespace Mine
/-! ## codes that the law draws -/
inductive SR where
  | row (r : Row)
  | to (j : J) (k : Nat)
theorem SR.to_ne {j : J} {k : Nat} {r : Row} {P : Prop} (h : SR.to j k = .row r) : P := nomatch h
noncomputable def SR.v : SR → V
  | .row r => r.v
  | .to j k => .tup [.str j.w, .tup [.str 44, .int k]]
/-- a row at its place: D the depths, lo to hi the places that it may jump to, K how many statements -/
noncomputable def Row.need : Row → Nat
  | .bin _ => 2 | .xor => 2 | .swap => 2 | .un _ => 1 | .text => 1 | .drop => 1 | .dup => 1 | .func _ _ _ => 1 | .ret1 => 1 | _ => 0
noncomputable def Row.puts : Row → Nat
  | .const _ => 1 | .bin _ => 1 | .xor => 1 | .swap => 2 | .un _ => 1 | .text => 1 | .dup => 2 | .func f _ _ => (match f with | .tick => 1 | .print => 0) | _ => 0
structure RR (D : Nat → Nat) (lo hi i : Nat) (r : Row) : Prop where
  j : ∀ j t, r = .jmp j t → lo ≤ t ∧ t ≤ hi ∧ if j = .jump then D t = D i else 1 ≤ D i ∧ D (i + 1) + 1 = D i ∧ D t + (if j.pops then 1 else 0) = D i
  n : r.isJ = false → r.need ≤ D i ∧ (goesOn r = true → D (i + 1) + r.need = D i + r.puts)
noncomputable def RT (D : Nat → Nat) (lo hi K i : Nat) : SR → Prop
  | .row r => RR D lo hi i r
  | .to j k => k < K ∧ if j = .jump then D i = 0 else (j = .iff ∨ j = .ift) ∧ D i = 1 ∧ D (i + 1) = 0
theorem RR.jmp {D : Nat → Nat} {lo hi i : Nat} {j : J} {t : Nat} (h : lo ≤ t ∧ t ≤ hi ∧ if j = .jump then D t = D i else 1 ≤ D i ∧ D (i + 1) + 1 = D i ∧ D t + (if j.pops then 1 else 0) = D i) : RR D lo hi i (.jmp j t) :=
  ⟨fun _ _ e => by cases e; exact h, nofun⟩
theorem RT.congr {D D' : Nat → Nat} {lo hi lo' hi' K i : Nat} {r : SR} (h : RT D lo hi K i r) (hd : ∀ x, lo ≤ x → x ≤ hi → D' x = D x) (h1 : lo ≤ i) (h2 : i < hi) (h3 : lo' ≤ lo) (h4 : hi ≤ hi') : RT D' lo' hi' K i r := by
  have e1 := hd i h1 (Nat.le_of_lt h2)
  have e2 := hd (i + 1) (Nat.le_succ_of_le h1) h2
  cases r with
  | to j k => unfold RT; rw [e1, e2]; exact h
  | row r =>
    have h : RR D lo hi i r := h
    refine ⟨fun j t e => ?_, fun z => ?_⟩
    · obtain ⟨a, b, c⟩ := h.j j t e
      rw [e1, e2, hd t a b]
      exact ⟨Nat.le_trans h3 a, Nat.le_trans b h4, c⟩
    · rw [e1, e2]; exact h.n z
structure Seg (K lo : Nat) (R : List SR) (d e : Nat) : Prop where
  ex : ∃ D : Nat → Nat, D lo = d ∧ D (lo + R.length) = e ∧ ∀ (i : Nat) (r : SR), R[i]? = some r → RT D lo (lo + R.length) K (lo + i) r
  ok : ∀ q, SR.row q ∈ R → RowOk 7 q
noncomputable def glue (b : Nat) (D1 D2 : Nat → Nat) (x : Nat) : Nat := if x ≤ b then D1 x else D2 x
theorem glue_le {b x : Nat} {D1 D2 : Nat → Nat} (h : x ≤ b) : glue b D1 D2 x = D1 x := if_pos h
theorem glue_gt {b x : Nat} {D1 D2 : Nat → Nat} (h : b < x) : glue b D1 D2 x = D2 x := if_neg (by lia)
theorem glue_ge {b x : Nat} {D1 D2 : Nat → Nat} (e : D1 b = D2 b) (h : b ≤ x) : glue b D1 D2 x = D2 x := by
  rcases Nat.lt_or_ge b x with z | z
  · exact glue_gt z
  · have : x = b := by lia
    subst this; rw [glue_le (Nat.le_refl _)]; exact e
theorem Seg.append {K lo d e f : Nat} {A B : List SR} (ha : Seg K lo A d e) (hb : Seg K (lo + A.length) B e f) : Seg K lo (A ++ B) d f := by
  obtain ⟨D1, a1, a2, a3⟩ := ha.ex
  obtain ⟨D2, b1, b2, b3⟩ := hb.ex
  have ee : D1 (lo + A.length) = D2 (lo + A.length) := a2.trans b1.symm
  refine ⟨⟨glue (lo + A.length) D1 D2, ?_, ?_, fun i r h => ?_⟩, fun q hq => ?_⟩
  · rw [glue_le (by lia)]; exact a1
  · rw [List.length_append, glue_ge ee (by lia), ← Nat.add_assoc]; exact b2
  · rw [List.length_append]
    rcases Nat.lt_or_ge i A.length with hi | hi
    · rw [List.getElem?_append_left hi] at h
      exact (a3 i r h).congr (fun x h1 h2 => glue_le h2) (by lia) (by lia) (by lia) (by lia)
    · rw [List.getElem?_append_right hi] at h
      have hl := (List.getElem?_eq_some_iff.mp h).1
      have := (b3 _ r h).congr (D' := glue (lo + A.length) D1 D2) (lo' := lo) (hi' := lo + (A.length + B.length)) (fun x h1 h2 => glue_ge ee h1) (by lia) (by lia) (by lia) (by lia)
      rwa [show lo + A.length + (i - A.length) = lo + i by lia] at this
  · rcases List.mem_append.mp hq with h | h
    · exact ha.ok q h
    · exact hb.ok q h
theorem jmp_ok {j : J} {t b : Nat} : RowOk b (.jmp j t) := trivial
theorem Seg.cons {K lo d e f : Nat} {r : SR} {A : List SR} (hA : Seg K (lo + 1) A e f) (h : ∀ D : Nat → Nat, D lo = d → D (lo + 1) = e → D (lo + 1 + A.length) = f → RT D lo (lo + 1 + A.length) K lo r) (ho : ∀ q, r = .row q → RowOk 7 q) : Seg K lo (r :: A) d f := by
  obtain ⟨D, a1, a2, a3⟩ := hA.ex
  have hl : lo + (r :: A).length = lo + 1 + A.length := by simp; lia
  refine ⟨⟨glue lo (fun _ => d) D, ?_, ?_, fun i q hq => ?_⟩, fun q hq => ?_⟩
  · exact glue_le (Nat.le_refl _)
  · rw [hl, glue_gt (by lia)]; exact a2
  · rw [hl]
    cases i with
    | zero =>
      simp at hq; subst hq
      exact h _ (glue_le (Nat.le_refl _)) (by rw [glue_gt (by lia)]; exact a1) (by rw [glue_gt (by lia)]; exact a2)
    | succ i =>
      simp at hq
      have hi := (List.getElem?_eq_some_iff.mp hq).1
      have := (a3 i q hq).congr (D' := glue lo (fun _ => d) D) (lo' := lo) (hi' := lo + 1 + A.length) (fun x h1 h2 => glue_gt (by lia)) (by lia) (by lia) (by lia) (by lia)
      rwa [show lo + 1 + i = lo + (i + 1) by lia] at this
  · rcases List.mem_cons.mp hq with h | h
    · exact ho q h.symm
    · exact hA.ok q h
theorem Seg.nil {K lo d : Nat} : Seg K lo [] d d := ⟨⟨fun _ => d, rfl, rfl, by simp⟩, by simp⟩
theorem Seg.one {K lo d e : Nat} {r : SR} (h : ∀ D : Nat → Nat, D lo = d → D (lo + 1) = e → RT D lo (lo + 1) K lo r) (ho : ∀ q, r = .row q → RowOk 7 q) : Seg K lo [r] d e :=
  Seg.nil.cons (fun D h1 h2 _ => h D h1 h2) ho
theorem Seg.plain {K lo : Nat} {r : Row} (d : Nat) (hj : r.isJ = false) (ho : RowOk 7 r) : Seg K lo [.row r] (d + r.need) (d + r.puts) :=
  .one (fun D h1 h2 => ⟨fun j t e => (by subst e; exact (nomatch hj)), fun _ => ⟨h1 ▸ Nat.le_add_left _ _, fun _ => by rw [h1, h2]; exact Nat.add_right_comm ..⟩⟩) fun q e => by cases e; exact ho
/-- or, and, // -/
theorem Seg.orj {K lo d t : Nat} {j : J} {B : List SR} (hj : j = .orj ∨ j = .andj ∨ j = .dorj) (hB : Seg K (lo + 1) B d (d + 1)) (ht : t = lo + 1 + B.length) : Seg K lo (.row (.jmp j t) :: B) (d + 1) (d + 1) := by
  refine hB.cons (fun D h1 h2 h3 => ?_) fun q hq => by cases hq; exact jmp_ok
  subst ht
  refine RR.jmp ?_
  rw [h1, h2, h3]
  rcases hj with rfl | rfl | rfl <;> simp [J.pops] <;> lia
/-- a choice of two -/
theorem Seg.cond {K lo d t u : Nat} {j : J} {B C : List SR} (hj : j = .iff ∨ j = .ift ∨ j = .ifd) (hB : Seg K (lo + 1) B d (d + 1)) (hC : Seg K (lo + 1 + B.length + 1) C d (d + 1)) (ht : t = lo + 1 + B.length + 1) (hu : u = lo + 1 + B.length + 1 + C.length) :
    Seg K lo (.row (.jmp j t) :: (B ++ .row (.jmp .jump u) :: C)) (d + 1) (d + 1) := by
  obtain ⟨D1, a1, a2, a3⟩ := hB.ex
  obtain ⟨D2, b1, b2, b3⟩ := hC.ex
  have hl : lo + (SR.row (.jmp j t) :: (B ++ .row (.jmp .jump u) :: C)).length = u := by simp; lia
  have g0 : glue lo (fun _ => d + 1) (glue (lo + 1 + B.length) D1 D2) lo = d + 1 := glue_le (Nat.le_refl _)
  have g1 : ∀ x, lo + 1 ≤ x → x ≤ lo + 1 + B.length → glue lo (fun _ => d + 1) (glue (lo + 1 + B.length) D1 D2) x = D1 x := fun x h1 h2 => by rw [glue_gt (by lia), glue_le h2]
  have g2 : ∀ x, lo + 1 + B.length + 1 ≤ x → glue lo (fun _ => d + 1) (glue (lo + 1 + B.length) D1 D2) x = D2 x := fun x h1 => by rw [glue_gt (by lia), glue_gt (by lia)]
  refine ⟨⟨glue lo (fun _ => d + 1) (glue (lo + 1 + B.length) D1 D2), g0, ?_, fun i q hq => ?_⟩, fun q hq => ?_⟩
  · rw [hl, g2 _ (by lia), hu]; exact b2
  · rw [hl]
    cases i with
    | zero =>
      simp at hq; subst hq
      refine RR.jmp ⟨by lia, by lia, ?_⟩
      rw [if_neg (by rcases hj with rfl | rfl | rfl <;> decide), show lo + 0 = lo from rfl, g0, g1 _ (by lia) (by lia), g2 _ (by lia), a1, ht, b1]
      rcases hj with rfl | rfl | rfl <;> simp [J.pops]
    | succ i =>
      simp only [List.getElem?_cons_succ] at hq
      rcases Nat.lt_or_ge i B.length with hi | hi
      · rw [List.getElem?_append_left hi] at hq
        have := (a3 i q hq).congr (D' := glue lo (fun _ => d + 1) (glue (lo + 1 + B.length) D1 D2)) (lo' := lo) (hi' := u) (fun x h1 h2 => g1 x h1 h2) (by lia) (by lia) (by lia) (by lia)
        rwa [show lo + 1 + i = lo + (i + 1) by lia] at this
      · rw [List.getElem?_append_right hi] at hq
        rcases Nat.eq_zero_or_pos (i - B.length) with h0 | h0
        · rw [h0] at hq
          simp at hq; subst hq
          have hi' : i = B.length := by lia
          refine RR.jmp ⟨by lia, by lia, ?_⟩
          rw [if_pos rfl, g2 _ (by lia), g1 _ (by lia) (by lia), hu, b2, hi', show lo + (B.length + 1) = lo + 1 + B.length by lia, a2]
        · obtain ⟨m, hm⟩ : ∃ m, i - B.length = m + 1 := ⟨i - B.length - 1, by lia⟩
          rw [hm, List.getElem?_cons_succ] at hq
          have hml := (List.getElem?_eq_some_iff.mp hq).1
          have := (b3 m q hq).congr (D' := glue lo (fun _ => d + 1) (glue (lo + 1 + B.length) D1 D2)) (lo' := lo) (hi' := u) (fun x h1 h2 => g2 x h1) (by lia) (by lia) (by lia) (by lia)
          rwa [show lo + 1 + B.length + 1 + m = lo + (i + 1) by lia] at this
  · rcases List.mem_cons.mp hq with h | h
    · cases h; exact jmp_ok
    · rcases List.mem_append.mp h with h | h
      · exact hB.ok q h
      · rcases List.mem_cons.mp h with h | h
        · cases h; exact jmp_ok
        · exact hC.ok q h
/-! ## the whole -/
structure PSeg (K : Nat) (R : List SR) (sts : List Nat) : Prop where
  ex : ∃ D : Nat → Nat, D 0 = 0 ∧ D R.length = 0 ∧ (∀ (i : Nat) (r : SR), R[i]? = some r → RT D 0 R.length K i r) ∧ ∀ s ∈ sts, s ≤ R.length ∧ D s = 0
  ok : ∀ q, SR.row q ∈ R → RowOk 7 q
theorem PSeg.start {K : Nat} : PSeg K [] [] := ⟨⟨fun _ => 0, rfl, rfl, by simp, by simp⟩, by simp⟩
theorem PSeg.mark {K : Nat} {R : List SR} {sts : List Nat} (h : PSeg K R sts) : PSeg K R (sts ++ [R.length]) := by
  obtain ⟨D, a, b, c, d⟩ := h.ex
  refine ⟨⟨D, a, b, c, fun s hs => ?_⟩, h.ok⟩
  rcases List.mem_append.mp hs with hs | hs
  · exact d s hs
  · simp at hs; subst hs; exact ⟨Nat.le_refl _, b⟩
theorem PSeg.add {K : Nat} {R S : List SR} {sts : List Nat} (h : PSeg K R sts) (hS : Seg K R.length S 0 0) : PSeg K (R ++ S) sts := by
  obtain ⟨D1, a1, a2, a3, a4⟩ := h.ex
  obtain ⟨D2, b1, b2, b3⟩ := hS.ex
  have hl : (R ++ S).length = R.length + S.length := by simp
  have ee : D1 R.length = D2 R.length := a2.trans b1.symm
  refine ⟨⟨glue R.length D1 D2, ?_, ?_, fun i r hr => ?_, fun s hs => ?_⟩, fun q hq => ?_⟩
  · rw [glue_le (by lia)]; exact a1
  · rw [hl, glue_ge ee (by lia)]; exact b2
  · rw [hl]
    rcases Nat.lt_or_ge i R.length with hi | hi
    · rw [List.getElem?_append_left hi] at hr
      exact (a3 i r hr).congr (fun x h1 h2 => glue_le h2) (by lia) (by lia) (by lia) (by lia)
    · rw [List.getElem?_append_right hi] at hr
      have hsl := (List.getElem?_eq_some_iff.mp hr).1
      have := (b3 _ r hr).congr (D' := glue R.length D1 D2) (lo' := 0) (hi' := R.length + S.length) (fun x h1 h2 => glue_ge ee h1) (by lia) (by lia) (by lia) (by lia)
      rwa [show R.length + (i - R.length) = i by lia] at this
  · obtain ⟨x1, x2⟩ := a4 s hs
    rw [hl, glue_le x1]
    exact ⟨by lia, x2⟩
  · rcases List.mem_append.mp hq with z | z
    · exact h.ok q z
    · exact hS.ok q z
noncomputable def SR.res (sts : List Nat) : SR → Row
  | .row r => r
  | .to j k => .jmp j (sts.getD k 0)
theorem safe_inv {C : Code} {I : St → Prop} (h : ∀ s, I s → ∃ o, step C s = some o ∧ ∀ t τ, o = .go t τ → I t) : ∀ (n : Nat) (s : St), I s → run C n s ≠ none
  | 0, s, _ => by simp [run]
  | n + 1, s, hi => by
    obtain ⟨o, ho, ht⟩ := h s hi
    cases o with
    | fin e => rw [run_end ho]; exact nofun
    | go t τ =>
      rw [run_step ho]
      have := safe_inv h n t (ht t τ rfl)
      cases e : run C n t with
      | none => exact absurd e this
      | some p => simp
noncomputable def codeOf (R : List SR) (sts : List Nat) : List Row := (R ++ [SR.row .ret0]).map (SR.res sts)
theorem code_get {R : List SR} {sts : List Nat} {i : Nat} {r : Row} (h : (codeOf R sts)[i]? = some r) : (∃ q, R[i]? = some q ∧ r = q.res sts) ∨ (i = R.length ∧ r = .ret0) := by
  unfold codeOf at h
  rw [List.getElem?_map] at h
  rcases Nat.lt_or_ge i R.length with hi | hi
  · rw [List.getElem?_append_left hi, List.getElem?_eq_getElem hi] at h
    simp at h
    exact .inl ⟨_, List.getElem?_eq_getElem hi, h.symm⟩
  · rw [List.getElem?_append_right hi] at h
    cases e : i - R.length with
    | zero => rw [e] at h; simp [SR.res] at h; exact .inr ⟨by lia, h.symm⟩
    | succ k => rw [e] at h; simp at h
theorem code_len {R : List SR} {sts : List Nat} : (codeOf R sts).length = R.length + 1 := by simp [codeOf]
theorem len1 {α : Type} {l : List α} (h : 1 ≤ l.length) : ∃ x r, l = x :: r := by
  cases l with
  | nil => simp at h
  | cons x r => exact ⟨x, r, rfl⟩
theorem len2 {α : Type} {l : List α} (h : 2 ≤ l.length) : ∃ x y r, l = x :: y :: r := by
  obtain ⟨x, r, rfl⟩ := len1 (l := l) (by lia)
  obtain ⟨y, r, rfl⟩ := len1 (l := r) (by simp at h; lia)
  exact ⟨x, y, r, rfl⟩
/-- what a row does to the height of the stack -/
theorem eff_len {r : Row} (hj : r.isJ = false) : ∀ {k : List Val} {l c b : Int}, r.need ≤ k.length → ∃ e, eff r k l c b = some e ∧ e.stays = true ∧ ∀ {q l' c' b' t}, e = .go q l' c' b' t → goesOn r = true ∧ q.length + r.need = k.length + r.puts := by
  have g : ∀ {r : Row} {k q : List Val} {l c b l' c' b' : Int} {t : List Tell}, eff r k l c b = some (.go q l' c' b' t) → goesOn r = true → q.length + r.need = k.length + r.puts → ∃ e, eff r k l c b = some e ∧ e.stays = true ∧ ∀ {q l' c' b' t}, e = .go q l' c' b' t → goesOn r = true ∧ q.length + r.need = k.length + r.puts :=
    fun h1 h2 h3 => ⟨_, h1, rfl, fun e => by cases e; exact ⟨h2, h3⟩⟩
  cases r with
  | jmp j t => exact nomatch hj
  | ret0 => intro k l c b _; exact ⟨_, rfl, rfl, nofun⟩
  | ret1 => intro k l c b h; obtain ⟨x, q, rfl⟩ := len1 h; exact ⟨_, rfl, rfl, nofun⟩
  | bin o =>
    intro k l c b h
    obtain ⟨y, x, q, rfl⟩ := len2 h
    cases e : binV o x y with
    | none => exact ⟨_, congrArg (fun z => some (Eff.bn l c b q z)) e, rfl, nofun⟩
    | some v => exact g (congrArg (fun z => some (Eff.bn l c b q z)) e) rfl rfl
  | func f x y => intro k l c b h; obtain ⟨x, q, rfl⟩ := len1 h; cases f <;> exact g rfl rfl rfl
  | xor => intro k l c b h; obtain ⟨y, x, q, rfl⟩ := len2 h; exact g rfl rfl rfl
  | swap => intro k l c b h; obtain ⟨y, x, q, rfl⟩ := len2 h; exact g rfl rfl rfl
  | _ => first
    | (intro k l c b _; exact g rfl rfl rfl)
    | (intro k l c b h; obtain ⟨x, q, rfl⟩ := len1 h; exact g rfl rfl rfl)
/-- a row that stands right goes on -/
theorem RR.exec {D : Nat → Nat} {hi i : Nat} {r : Row} (h : RR D 0 hi i r) (hi' : i < hi) {s : St} (hl : s.stk.length = D i) (ha : s.at' = i + 1) :
    ∃ o, exec r s = some o ∧ ∀ t τ, o = .go t τ → t.at' ≤ hi ∧ t.stk.length = D t.at' := by
  obtain ⟨k, a, l, c, b⟩ := s
  have hl : k.length = D i := hl
  have ha : a = i + 1 := ha
  subst ha
  cases hJ : r.isJ with
  | false =>
    obtain ⟨h1, h2⟩ := h.n hJ
    obtain ⟨e, he, hs, hg⟩ := eff_len hJ (k := k) (l := l) (c := c) (b := b) (hl ▸ h1)
    refine ⟨_, exec_of he, fun t τ z => ?_⟩
    cases e with
    | to => exact nomatch hs
    | fin => exact nomatch z
    | go q =>
      cases z
      obtain ⟨g1, g2⟩ := hg rfl
      exact ⟨hi', Nat.add_right_cancel (g2.trans ((congrArg (· + r.puts) hl).trans (h2 g1).symm))⟩
  | true =>
    cases r with
    | jmp j t =>
      obtain ⟨_, h2, h3⟩ := h.j j t rfl
      by_cases hj : j = .jump
      · subst hj
        exact ⟨_, rfl, fun u τ e => by cases e; exact ⟨h2, hl.trans h3.symm⟩⟩
      · rw [if_neg hj] at h3
        obtain ⟨h4, h5, h6⟩ := h3
        obtain ⟨x, q, rfl⟩ := len1 (l := k) (hl ▸ h4)
        refine ⟨_, exec_of (eff_jmp hj), fun u τ e => ?_⟩
        have hq : q.length + 1 = D i := hl
        unfold Eff.br at e
        cases hso : j.so x with
        | true =>
          rw [hso] at e
          cases e
          refine ⟨h2, ?_⟩
          cases hp : j.pops with
          | true => rw [hp] at h6; exact Nat.add_right_cancel (hq.trans h6.symm)
          | false => rw [hp] at h6; exact hq.trans h6.symm
        | false => rw [hso] at e; cases e; exact ⟨hi', Nat.add_right_cancel (hq.trans h5.symm)⟩
    | _ => exact nomatch hJ
theorem RT.exec {D : Nat → Nat} {hi K i : Nat} {r : SR} {sts : List Nat} (h : RT D 0 hi K i r) (hK : sts.length = K) (hs : ∀ s ∈ sts, s ≤ hi ∧ D s = 0) (hi' : i < hi) {s : St} (hl : s.stk.length = D i) (ha : s.at' = i + 1) :
    ∃ o, exec (r.res sts) s = some o ∧ ∀ t τ, o = .go t τ → t.at' ≤ hi ∧ t.stk.length = D t.at' := by
  cases r with
  | row r => exact RR.exec h hi' hl ha
  | to j k =>
    obtain ⟨hk, h⟩ := h
    have hg : sts.getD k 0 ∈ sts := by
      rw [List.getD_eq_getElem?_getD, List.getElem?_eq_getElem (hK ▸ hk)]
      exact List.getElem_mem _
    obtain ⟨g1, g2⟩ := hs _ hg
    refine RR.exec (r := .jmp j _) (RR.jmp ⟨Nat.zero_le _, g1, ?_⟩) hi' hl ha
    rw [g2]
    by_cases hj : j = .jump
    · rw [if_pos hj] at h ⊢; exact h.symm
    · rw [if_neg hj] at h ⊢
      obtain ⟨hj', h1, h2⟩ := h
      rw [h1, h2]
      rcases hj' with rfl | rfl <;> exact ⟨Nat.le_refl _, rfl, rfl⟩
theorem good_code {K : Nat} {R : List SR} {sts : List Nat} (h : PSeg K R sts) (hK : sts.length = K) (hl : R.length ≤ 66) : Good 7 (codeOf R sts) := by
  obtain ⟨D, d1, d2, d3, d4⟩ := h.ex
  have ok : ∀ (i : Nat) (r : Row), (codeOf R sts)[i]? = some r → RowOk 7 r := fun i r e => by
    rcases code_get e with ⟨q, hq, rfl⟩ | ⟨_, rfl⟩
    · cases q with
      | row r => exact h.ok r (List.mem_of_getElem? hq)
      | to j k => exact jmp_ok
    · trivial
  refine ⟨fun n => ?_, fun i j t e => ?_, fun i r e g => ?_, fun e => ok _ _ e, by rw [code_len]; lia, by rw [code_len]; lia⟩
  · refine safe_inv (I := fun s => s.at' ≤ R.length ∧ s.stk.length = D s.at') (fun s ⟨h1, h2⟩ => ?_) n s0 ⟨by simp [s0], by simp [s0, d1]⟩
    have hn : nxt ((codeOf R sts).map some) s.at' = s.at' := nxt_map
    have hat : s.at' < (codeOf R sts).length := by rw [code_len]; lia
    have hg : (codeOf R sts)[s.at']? = some (codeOf R sts)[s.at'] := List.getElem?_eq_getElem hat
    rw [step_at hn (some_get hg)]
    rcases code_get hg with ⟨q, hq, e⟩ | ⟨e1, e⟩
    · rw [e]
      exact (d3 _ _ hq).exec hK d4 (List.getElem?_eq_some_iff.mp hq).1 h2 rfl
    · rw [e]
      exact ⟨_, rfl, fun t τ e => by cases e⟩
  · rw [code_len]
    rcases code_get e with ⟨q, hq, e⟩ | ⟨_, e⟩
    · have := d3 _ _ hq
      cases q with
      | row r =>
        unfold SR.res at e
        subst e
        exact Nat.lt_succ_of_le (RR.j this _ _ rfl).2.1
      | to j' k =>
        unfold SR.res at e
        cases e
        simp only [RT] at this
        have hg : sts.getD k 0 ∈ sts := by
          rw [List.getD_eq_getElem?_getD, List.getElem?_eq_getElem (by lia)]
          simp
        have := (d4 _ hg).1
        lia
    · cases e
  · rw [code_len]
    rcases code_get e with ⟨q, hq, _⟩ | ⟨_, rfl⟩
    · have := (List.getElem?_eq_some_iff.mp hq).1
      lia
    · cases g
end Mine
namespace Mine
theorem at_last {l : List V} {d : V} : pyAt (l ++ [d]) (-1) = some d := by
  have hl : (l ++ [d]).length = l.length + 1 := List.length_append
  unfold pyAt
  rw [if_neg (by decide), if_pos (by rw [hl]; lia), hl, show ((-1 : Int) + ((l.length + 1 : Nat) : Int)).toNat = l.length by lia]
  exact List.getElem?_concat_length
theorem rev_v (x : Val) (r : List Val) : ((x :: r).reverse.map Val.v) = r.reverse.map Val.v ++ [x.v] := by rw [List.reverse_cons, List.map_append]; rfl
noncomputable def J.s0 : J → Val → Bool
  | .ifd, x => !(x == .non)
  | .dorj, x => !(x == .non)
  | _, x => isT x
inductive S_jump (σ : Sto) (Q : V → Sto → Prop) (X : Sto → Prop) : List V → Prop
  | go (t : Nat) (a : Addr) (h : Q (.int t) σ) : S_jump σ Q X [(Row.jmp .jump t).v, .list a]
  | br (j : J) (t : Nat) (a : Addr) (x : Val) (r : List Val) (hj : j ≠ .jump) (ha : σ a = some ((x :: r).reverse.map Val.v)) (hy : j.so x = true → j.pops = true → Q (.int t) (put σ a (r.reverse.map Val.v))) (hs : j.so x = true → j.pops = false → Q (.int t) σ)
      (hn : j.so x = false → Q .non (put σ a (r.reverse.map Val.v))) : S_jump σ Q X [(Row.jmp j t).v, .list a]
inductive I18 (a : Addr) (j : J) (t : Nat) (x : Val) (s : Bool) (σ : Sto) : Loc → Sto → Prop
  | mk : I18 a j t x s σ [some (Row.jmp j t).v, some (.list a), some x.v, some (.bool s)] σ
theorem f_jump {K : Ctx} (h : chkFn K.frag 367 p_law_jump n_law_jump m_law_jump = true) : FnOK K 1 (.ref 367) fun ds σ Q X => S_jump σ Q X ds := fnPure h fun ds σ Q X hS => by
  induction hS with
  | go t a hq =>
    refine ⟨rfl, ?_⟩
    (repeat first | walk_at "go" | refine ix_r0 ?_ | refine ⟨rfl, ?_⟩ | refine ⟨len_ok rfl, ?_⟩)
    refine .t ?_
    (repeat first | walk_at "go" | refine ix_j1 ?_ | refine ⟨rfl, ?_⟩ | refine ⟨len_ok rfl, ?_⟩)
    exact hq
  | br j t a x r hj ha hy hs hn =>
    refine ⟨rfl, ?_⟩
    rw [rev_v] at ha
    have hj28 : (j.w == 28) = false := by cases j <;> first | rfl | exact absurd rfl hj
    (repeat first | walk_at "go" | refine ix_r0 ?_ | refine ⟨rfl, ?_⟩ | refine ⟨len_ok rfl, ?_⟩)
    refine brkI (fun e => ff (hj28.symm.trans e)) fun _ => ?_
    (repeat first | walk_at "go" | refine ⟨rfl, ?_⟩ | refine ⟨len_ok rfl, ?_⟩)
    refine ⟨_, _, ha, at_last, .next ?_⟩
    refine cutS (I18 a j t x (j.s0 x) σ) (fun ρ σ' hI => ?_) fun hc => ?_
    · cases hI
      refine cutS (I18 a j t x (j.so x) σ) (fun ρ σ' hI => ?_) fun hc => ?_
      · cases hI
        refine cutS (fun ρ σ' => I18 a j t x (j.so x) σ' ρ σ' ∧ (j.so x = true → Q (.int t) σ') ∧ (j.so x = false → Q .non σ')) (fun ρ σ' hI => ?_) fun hc => ?_
        · obtain ⟨hI, h1, h2⟩ := hI
          cases hI
          (repeat first | walk_at "go" | refine ⟨rfl, ?_⟩ | refine ⟨len_ok rfl, ?_⟩)
          refine ifI (fun e => ?_) (fun e => ?_)
          · (repeat first | walk_at "go" | refine ix_j1 ?_ | refine ⟨rfl, ?_⟩ | refine ⟨len_ok rfl, ?_⟩)
            exact h1 e
          · (repeat first | walk_at "go" | refine ⟨rfl, ?_⟩ | refine ⟨len_ok rfl, ?_⟩)
            exact h2 e
        · have pop : ∀ {P : V → Sto → Prop}, P x.v (put σ a (r.reverse.map Val.v)) → PopC σ a P := fun p => ⟨_, x.v, ha, List.getLast?_concat, by rw [List.dropLast_concat]; exact p⟩
          (repeat first | walk_at "go" | refine ⟨rfl, ?_⟩ | refine ⟨len_ok rfl, ?_⟩)
          refine boI_or (fun e => brkI (fun _ => ?_) fun e2 => ff (e2.symm.trans e)) (fun e => ?_)
          · (repeat first | walk_at "go" | refine ⟨rfl, ?_⟩ | refine ⟨len_ok rfl, ?_⟩)
            refine ⟨by rw [ha]; exact nofun, ?_⟩
            (repeat first | walk_at "go" | refine ⟨rfl, ?_⟩ | refine ⟨len_ok rfl, ?_⟩)
            exact pop (.next (hc _ _ ⟨.mk, fun e3 => ff ((notT e).symm.trans e3), hn⟩))
          · (repeat first | walk_at "go" | refine ix_r0 ?_ | refine ⟨rfl, ?_⟩ | refine ⟨len_ok rfl, ?_⟩)
            refine brkI (fun e2 => ?_) fun e2 => hc _ _ ⟨.mk, fun e3 => hs e3 ((pops_w hj).symm.trans e2), fun e3 => ff (e3.symm.trans (notF e))⟩
            (repeat first | walk_at "go" | refine ⟨rfl, ?_⟩ | refine ⟨len_ok rfl, ?_⟩)
            refine ⟨by rw [ha]; exact nofun, ?_⟩
            (repeat first | walk_at "go" | refine ⟨rfl, ?_⟩ | refine ⟨len_ok rfl, ?_⟩)
            exact pop (.next (hc _ _ ⟨.mk, fun e3 => hy e3 ((pops_w hj).symm.trans e2), fun e3 => ff (e3.symm.trans (notF e))⟩))
      · cases j with
        | jump => exact absurd rfl hj
        | iff => exact oB (ix_r0 ⟨len_ok rfl, oB (.t (.next (hc _ _ .mk)))⟩)
        | andj => exact oB (ix_r0 ⟨len_ok rfl, oB (.t (.next (hc _ _ .mk)))⟩)
        | _ => exact oB (ix_r0 ⟨len_ok rfl, oB (.f (hc _ _ .mk))⟩)
    · cases j with
      | jump => exact absurd rfl hj
      | ifd => exact ⟨rfl, oB (ix_r0 ⟨len_ok rfl, oB (oB (isn_v (hc _ _ .mk)))⟩)⟩
      | dorj => exact ⟨rfl, oB (ix_r0 ⟨len_ok rfl, oB (oB (isn_v (hc _ _ .mk)))⟩)⟩
      | _ => exact ⟨rfl, oB (ix_r0 ⟨len_ok rfl, oB ⟨len_ok rfl, oB (cni_f (hc _ _ .mk))⟩⟩)⟩
end Mine
namespace Mine
/-! ## how large things grow -/
structure StOk (b k : Nat) (s : St) : Prop where
  stk : ∀ x ∈ s.stk, ValOk (b + k) x
  sc : s.sc.natAbs ≤ k
  bg : s.bg.natAbs ≤ k
  ln : s.ln.natAbs ≤ 9
  len : s.stk.length ≤ k
noncomputable def TellOk (b k : Nat) (t : Tell) : Prop := ValOk (b + k) t.x ∧ t.sc.natAbs ≤ k ∧ t.bg.natAbs ≤ k
noncomputable def FinOk (b k : Nat) : Fin → Prop
  | .died l => l.natAbs ≤ 9
  | .done x => ValOk (b + k) x
/-- what a row leaves behind holds no more than it should -/
inductive EffOk (b n : Nat) (l c d : Int) : Eff → Prop
  | go {q : List Val} {l' c' d' : Int} {t : List Tell} (h : ∀ x ∈ q, ValOk b x) (hn : q.length ≤ n + 1) (hl : l'.natAbs ≤ 9) (hc : c'.natAbs ≤ c.natAbs + 1) (hd : d'.natAbs ≤ d.natAbs + 1) (ht : t.length ≤ 1) (hx : ∀ x ∈ t, ValOk b x.x ∧ x.sc = c ∧ x.bg = d) : EffOk b n l c d (.go q l' c' d' t)
  | to {q : List Val} {u : Nat} (h : ∀ x ∈ q, ValOk b x) (hn : q.length ≤ n + 1) : EffOk b n l c d (.to q l c d u)
  | died : EffOk b n l c d (.fin (.died l))
  | done {x : Val} (h : ValOk b x) : EffOk b n l c d (.fin (.done x))
theorem eff_ok {b : Nat} (hb : 7 ≤ b) {r : Row} {k : List Val} {l c d : Int} (hk : ∀ x ∈ k, ValOk b x) (hr : RowOk b r) (hl : l.natAbs ≤ 9) : ∀ {e : Eff}, eff r k l c d = some e → EffOk (b + 1) k.length l c d e := by
  have up : ∀ {x : Val}, x ∈ k → ValOk (b + 1) x := fun hx => (hk _ hx).up (Nat.le_succ b)
  have c1 : c.natAbs ≤ c.natAbs + 1 := Nat.le_succ _
  have d1 : d.natAbs ≤ d.natAbs + 1 := Nat.le_succ _
  have no : ∀ x ∈ ([] : List Tell), ValOk (b + 1) x.x ∧ x.sc = c ∧ x.bg = d := fun _ h => nom h
  have pl : ∀ {q : List Val}, (∀ x ∈ q, ValOk (b + 1) x) → q.length ≤ k.length + 1 → EffOk (b + 1) k.length l c d (.go q l c d []) := fun h hn => .go h hn hl c1 d1 (Nat.zero_le _) no
  have two : ∀ {x : Val} {q : List Val}, ValOk (b + 1) x → (∀ y ∈ q, y ∈ k) → q.length ≤ k.length → EffOk (b + 1) k.length l c d (.go (x :: q) l c d []) := fun hx h hn => pl (fun y hy => (List.mem_cons.mp hy).elim (fun z => z ▸ hx) fun z => up (h y z)) (Nat.succ_le_succ hn)
  have tup : ∀ {l' c' d' : Int}, l'.natAbs ≤ 9 → c'.natAbs ≤ c.natAbs + 1 → d'.natAbs ≤ d.natAbs + 1 → EffOk (b + 1) k.length l c d (.go k l' c' d' []) := fun h1 h2 h3 => .go (fun x => up) (Nat.le_succ _) h1 h2 h3 (Nat.zero_le _) no
  intro e h
  cases r with
  | const v => cases h; exact two (ValOk.up hr (Nat.le_succ b)) (fun y z => z) (Nat.le_refl _)
  | line n => cases h; exact tup hr c1 d1
  | enter => cases h; exact tup hl (Int.natAbs_add_le c 1) d1
  | leave => cases h; exact tup hl (Int.natAbs_add_le c (-1)) d1
  | begin => cases h; exact tup hl c1 (Int.natAbs_add_le d 1)
  | settle => cases h; exact tup hl c1 (Int.natAbs_add_le d (-1))
  | ret0 => cases h; exact .done trivial
  | ret1 => obtain ⟨x, q, rfl, h2⟩ := pop1_some h; cases h2; exact .done (up (.head _))
  | bin o =>
    obtain ⟨y, q, rfl, h2⟩ := pop1_some h
    obtain ⟨x, q, rfl, h3⟩ := pop1_some h2
    cases e : binV o x y with
    | none => rw [e] at h3; cases h3; exact .died
    | some v => rw [e] at h3; cases h3; exact two (bin_ok hb (hk _ (.tail _ (.head _))) (hk _ (.head _)) e) (fun y z => .tail _ (.tail _ z)) (Nat.le_add_right _ 2)
  | xor => obtain ⟨y, q, rfl, h2⟩ := pop1_some h; obtain ⟨x, q, rfl, h3⟩ := pop1_some h2; cases h3; exact two xor_ok (fun y z => .tail _ (.tail _ z)) (Nat.le_add_right _ 2)
  | swap => obtain ⟨y, q, rfl, h2⟩ := pop1_some h; obtain ⟨x, q, rfl, h3⟩ := pop1_some h2; cases h3; exact two (up (.tail _ (.head _))) (fun z hz => (List.mem_cons.mp hz).elim (fun z => z ▸ .head _) fun z => .tail _ (.tail _ z)) (Nat.le_succ _)
  | un o => obtain ⟨x, q, rfl, h2⟩ := pop1_some h; cases h2; exact two (un_ok hb (hk _ (.head _))) (fun y z => .tail _ z) (Nat.le_succ _)
  | text => obtain ⟨x, q, rfl, h2⟩ := pop1_some h; cases h2; exact two (txt_ok (hk _ (.head _))) (fun y z => .tail _ z) (Nat.le_succ _)
  | drop => obtain ⟨x, q, rfl, h2⟩ := pop1_some h; cases h2; exact pl (fun y z => up (.tail _ z)) (Nat.le_add_right _ 2)
  | dup => obtain ⟨x, q, rfl, h2⟩ := pop1_some h; cases h2; exact two (up (.head _)) (fun y z => z) (Nat.le_refl _)
  | func f x' y' =>
    obtain ⟨x, q, rfl, h2⟩ := pop1_some h
    cases h2
    have hx := up (.head _)
    have hf : (∀ z ∈ (if f = .tick then x :: q else q), ValOk (b + 1) z) ∧ (if f = .tick then x :: q else q).length ≤ q.length + 1 + 1 := by
      cases f with
      | tick => exact ⟨fun z => up, Nat.le_succ _⟩
      | print => exact ⟨fun z hz => up (.tail _ hz), Nat.le_add_right _ 2⟩
    exact .go hf.1 hf.2 hl c1 d1 (Nat.le_refl _) fun t ht => by cases List.mem_singleton.mp ht; exact ⟨hx, rfl, rfl⟩
  | jmp j t =>
    by_cases hj : j = .jump
    · subst hj; cases h; exact .to (fun x => up) (Nat.le_succ _)
    · obtain ⟨x, q, rfl, h2⟩ := pop1_some ((eff_jmp hj).symm.trans h)
      unfold Eff.br at h2
      cases hs : j.so x with
      | false => rw [hs] at h2; cases h2; exact pl (fun y z => up (.tail _ z)) (Nat.le_add_right _ 2)
      | true =>
        rw [hs] at h2
        cases h2
        cases j.pops with
        | true => exact .to (fun y z => up (.tail _ z)) (Nat.le_add_right _ 2)
        | false => exact .to (fun y => up) (Nat.le_succ _)
theorem exec_ok {b k : Nat} (hb : 7 ≤ b) {r : Row} {s : St} (hs : StOk b k s) (hr : RowOk b r) : ∀ {o : Out}, exec r s = some o →
    match o with
    | .go t τ => StOk b (k + 1) t ∧ τ.length ≤ 1 ∧ ∀ x ∈ τ, TellOk b (k + 1) x
    | .fin e => FinOk b (k + 1) e := by
  intro o h
  obtain ⟨e, _, he, rfl⟩ := exec_eff h
  have h2 := hs.sc
  have h3 := hs.bg
  have h4 := Nat.succ_le_succ hs.len
  cases eff_ok (b := b + k) (Nat.le_add_right_of_le hb) hs.stk (hr.mono (Nat.le_add_right _ _)) hs.ln he with
  | go hv hn hl hc hd ht hx => exact ⟨⟨hv, Nat.le_trans hc (Nat.succ_le_succ h2), Nat.le_trans hd (Nat.succ_le_succ h3), hl, Nat.le_trans hn h4⟩, ht, fun x z => by obtain ⟨a, e1, e2⟩ := hx x z; exact ⟨a, e1 ▸ Nat.le_succ_of_le h2, e2 ▸ Nat.le_succ_of_le h3⟩⟩
  | to hv hn => exact ⟨⟨hv, Nat.le_succ_of_le h2, Nat.le_succ_of_le h3, hs.ln, Nat.le_trans hn h4⟩, Nat.zero_le _, fun _ h => nom h⟩
  | died => exact hs.ln
  | done hv => exact hv
theorem s0_ok {b : Nat} : StOk b 0 s0 := ⟨by simp [s0], by simp [s0], by simp [s0], by simp [s0], by simp [s0]⟩
theorem run_snoc {C : Code} {k : Nat} {s u t : St} {τ σ : List Tell} (h : run C k s = some (τ, .inl u)) (hs : step C u = some (.go t σ)) : run C (k + 1) s = some (τ ++ σ, .inl t) := by
  rw [run_go h, run_one hs]; rfl
theorem run_snocF {C : Code} {k : Nat} {s u : St} {τ : List Tell} {e : Fin} (h : run C k s = some (τ, .inl u)) (hs : step C u = some (.fin e)) : run C (k + 1) s = some (τ, .inr e) := by
  rw [run_go h, run_end hs]; simp
/-- all that a run holds -/
theorem run_ok {b : Nat} {P : List Row} (g : Good b P) (hb : 7 ≤ b) : ∀ (n k : Nat) (s : St) (τ : List Tell) (r : St ⊕ Fin), StOk b k s → run (P.map some) n s = some (τ, r) →
    τ.length ≤ n ∧ (∀ x ∈ τ, TellOk b (k + n) x) ∧ match r with
      | .inl t => StOk b (k + n) t
      | .inr e => FinOk b (k + n) e
  | 0, k, s, τ, r, hs, h => by
    simp only [run, Option.some.injEq, Prod.mk.injEq] at h
    obtain ⟨rfl, rfl⟩ := h
    exact ⟨by simp, by simp, hs⟩
  | n + 1, k, s, τ, r, hs, h => by
    have tup : ∀ {x : Tell} {i j : Nat}, i ≤ j → TellOk b i x → TellOk b j x := fun hij ⟨a, c, d⟩ => ⟨a.up (by lia), by lia, by lia⟩
    cases e : step (P.map some) s with
    | none => rw [run_none e] at h; cases h
    | some o =>
      obtain ⟨r0, hr0, he⟩ := step_inv e
      obtain ⟨r1, hr1, hr2⟩ := some_inv hr0
      cases hr1
      have hs' : StOk b k { s with at' := nxt (P.map some) s.at' + 1 } := ⟨hs.stk, hs.sc, hs.bg, hs.ln, hs.len⟩
      have ok := exec_ok hb hs' (g.row hr2) he
      cases o with
      | fin f =>
        rw [run_end e] at h
        simp only [Option.some.injEq, Prod.mk.injEq] at h
        obtain ⟨rfl, rfl⟩ := h
        refine ⟨by simp, by simp, ?_⟩
        cases f with
        | died l => exact ok
        | done x => exact ValOk.up ok (by lia)
      | go t σ =>
        rw [run_step e] at h
        obtain ⟨o1, o2, o3⟩ := ok
        cases e2 : run (P.map some) n t with
        | none => rw [e2] at h; cases h
        | some p =>
          rw [e2] at h
          simp only [Option.map_some, Option.some.injEq, Prod.mk.injEq] at h
          obtain ⟨rfl, rfl⟩ := h
          obtain ⟨a, c, d⟩ := run_ok g hb n (k + 1) t p.1 p.2 o1 e2
          refine ⟨by simp; lia, fun x hx => ?_, ?_⟩
          · rcases List.mem_append.mp hx with hx | hx
            · exact tup (by lia) (o3 x hx)
            · exact tup (by lia) (c x hx)
          · rw [show k + (n + 1) = k + 1 + n by lia]; exact d
end Mine
namespace Mine
noncomputable def Tell.v (t : Tell) : V := .tup [.str t.f.w, t.x.v, .int t.sc, .int t.bg]
noncomputable def Fin.v : Fin → V
  | .died ln => .tup [.str 45, .int ln]
  | .done x => .tup [.str 46, x.v]
noncomputable def endV : St ⊕ Fin → V
  | .inl _ => .non
  | .inr e => e.v
theorem ix_f1 {f : FW} {a b : Int} {σ : Sto} {Q : V → Prop} (h : Q (.str f.w)) : vIdx (Row.func f a b).v (.int 1) σ Q := ⟨_, by decide, by decide, rfl, h⟩
theorem ix_l1 {n : Int} {σ : Sto} {Q : V → Prop} (h : Q (.int n)) : vIdx (Row.line n).v (.int 1) σ Q := ⟨_, by decide, by decide, rfl, h⟩
noncomputable def wTab : List Nat := [0, 99, 6, 99, 5, 7, 8, 9, 10, 11, 12, 14, 14, 14, 14, 14, 14, 14, 1, 2, 3, 4, 13, 99, 99, 15, 16]
noncomputable def wIx (n : Nat) : Option Nat := wTab[n - 17]?
theorem wix (r : Row) : wIx r.w = some r.ctorIdx := by
  cases r with
  | jmp j t => cases j <;> rfl
  | _ => rfl
theorem wq {r : Row} {n k : Nat} (e : (r.w == n) = true) (h : wIx n = some k) : r.ctorIdx = k := Option.some.inj ((wix r).symm.trans ((congrArg wIx (eq_of_beq e)).trans h))
theorem wq' {r : Row} {n k : Nat} (e : (n == r.w) = true) (h : wIx n = some k) : r.ctorIdx = k := Option.some.inj ((wix r).symm.trans ((congrArg wIx (eq_of_beq e).symm).trans h))
theorem orE {a b : Bool} {P : Prop} (h : (a || b) = true) (f : a = true → P) (g : b = true → P) : P := (Bool.or_eq_true_iff.mp h).elim f g
theorem nof {α : Type} {P : Prop} {o : α} (h : none = some o) : P := nomatch h
theorem rev_v2 (x y : Val) (r : List Val) : ((x :: y :: r).reverse.map Val.v) = r.reverse.map Val.v ++ [y.v, x.v] := by rw [rev_v, rev_v, List.append_assoc]; rfl
theorem at_m1 {L : List V} {x y : V} : pyAt (L ++ [x, y]) (-1) = some y := by
  rw [show L ++ [x, y] = (L ++ [x]) ++ [y] by rw [List.append_assoc]; rfl]; exact at_last
theorem at_m2 {L : List V} {x y : V} : pyAt (L ++ [x, y]) (-2) = some x := by
  have hl : (L ++ [x, y]).length = L.length + 2 := List.length_append
  unfold pyAt
  rw [if_neg (by decide), if_pos (by rw [hl]; lia), hl, show ((-2 : Int) + ((L.length + 2 : Nat) : Int)).toNat = L.length by lia, List.getElem?_append_right (Nat.le_refl _), Nat.sub_self]; rfl
theorem cut_m2 {L : List V} {x y : V} : (L ++ [x, y]).take (cutAt (-2) (L ++ [x, y]).length) = L := by
  have hl : (L ++ [x, y]).length = L.length + 2 := List.length_append
  rw [hl, show cutAt (-2) (L.length + 2) = L.length by unfold cutAt; rw [if_pos (by decide)]; lia]
  exact List.take_left
/-- a row that makes a value of what lies on top -/
theorem exec_made {r : Row} {s : St} (h0 : r.arity ≠ 0) (h : exec r s ≠ none) : ∃ vs q, vs.length = r.arity ∧ s.stk = vs.reverse ++ q ∧ (∀ v, r.made vs = some v → exec r s = some (.go { s with stk := v :: q } [])) ∧ (r.made vs = none → exec r s = some (.fin (.died s.ln))) := by
  obtain ⟨stk, a, b, c, d⟩ := s
  have two : ∀ {x y : Val} {q : List Val}, y :: x :: q = [x, y].reverse ++ q := rfl
  cases r with
  | bin o =>
    match stk, h with
    | [], h => exact absurd rfl h
    | [_], h => exact absurd rfl h
    | y :: x :: q, _ => exact ⟨[x, y], q, rfl, rfl, fun v e => congrArg (fun z => some (Eff.out a (.bn b c d q z))) (show binV o x y = some v from e), fun e => congrArg (fun z => some (Eff.out a (.bn b c d q z))) (show binV o x y = none from e)⟩
  | xor =>
    match stk, h with
    | [], h => exact absurd rfl h
    | [_], h => exact absurd rfl h
    | y :: x :: q, _ => exact ⟨[x, y], q, rfl, rfl, fun v e => by cases e; rfl, nofun⟩
  | un o =>
    match stk, h with
    | [], h => exact absurd rfl h
    | x :: q, _ => exact ⟨[x], q, rfl, rfl, fun v e => by cases e; rfl, nofun⟩
  | text =>
    match stk, h with
    | [], h => exact absurd rfl h
    | x :: q, _ => exact ⟨[x], q, rfl, rfl, fun v e => by cases e; rfl, nofun⟩
  | _ => exact absurd rfl h0
theorem step_of {P : List Row} {r : Row} {s : St} {o : Out} (hr : P[s.at']? = some r) (h : exec r { s with at' := s.at' + 1 } = some o) : step (P.map some) s = some o := (step_at (k := s.at') nxt_map (some_get hr)).trans h
theorem ar_2 {r : Row} (h : (35 == r.w || 36 == r.w) = true) : r.arity = 2 :=
  orE h (fun e => Row.bin.elim (motive := fun r => r.arity = 2) r (wq' e rfl) fun _ => rfl) fun e => Row.xor.elim (motive := fun r => r.arity = 2) r (wq' e rfl) rfl
theorem ar_1 {r : Row} (h : (35 == r.w || (37 == r.w || (38 == r.w || 36 == r.w))) = true) (h2 : (35 == r.w || 36 == r.w) = false) : r.arity = 1 :=
  orE h (fun e => ff (h2.symm.trans (Bool.or_eq_true_iff.mpr (.inl e)))) fun h => orE h (fun e => Row.un.elim (motive := fun r => r.arity = 1) r (wq' e rfl) fun _ => rfl) fun h => orE h (fun e => Row.text.elim (motive := fun r => r.arity = 1) r (wq' e rfl) rfl) fun e => ff (h2.symm.trans (Bool.or_eq_true_iff.mpr (.inr e)))
theorem ar_in {r : Row} (h : (35 == r.w || (37 == r.w || (38 == r.w || 36 == r.w))) = true) : r.arity ≠ 0 := by
  cases e : (35 == r.w || 36 == r.w) with
  | true => rw [ar_2 e]; exact nofun
  | false => rw [ar_1 h e]; exact nofun
section
variable {L M : List V} {n : Nat}
theorem cut_at (h : M.length = n) : cutAt (((L ++ M).length : Int) - (n : Int)) (L ++ M).length = L.length := by
  rw [List.length_append, h, cut_sub (Nat.le_add_left _ _), Nat.add_sub_cancel]
theorem cut_dr (h : M.length = n) : (L ++ M).drop (cutAt (((L ++ M).length : Int) - (n : Int)) (L ++ M).length) = M := by rw [cut_at h]; exact List.drop_left
theorem cut_tk (h : M.length = n) : (L ++ M).take (cutAt (((L ++ M).length : Int) - (n : Int)) (L ++ M).length) = L := by rw [cut_at h]; exact List.take_left
theorem cut_bg (h : M.length = n) (hl : L.length ≤ 60) : BigI (((L ++ M).length : Int) - (n : Int)) := by rw [List.length_append, h]; constructor <;> lia
end
structure F19 (σ : Sto) (P : List Row) (k : Nat) (s : St) (τ : List Tell) (cs ct : Addr) (σ' : Sto) : Prop where
  x : Ext σ σ'
  hs : σ' cs = some (s.stk.reverse.map Val.v)
  ht : σ' ct = some (τ.map Tell.v)
  ns : σ cs = none
  nt : σ ct = none
  ne : cs ≠ ct
  run : run (P.map some) k s0 = some (τ, .inl s)
inductive I19 (σ : Sto) (P : List Row) (a : Addr) (k : Nat) : Loc → Sto → Prop
  | mk (s : St) (τ : List Tell) (cs ct : Addr) (x2 x9 x10 x11 x12 x13 : Option V) {σ' : Sto} (f : F19 σ P k s τ cs ct σ') :
    I19 σ P a k [some (.list a), some (.int 60), x2, some (.list cs), some (.list ct), some (.int (s.at' : Nat)), some (.int s.ln), some (.int s.sc), some (.int s.bg), x9, x10, x11, x12, x13] σ'
theorem F19.next {σ : Sto} {P : List Row} {a : Addr} {k : Nat} {s t : St} {τ τ' : List Tell} {cs cs' ct : Addr} {σ' σ2 : Sto} {x2 x9 x10 x11 x12 x13 : Option V} (f : F19 σ P k s τ cs ct σ') (h : step (P.map some) s = some (.go t τ')) (hx : Ext σ σ2) (hs : σ2 cs' = some (t.stk.reverse.map Val.v))
    (ht : σ2 ct = some ((τ ++ τ').map Tell.v)) (hn : σ cs' = none) (hne : cs' ≠ ct) : I19 σ P a (k + 1) [some (.list a), some (.int 60), x2, some (.list cs'), some (.list ct), some (.int (t.at' : Nat)), some (.int t.ln), some (.int t.sc), some (.int t.bg), x9, x10, x11, x12, x13] σ2 :=
  .mk t _ cs' ct _ _ _ _ _ _ ⟨hx, hs, ht, hn, f.nt, hne, run_snoc f.run h⟩
/-- a step that leaves what is told -/
theorem F19.go {σ : Sto} {P : List Row} {a : Addr} {k : Nat} {s t : St} {τ : List Tell} {cs cs' ct : Addr} {σ' σ2 : Sto} {x2 x9 x10 x11 x12 x13 : Option V} (f : F19 σ P k s τ cs ct σ') (h : step (P.map some) s = some (.go t [])) (hx : Ext σ σ2) (hs : σ2 cs' = some (t.stk.reverse.map Val.v))
    (ht : σ2 ct = σ' ct) (hn : σ cs' = none) (hne : cs' ≠ ct) : I19 σ P a (k + 1) [some (.list a), some (.int 60), x2, some (.list cs'), some (.list ct), some (.int (t.at' : Nat)), some (.int t.ln), some (.int t.sc), some (.int t.bg), x9, x10, x11, x12, x13] σ2 :=
  f.next h hx hs (by rw [ht, List.append_nil]; exact f.ht) hn hne
inductive S_run (σ : Sto) (Q : V → Sto → Prop) (X : Sto → Prop) : List V → Prop
  | mk (a : Addr) (P : List Row) (b : Nat) (ha : σ a = some (P.map Row.v)) (g : Good b P) (h7 : 7 ≤ b) (h8 : b ≤ 800) (h : ∀ ct σ' τ r, Ext σ σ' → σ ct = none → σ' ct = some (τ.map Tell.v) → run (P.map some) 60 s0 = some (τ, r) → Q (.tup [.list ct, endV r]) σ') : S_run σ Q X [.list a, .int 60]
theorem f_run {K : Ctx} {nf : Nat} (hnf : 1 ≤ nf) (hj : FnOK K 1 (.ref 367) fun ds σ Q X => S_jump σ Q X ds) (hcomp : FnOK K nf (.ref 360) fun ds σ Q X => S_comp σ Q X ds)
    (h : chkFn K.frag 374 p_law_run n_law_run m_law_run = true) : FnOK K (nf + 1) (.ref 374) fun ds σ Q X => S_run σ Q X ds := fnPure h fun ds σ Q X hS => by
  induction hS with | mk a P b ha g h7 h8 hq => ?_
  refine ⟨rfl, ?_⟩
  have hlen := g.len
  (repeat first | walk_at "go" | refine ⟨rfl, ?_⟩ | refine ⟨len_ok rfl, ?_⟩)
  refine fun cs hcs => ?_
  (repeat first | walk_at "go" | refine ⟨rfl, ?_⟩ | refine ⟨len_ok rfl, ?_⟩)
  refine fun ct hct => ?_
  have hst : cs ≠ ct := Ext.ne (put_self _ _ _) hct
  (repeat first | walk_at "go" | refine ⟨rfl, ?_⟩ | refine ⟨len_ok rfl, ?_⟩)
  refine ⟨big_n (n := 60) (by decide), ?_⟩
  (repeat first | walk_at "go" | refine ⟨rfl, ?_⟩ | refine ⟨len_ok rfl, ?_⟩)
  refine for_rng (n := 60) (I19 σ P a) rfl noX (by decide) (.mk s0 [] cs ct none none none none none none ⟨(Ext.new hcs).trans (Ext.new hct), (put_ne hst).trans (put_self _ _ _), put_self _ _ _, hcs, (Ext.new hcs).none hct, hst, rfl⟩) (fun k ρ σ' hk hI => ?_) (fun ρ σ' hI => ?_)
  · induction hI with | @mk s τ cs ct x2 x9 x10 x11 x12 x13 σ' f => ?_
    obtain ⟨o, hstep⟩ := (g.safe.go f.run).step
    obtain ⟨r0, hr0, hex⟩ := step_inv hstep
    rw [nxt_map] at hr0 hex
    obtain ⟨r, hr1, hr⟩ := some_inv hr0
    cases hr1
    clear hstep hr0
    have ok := run_ok g h7 k 0 s0 τ (.inl s) s0_ok f.run
    have hsl : s.stk.length ≤ 60 := by have := ok.2.2.len; lia
    have htl : τ.length ≤ 60 := by have := ok.1; lia
    have hvl : ∀ x ∈ s.stk, ValOk 900 x := fun x hxx => (ok.2.2.stk x hxx).up (by lia)
    clear ok
    have hgo := fun (t : St) (τ' : List Tell) (h : exec r0 { s with at' := s.at' + 1 } = some (.go t τ')) => step_of hr h
    have ends : ∀ (e : Fin), exec r0 { s with at' := s.at' + 1 } = some (.fin e) → ∀ {σ2 : Sto}, Ext σ σ2 → σ2 ct = some (τ.map Tell.v) → Q (.tup [.list ct, e.v]) σ2 := fun e e1 σ2 e3 e4 =>
      hq ct σ2 τ (.inr e) e3 f.nt e4 (run_fin (run_snocF f.run (step_of hr e1)) hk)
    have hna : σ' cs ≠ none := by rw [f.hs]; exact nofun
    have hnt : σ' ct ≠ none := by rw [f.ht]; exact nofun
    have htp : ∀ {l : List V}, put σ' cs l ct = σ' ct := put_ne f.ne.symm
    have hs := f.hs
    obtain ⟨stk, at', ln, sc, bg⟩ := s
    (repeat first | walk_at "go" | refine ⟨rfl, ?_⟩ | refine ⟨len_ok rfl, ?_⟩)
    refine ⟨_, Row.v r0, f.x a _ ha, pyAt_nat.trans (mapGet hr), ?_⟩
    (repeat first | walk_at "go" | refine ix_r0 ?_ | refine ⟨rfl, ?_⟩ | refine ⟨len_ok rfl, ?_⟩)
    refine brkI (fun e1 => ?_) (fun e1 => ?_)
    · obtain ⟨v, rfl⟩ := Row.const.elim (motive := fun r => ∃ v, r = Row.const v) r0 (wq e1 rfl) fun v => ⟨v, rfl⟩
      (repeat first | walk_at "go" | refine ⟨rfl, ?_⟩ | refine ⟨len_ok rfl, ?_⟩)
      refine ⟨hna, ?_⟩
      (repeat first | walk_at "go" | refine ix_c1 ?_ | refine ⟨rfl, ?_⟩ | refine ⟨len_ok rfl, ?_⟩)
      refine ⟨_, hs, by rw [List.length_map, List.length_reverse]; exact LBle (Nat.le_trans (Nat.succ_le_succ hsl) (by decide)), ?_⟩
      (repeat first | walk_at "go" | refine ⟨rfl, ?_⟩ | refine ⟨len_ok rfl, ?_⟩)
      exact f.go (hgo _ _ rfl) (f.x.put f.ns) ((put_self _ _ _).trans (congrArg some (rev_v v stk).symm)) htp f.ns f.ne
    (repeat first | walk_at "go" | refine ix_r0 ?_ | refine ⟨rfl, ?_⟩ | refine ⟨len_ok rfl, ?_⟩)
    refine brkI (fun e2 => ?_) (fun e2 => ?_)
    · refine cutS (fun ρ σ2 => σ2 = σ' ∧ ρ = [some (.list a), some (.int 60), some (.int (k : Nat)), some (.list cs), some (.list ct), some (.int ((at' + 1 : Nat) : Int)), some (.int ln), some (.int sc), some (.int bg), some r0.v, some (.int (r0.arity : Nat)), x11, x12, x13]) (fun ρ σ2 hI => ?_) fun hc => ?_
      · obtain ⟨rfl, rfl⟩ := hI
        obtain ⟨vs, q, hvl2, hsq, hmade, hdied⟩ := exec_made (ar_in e2) (fun z => nof (z.symm.trans hex))
        have hsq : stk = vs.reverse ++ q := hsq
        subst hsq
        rw [List.length_append, List.length_reverse] at hsl
        have hs : σ2 cs = some (q.reverse.map Val.v ++ vs.map Val.v) := hs.trans (congrArg some (by rw [List.reverse_append, List.reverse_reverse, List.map_append]))
        have hM : (vs.map Val.v).length = r0.arity := by rw [List.length_map]; exact hvl2
        have hbg : (q.reverse.map Val.v).length ≤ 60 := by rw [List.length_map, List.length_reverse]; lia
        (repeat first | walk_at "go" | refine ⟨rfl, ?_⟩ | refine ⟨len_ok rfl, ?_⟩)
        refine ⟨_, hs, ?_⟩
        (repeat first | walk_at "go" | refine ⟨rfl, ?_⟩ | refine ⟨len_ok rfl, ?_⟩)
        refine ⟨_, hs, cut_bg hM hbg, fun c hc => ?_⟩
        rw [cut_dr hM]
        have n1 : cs ≠ c := Ext.ne hs hc
        have n2 : ct ≠ c := Ext.ne f.ht hc
        have hx1 : Ext σ (put σ2 c (vs.map Val.v)) := f.x.trans (Ext.new hc)
        have hs2 : put σ2 c (vs.map Val.v) cs = some (q.reverse.map Val.v ++ vs.map Val.v) := (put_ne n1).trans hs
        (repeat first | walk_at "go" | refine ⟨rfl, ?_⟩ | refine ⟨len_ok rfl, ?_⟩)
        refine ⟨_, hs2, ?_⟩
        (repeat first | walk_at "go" | refine ⟨rfl, ?_⟩ | refine ⟨len_ok rfl, ?_⟩)
        refine ⟨_, hs2, cut_bg hM hbg, fun c2 hc2 => ?_⟩
        rw [cut_tk hM]
        have m1 : c ≠ c2 := Ext.ne (put_self _ _ _) hc2
        have m2 : ct ≠ c2 := Ext.ne ((put_ne n2).trans f.ht) hc2
        have hc2n := hx1.none hc2
        have hx2 : Ext σ (put (put σ2 c (vs.map Val.v)) c2 (q.reverse.map Val.v)) := hx1.trans (Ext.new hc2)
        have hc3 : put (put σ2 c (vs.map Val.v)) c2 (q.reverse.map Val.v) c = some (vs.map Val.v) := (put_ne m1).trans (put_self _ _ _)
        have ht3 : put (put σ2 c (vs.map Val.v)) c2 (q.reverse.map Val.v) ct = σ2 ct := (put_ne m2).trans (put_ne n2)
        have hs3 : put (put σ2 c (vs.map Val.v)) c2 (q.reverse.map Val.v) c2 = some (q.reverse.map Val.v) := put_self _ _ _
        generalize put (put σ2 c (vs.map Val.v)) c2 (q.reverse.map Val.v) = σ3 at hx2 hc3 ht3 hs3 ⊢
        (repeat first | walk_at "go" | refine ⟨rfl, ?_⟩ | refine ⟨len_ok rfl, ?_⟩)
        refine ⟨by rw [hs3]; exact nofun, ?_⟩
        (repeat first | walk_at "go" | refine ⟨rfl, ?_⟩ | refine ⟨len_ok rfl, ?_⟩)
        refine ⟨_, nf, Nat.le_refl _, hcomp, .mk r0 vs c hc3 (ar_in e2) hvl2 (fun z hz => hvl z (List.mem_append_left _ (List.mem_reverse.mpr hz))) (fun v e σ4 hx4 => ?_) fun e σ4 hx4 => ?_⟩
        · (repeat first | walk_at "go" | refine ⟨rfl, ?_⟩ | refine ⟨len_ok rfl, ?_⟩)
          refine ⟨_, hx4 _ _ hs3, Nat.le_trans (Nat.succ_le_succ hbg) (by decide), ?_⟩
          (repeat first | walk_at "go" | refine ⟨rfl, ?_⟩ | refine ⟨len_ok rfl, ?_⟩)
          exact f.next (hgo _ _ (hmade v e)) ((hx2.trans hx4).put hc2n) ((put_self _ _ _).trans (congrArg some (rev_v v q).symm)) ((put_ne m2).trans ((hx4 _ _ (ht3.trans f.ht)).trans (by rw [List.append_nil]))) hc2n m2.symm
        · refine .ret ?_
          (repeat first | walk_at "go" | refine ⟨rfl, ?_⟩ | refine ⟨len_ok rfl, ?_⟩)
          exact ends (.died ln) (hdied e) (hx2.trans hx4) (hx4 _ _ (ht3.trans f.ht))
      · (repeat first | walk_at "go" | refine ix_r0 ?_ | refine ⟨rfl, ?_⟩ | refine ⟨len_ok rfl, ?_⟩)
        refine ifI (fun e => ?_) (fun e => ?_)
        · refine hc _ _ ⟨rfl, ?_⟩
          rw [ar_2 e]; rfl
        · refine hc _ _ ⟨rfl, ?_⟩
          rw [ar_1 e2 e]; rfl
    (repeat first | walk_at "go" | refine ix_r0 ?_ | refine ⟨rfl, ?_⟩ | refine ⟨len_ok rfl, ?_⟩)
    refine brkI (fun e3 => ?_) (fun e3 => ?_)
    · cases stk with
      | nil => exact orE e3 (fun e => by obtain rfl := Row.drop.elim (motive := fun r => r = Row.drop) r0 (wq' e rfl) rfl; exact nof hex) (fun e => by obtain ⟨_, _, _, rfl⟩ := Row.func.elim (motive := fun r => ∃ f a b, r = Row.func f a b) r0 (wq' e rfl) fun f a b => ⟨f, a, b, rfl⟩; exact nof hex)
      | cons x q =>
      have hs : σ' cs = some (q.reverse.map Val.v ++ [x.v]) := hs.trans (congrArg some (rev_v x q))
      (repeat first | walk_at "go" | refine ⟨rfl, ?_⟩ | refine ⟨len_ok rfl, ?_⟩)
      refine ⟨hna, ?_⟩
      (repeat first | walk_at "go" | refine ⟨rfl, ?_⟩ | refine ⟨len_ok rfl, ?_⟩)
      refine ⟨_, x.v, hs, List.getLast?_concat, ?_⟩
      rw [List.dropLast_concat]
      (repeat first | walk_at "go" | refine ix_r0 ?_ | refine ⟨rfl, ?_⟩ | refine ⟨len_ok rfl, ?_⟩)
      refine brkI (fun e4 => ?_) (fun e4 => ?_)
      · obtain ⟨fw, fa, fb, rfl⟩ := Row.func.elim (motive := fun r => ∃ f a b, r = Row.func f a b) r0 (wq e4 rfl) fun f a b => ⟨f, a, b, rfl⟩
        have tv : ∀ {σ2 : Sto}, σ2 ct = some (τ.map Tell.v ++ [.tup [.str fw.w, x.v, .int sc, .int bg]]) → σ2 ct = some ((τ ++ [Tell.mk fw x sc bg]).map Tell.v) := fun z => z.trans (congrArg some (List.map_append (f := Tell.v) (l₁ := τ) (l₂ := [Tell.mk fw x sc bg])).symm)
        have ht2 : put σ' cs (q.reverse.map Val.v) ct = some (τ.map Tell.v) := htp.trans f.ht
        (repeat first | walk_at "go" | refine ⟨rfl, ?_⟩ | refine ⟨len_ok rfl, ?_⟩)
        refine ⟨by rw [ht2]; exact nofun, ?_⟩
        (repeat first | walk_at "go" | refine ix_f1 ?_ | refine ⟨rfl, ?_⟩ | refine ⟨len_ok rfl, ?_⟩)
        refine ⟨_, ht2, by rw [List.length_map]; exact LBle (Nat.le_trans (Nat.succ_le_succ htl) (by decide)), ?_⟩
        have hs3 : ∀ {l : List V}, put (put σ' cs (q.reverse.map Val.v)) ct l cs = some (q.reverse.map Val.v) := (put_ne f.ne).trans (put_self _ _ _)
        (repeat first | walk_at "go" | refine ix_f1 ?_ | refine ⟨rfl, ?_⟩ | refine ⟨len_ok rfl, ?_⟩)
        cases fw with
        | print =>
          refine .f ?_
          (repeat first | walk_at "go" | refine ⟨rfl, ?_⟩ | refine ⟨len_ok rfl, ?_⟩)
          exact f.next (hgo _ _ rfl) ((f.x.put f.ns).put f.nt) hs3 (tv (put_self _ _ _)) f.ns f.ne
        | tick =>
          refine .t ?_
          (repeat first | walk_at "go" | refine ⟨rfl, ?_⟩ | refine ⟨len_ok rfl, ?_⟩)
          refine ⟨by rw [hs3]; exact nofun, ?_⟩
          (repeat first | walk_at "go" | refine ⟨rfl, ?_⟩ | refine ⟨len_ok rfl, ?_⟩)
          refine ⟨_, hs3, by rw [List.length_map, List.length_reverse]; exact LBle (Nat.le_trans (Nat.le_trans hsl (by decide)) (by decide : 61 ≤ 1000)), ?_⟩
          (repeat first | walk_at "go" | refine ⟨rfl, ?_⟩ | refine ⟨len_ok rfl, ?_⟩)
          exact f.next (hgo _ _ rfl) (((f.x.put f.ns).put f.nt).put f.ns) ((put_self _ _ _).trans (congrArg some (rev_v x q).symm)) (tv ((put_ne f.ne.symm).trans (put_self _ _ _))) f.ns f.ne
      · obtain rfl := Row.drop.elim (motive := fun r => r = Row.drop) r0 (orE e3 (fun e => wq' e rfl) fun e => ff (e4.symm.trans (BEq.comm.trans e))) rfl
        (repeat first | walk_at "go" | refine ⟨rfl, ?_⟩ | refine ⟨len_ok rfl, ?_⟩)
        exact f.go (hgo _ _ rfl) (f.x.put f.ns) (put_self _ _ _) htp f.ns f.ne
    (repeat first | walk_at "go" | refine ix_r0 ?_ | refine ⟨rfl, ?_⟩ | refine ⟨len_ok rfl, ?_⟩)
    refine brkI (fun e4 => ?_) (fun e4 => ?_)
    · obtain rfl := Row.dup.elim (motive := fun r => r = Row.dup) r0 (wq e4 rfl) rfl
      cases stk with
      | nil => exact nof hex
      | cons x q =>
      have hs2 : σ' cs = some (q.reverse.map Val.v ++ [x.v]) := hs.trans (congrArg some (rev_v x q))
      (repeat first | walk_at "go" | refine ⟨rfl, ?_⟩ | refine ⟨len_ok rfl, ?_⟩)
      refine ⟨hna, ?_⟩
      (repeat first | walk_at "go" | refine ⟨rfl, ?_⟩ | refine ⟨len_ok rfl, ?_⟩)
      refine ⟨_, _, hs2, at_last, ?_⟩
      (repeat first | walk_at "go" | refine ⟨rfl, ?_⟩ | refine ⟨len_ok rfl, ?_⟩)
      refine ⟨_, hs, by rw [List.length_map, List.length_reverse]; exact LBle (Nat.le_trans (Nat.succ_le_succ hsl) (by decide)), ?_⟩
      (repeat first | walk_at "go" | refine ⟨rfl, ?_⟩ | refine ⟨len_ok rfl, ?_⟩)
      exact f.go (hgo _ _ rfl) (f.x.put f.ns) ((put_self _ _ _).trans (congrArg some (rev_v x (x :: q)).symm)) htp f.ns f.ne
    (repeat first | walk_at "go" | refine ix_r0 ?_ | refine ⟨rfl, ?_⟩ | refine ⟨len_ok rfl, ?_⟩)
    refine brkI (fun e5 => ?_) (fun e5 => ?_)
    · obtain rfl := Row.swap.elim (motive := fun r => r = Row.swap) r0 (wq e5 rfl) rfl
      match stk, hex, hs, hsl, hgo, f with
      | [], hex, _, _, _, _ => exact nof hex
      | [_], hex, _, _, _, _ => exact nof hex
      | x :: y :: q, _, hs, hsl, hgo, f =>
      have hs2 : σ' cs = some (q.reverse.map Val.v ++ [y.v, x.v]) := hs.trans (congrArg some (rev_v2 x y q))
      (repeat first | walk_at "go" | refine ⟨rfl, ?_⟩ | refine ⟨len_ok rfl, ?_⟩)
      refine ⟨_, hs2, ⟨by decide, by decide⟩, fun c hc => ?_⟩
      rw [cut_m2]
      have n1 : cs ≠ c := Ext.ne hs2 hc
      have n2 : ct ≠ c := Ext.ne f.ht hc
      have hs3 : put σ' c (q.reverse.map Val.v) cs = some (q.reverse.map Val.v ++ [y.v, x.v]) := (put_ne n1).trans hs2
      (repeat first | walk_at "go" | refine ⟨rfl, ?_⟩ | refine ⟨len_ok rfl, ?_⟩)
      refine ⟨_, _, hs3, at_m1, ?_⟩
      (repeat first | walk_at "go" | refine ⟨rfl, ?_⟩ | refine ⟨len_ok rfl, ?_⟩)
      refine ⟨_, _, hs3, at_m2, ?_⟩
      (repeat first | walk_at "go" | refine ⟨rfl, ?_⟩ | refine ⟨len_ok rfl, ?_⟩)
      refine fun c2 hc2 => ?_
      have m1 : c ≠ c2 := Ext.ne (put_self _ _ _) hc2
      have ht2 : put σ' c (q.reverse.map Val.v) ct = some (τ.map Tell.v) := (put_ne n2).trans f.ht
      have m2 : ct ≠ c2 := Ext.ne ht2 hc2
      have hx1 : Ext σ (put σ' c (q.reverse.map Val.v)) := f.x.trans (Ext.new hc)
      have hx2 := hx1.trans (Ext.new (l := [x.v, y.v]) hc2)
      (repeat first | walk_at "go" | refine ⟨rfl, ?_⟩ | refine ⟨len_ok rfl, ?_⟩)
      refine ⟨_, _, (put_ne m1).trans (put_self _ _ _), put_self _ _ _, by rw [List.length_map, List.length_reverse]; exact LBle (Nat.le_trans hsl (by decide)), fun c3 hc3 => ?_⟩
      have ht3 : put (put σ' c (q.reverse.map Val.v)) c2 [x.v, y.v] ct = σ' ct := (put_ne m2).trans (put_ne n2)
      have m3 : ct ≠ c3 := Ext.ne (ht3.trans f.ht) hc3
      (repeat first | walk_at "go" | refine ⟨rfl, ?_⟩ | refine ⟨len_ok rfl, ?_⟩)
      exact f.go (hgo _ _ rfl) (hx2.trans (Ext.new hc3)) ((put_self _ _ _).trans (congrArg some (rev_v2 y x q).symm)) ((put_ne m3).trans ht3) (hx2.none hc3) m3.symm
    (repeat first | walk_at "go" | refine ix_r0 ?_ | refine ⟨rfl, ?_⟩ | refine ⟨len_ok rfl, ?_⟩)
    refine brkI (fun e6 => ?_) (fun e6 => ?_)
    · obtain ⟨n, rfl⟩ := Row.line.elim (motive := fun r => ∃ n, r = Row.line n) r0 (wq e6 rfl) fun n => ⟨n, rfl⟩
      (repeat first | walk_at "go" | refine ix_l1 ?_ | refine ⟨rfl, ?_⟩ | refine ⟨len_ok rfl, ?_⟩)
      exact f.go (hgo _ _ rfl) f.x hs rfl f.ns f.ne
    (repeat first | walk_at "go" | refine ix_r0 ?_ | refine ⟨rfl, ?_⟩ | refine ⟨len_ok rfl, ?_⟩)
    refine brkI (fun e7 => ?_) (fun e7 => ?_)
    · refine orE e7 (fun e => ?_) (fun e => ?_)
      · obtain rfl := Row.enter.elim (motive := fun r => r = Row.enter) r0 (wq' e rfl) rfl
        (repeat first | walk_at "go" | refine ix_r0 ?_ | refine ⟨rfl, ?_⟩ | refine ⟨len_ok rfl, ?_⟩)
        exact f.go (hgo _ _ rfl) f.x hs rfl f.ns f.ne
      · obtain rfl := Row.leave.elim (motive := fun r => r = Row.leave) r0 (wq' e rfl) rfl
        (repeat first | walk_at "go" | refine ix_r0 ?_ | refine ⟨rfl, ?_⟩ | refine ⟨len_ok rfl, ?_⟩)
        exact f.go (hgo _ _ rfl) f.x hs rfl f.ns f.ne
    (repeat first | walk_at "go" | refine ix_r0 ?_ | refine ⟨rfl, ?_⟩ | refine ⟨len_ok rfl, ?_⟩)
    refine brkI (fun e8 => ?_) (fun e8 => ?_)
    · refine orE e8 (fun e => ?_) (fun e => ?_)
      · obtain rfl := Row.begin.elim (motive := fun r => r = Row.begin) r0 (wq' e rfl) rfl
        (repeat first | walk_at "go" | refine ix_r0 ?_ | refine ⟨rfl, ?_⟩ | refine ⟨len_ok rfl, ?_⟩)
        exact f.go (hgo _ _ rfl) f.x hs rfl f.ns f.ne
      · obtain rfl := Row.settle.elim (motive := fun r => r = Row.settle) r0 (wq' e rfl) rfl
        (repeat first | walk_at "go" | refine ix_r0 ?_ | refine ⟨rfl, ?_⟩ | refine ⟨len_ok rfl, ?_⟩)
        exact f.go (hgo _ _ rfl) f.x hs rfl f.ns f.ne
    (repeat first | walk_at "go" | refine ix_r0 ?_ | refine ⟨rfl, ?_⟩ | refine ⟨len_ok rfl, ?_⟩)
    refine boI_or (fun e => brkI (fun _ => ?_) fun e3 => ff (e3.symm.trans e)) (fun e9 => ?_)
    · obtain rfl := Row.ret0.elim (motive := fun r => r = Row.ret0) r0 (wq e rfl) rfl
      (repeat first | walk_at "go" | refine ix_r0 ?_ | refine ⟨rfl, ?_⟩ | refine ⟨len_ok rfl, ?_⟩)
      exact ends (.done .non) rfl f.x f.ht
    (repeat first | walk_at "go" | refine ix_r0 ?_ | refine ⟨rfl, ?_⟩ | refine ⟨len_ok rfl, ?_⟩)
    refine brkI (fun e => ?_) fun e10 => ?_
    · obtain rfl := Row.ret1.elim (motive := fun r => r = Row.ret1) r0 (wq e rfl) rfl
      cases stk with
      | nil => exact nof hex
      | cons x q =>
      have hs2 : σ' cs = some (q.reverse.map Val.v ++ [x.v]) := hs.trans (congrArg some (rev_v x q))
      (repeat first | walk_at "go" | refine ix_r0 ?_ | refine ⟨rfl, ?_⟩ | refine ⟨len_ok rfl, ?_⟩)
      refine ⟨_, _, hs2, at_last, ?_⟩
      (repeat first | walk_at "go" | refine ⟨rfl, ?_⟩ | refine ⟨len_ok rfl, ?_⟩)
      exact ends (.done x) rfl f.x f.ht
    cases r0 with
    | jmp j t =>
      (repeat first | walk_at "go" | refine ⟨rfl, ?_⟩ | refine ⟨len_ok rfl, ?_⟩)
      by_cases hjj : j = .jump
      · subst hjj
        refine ⟨_, 1, hnf, hj, .go t cs ?_⟩
        (repeat first | walk_at "go" | refine ⟨rfl, ?_⟩ | refine ⟨len_ok rfl, ?_⟩)
        exact f.go (hgo _ _ rfl) f.x hs rfl f.ns f.ne
      · cases stk with
        | nil => cases j <;> first | exact absurd rfl hjj | exact nof hex
        | cons x q =>
          have he := exec_jmp (s := ⟨x :: q, at' + 1, ln, sc, bg⟩) (t := t) hjj rfl
          refine ⟨_, 1, hnf, hj, .br j t cs x q hjj hs (fun h1 h2 => ?_) (fun h1 h2 => ?_) fun h1 => ?_⟩
          · rw [h1, h2] at he
            (repeat first | walk_at "go" | refine ⟨rfl, ?_⟩ | refine ⟨len_ok rfl, ?_⟩)
            exact f.go (hgo _ _ he) (f.x.put f.ns) (put_self _ _ _) htp f.ns f.ne
          · rw [h1, h2] at he
            (repeat first | walk_at "go" | refine ⟨rfl, ?_⟩ | refine ⟨len_ok rfl, ?_⟩)
            exact f.go (hgo _ _ he) f.x hs rfl f.ns f.ne
          · rw [h1] at he
            (repeat first | walk_at "go" | refine ⟨rfl, ?_⟩ | refine ⟨len_ok rfl, ?_⟩)
            exact f.go (hgo _ _ he) (f.x.put f.ns) (put_self _ _ _) htp f.ns f.ne
    | _ => first | exact ff e1.symm | exact ff e2.symm | exact ff e3.symm | exact ff e4.symm | exact ff e5.symm | exact ff e6.symm | exact ff e7.symm | exact ff e8.symm | exact ff e9.symm | exact ff e10.symm
  · induction hI with | @mk s τ cs ct x2 x9 x10 x11 x12 x13 σ' f => ?_
    (repeat first | walk_at "go" | refine ⟨rfl, ?_⟩ | refine ⟨len_ok rfl, ?_⟩)
    exact hq ct σ' τ (.inl s) f.x f.nt f.ht f.run
end Mine
namespace Mine
theorem small10 {k : Nat} (h : k ≤ 1000) : SmallI (k : Int) := by
  unfold SmallI
  exact Nat.lt_of_le_of_lt (by rw [Int.natAbs_natCast]; exact Nat.le_trans h (by decide : 1000 ≤ 2 ^ 10)) (Nat.pow_lt_pow_right (by decide) (by decide))
inductive S_draw (σ : Sto) (Q : V → Sto → Prop) (X : Sto → Prop) : List V → Prop
  | mk (p a : Addr) (k m : Nat) (c : Int) (L : List Int) (hap : a ≠ p) (hp : σ p = some [.list a, .int (k : Nat), .int c]) (ha : σ a = some (L.map V.int)) (hk : k ≤ 1000) (hm : 0 < m)
    (h : ∀ j : Nat, j < m → Q (.int (j : Nat)) (put σ p [.list a, .int ((k + 1 : Nat) : Int), .int c])) : S_draw σ Q X [.list p, .int (m : Nat)]
theorem f_draw {K : Ctx} (h : chkFn K.frag 339 p_law_draw n_law_draw m_law_draw = true) : FnOK K 1 (.ref 339) fun ds σ Q X => S_draw σ Q X ds := fnPure h fun ds σ Q X hS => by
  induction hS with | mk p a k m c L hap hp ha hk hm hq => ?_
  refine ⟨rfl, ?_⟩
  have modq : ∀ (x : Int), Q (.int (x.fmod (m : Int))) (put σ p [.list a, .int ((k + 1 : Nat) : Int), .int c]) := fun x => by
    obtain ⟨j, hj⟩ := Int.eq_ofNat_of_zero_le (Int.fmod_nonneg_of_pos x (Int.ofNat_lt.mpr hm))
    rw [hj]
    exact hq j (Int.ofNat_lt.mp (hj ▸ Int.fmod_lt_of_pos x (Int.ofNat_lt.mpr hm)))
  have m0 : (m : Int) ≠ 0 := fun z => absurd (Int.ofNat.inj z) (Nat.ne_of_gt hm)
  (repeat first | walk_at "go" | refine ⟨rfl, ?_⟩ | refine ⟨len_ok rfl, ?_⟩)
  refine ⟨_, .int (k : Nat), hp, rfl, ?_⟩
  (repeat first | walk_at "go" | refine ⟨rfl, ?_⟩ | refine ⟨len_ok rfl, ?_⟩)
  refine ⟨_, hp, by decide, Nat.le_of_ble_eq_true rfl, ?_⟩
  have hp2 := put_self σ p [V.list a, V.int ((k + 1 : Nat) : Int), V.int c]
  have ha2 : put σ p [V.list a, V.int ((k + 1 : Nat) : Int), V.int c] a = some (L.map V.int) := (put_ne hap).trans ha
  rw [show [V.list a, V.int (k : Nat), V.int c].set (Int.toNat 1) (V.int ((k : Int) + 1)) = [V.list a, V.int ((k + 1 : Nat) : Int), V.int c] from rfl]
  generalize put σ p [V.list a, V.int ((k + 1 : Nat) : Int), V.int c] = σ2 at hp2 ha2 modq ⊢
  (repeat first | walk_at "go" | refine ⟨rfl, ?_⟩ | refine ⟨len_ok rfl, ?_⟩)
  refine ⟨_, .list a, hp2, rfl, ?_⟩
  (repeat first | walk_at "go" | refine ⟨rfl, ?_⟩ | refine ⟨len_ok rfl, ?_⟩)
  refine ⟨_, ha2, ?_⟩
  rw [List.length_map]
  (repeat first | walk_at "go" | refine ⟨rfl, ?_⟩ | refine ⟨len_ok rfl, ?_⟩)
  refine brkI (fun e => ?_) (fun e => ?_)
  · have hkl : k < L.length := Int.ofNat_lt.mp (of_decide_eq_true e)
    (repeat first | walk_at "go" | refine ⟨rfl, ?_⟩ | refine ⟨len_ok rfl, ?_⟩)
    refine ⟨_, .list a, hp2, rfl, ?_⟩
    (repeat first | walk_at "go" | refine ⟨rfl, ?_⟩ | refine ⟨len_ok rfl, ?_⟩)
    refine ⟨_, .int L[k], ha2, pyAt_nat.trans (mapGet (List.getElem?_eq_getElem hkl)), ?_⟩
    (repeat first | walk_at "go" | refine ⟨rfl, ?_⟩ | refine ⟨len_ok rfl, ?_⟩)
    refine ⟨m0, ?_⟩
    (repeat first | walk_at "go" | refine ⟨rfl, ?_⟩ | refine ⟨len_ok rfl, ?_⟩)
    exact modq _
  · (repeat first | walk_at "go" | refine ⟨rfl, ?_⟩ | refine ⟨len_ok rfl, ?_⟩)
    refine ⟨small10 (by decide : 7 ≤ 1000), small10 hk, ?_⟩
    (repeat first | walk_at "go" | refine ⟨rfl, ?_⟩ | refine ⟨len_ok rfl, ?_⟩)
    refine ⟨by decide, small10 hk, ?_⟩
    (repeat first | walk_at "go" | refine ⟨rfl, ?_⟩ | refine ⟨len_ok rfl, ?_⟩)
    refine ⟨_, .int c, hp2, rfl, ?_⟩
    (repeat first | walk_at "go" | refine ⟨rfl, ?_⟩ | refine ⟨len_ok rfl, ?_⟩)
    refine ⟨m0, ?_⟩
    (repeat first | walk_at "go" | refine ⟨rfl, ?_⟩ | refine ⟨len_ok rfl, ?_⟩)
    exact modq _
end Mine
namespace Mine
/-! ## the drawing of a code: the pen, the rows so far -/
noncomputable def cst : Nat → Nat
  | 0 => 1
  | n + 1 => 3 * cst n + 2
theorem cst_pos : ∀ n, 1 ≤ cst n
  | 0 => Nat.le_refl _
  | n + 1 => by simp only [cst]; lia
structure Gn (σ0 : Sto) (p rr a : Addr) (c : Int) (L : List Int) (l : List V) (k : Nat) (R : List SR) (σ : Sto) : Prop where
  ex : ∀ x m, x ≠ p → x ≠ rr → σ0 x = some m → σ x = some m
  ap : a ≠ p
  ar : a ≠ rr
  pr : p ≠ rr
  hp : σ p = some [.list a, .int (k : Nat), .int c]
  ha : σ a = some (L.map V.int)
  hr : σ rr = some (l ++ R.map SR.v)
section
variable {σ0 σ σ' : Sto} {p rr a : Addr} {c : Int} {L : List Int} {l : List V} {k k' : Nat} {R R' : List SR}
theorem Gn.draw (h : Gn σ0 p rr a c L l k R σ) : Gn σ0 p rr a c L l (k + 1) R (put σ p [.list a, .int ((k + 1 : Nat) : Int), .int c]) :=
  ⟨fun x m h1 h2 e => by rw [put_ne h1]; exact h.ex x m h1 h2 e, h.ap, h.ar, h.pr, put_self _ _ _, by rw [put_ne h.ap]; exact h.ha, by rw [put_ne (Ne.symm h.pr)]; exact h.hr⟩
theorem Gn.to {l' : List V} (h : Gn σ0 p rr a c L l k R σ) (e : l' = l ++ R'.map SR.v) : Gn σ0 p rr a c L l k R' (put σ rr l') :=
  ⟨fun x m h1 h2 e => by rw [put_ne h2]; exact h.ex x m h1 h2 e, h.ap, h.ar, h.pr, by rw [put_ne h.pr]; exact h.hp, by rw [put_ne h.ar]; exact h.ha, by rw [put_self, e]⟩
theorem Gn.app {r : SR} (h : Gn σ0 p rr a c L l k R σ) : Gn σ0 p rr a c L l k (R ++ [r]) (put σ rr (l ++ R.map SR.v ++ [r.v])) := h.to (by simp)
theorem Gn.new {b : Addr} {ds : List V} (h : Gn σ0 p rr a c L l k R σ) (hb : σ b = none) : Gn σ0 p rr a c L l k R (put σ b ds) := by
  have n1 : p ≠ b := fun z => by rw [← z, h.hp] at hb; cases hb
  have n2 : a ≠ b := fun z => by rw [← z, h.ha] at hb; cases hb
  have n3 : rr ≠ b := fun z => by rw [← z, h.hr] at hb; cases hb
  exact ⟨fun x m h1 h2 e => by
    have := h.ex x m h1 h2 e
    rw [put_ne (fun z => by rw [z, hb] at this; cases this)]; exact this, h.ap, h.ar, h.pr, by rw [put_ne n1]; exact h.hp, by rw [put_ne n2]; exact h.ha, by rw [put_ne n3]; exact h.hr⟩
theorem Gn.base (h : Gn σ0 p rr a c L l k R σ) : Gn σ p rr a c L (l ++ R.map SR.v) k [] σ :=
  ⟨fun x m _ _ e => e, h.ap, h.ar, h.pr, h.hp, h.ha, by simpa using h.hr⟩
theorem Gn.call (h : Gn σ0 p rr a c L l k R σ) (g : Gn σ p rr a c L (l ++ R.map SR.v) k' R' σ') : Gn σ0 p rr a c L l k' (R ++ R') σ' :=
  ⟨fun x m h1 h2 e => g.ex x m h1 h2 (h.ex x m h1 h2 e), h.ap, h.ar, h.pr, g.hp, g.ha, by rw [g.hr]; simp⟩
theorem Gn.nr (h : Gn σ0 p rr a c L l k R σ) : σ rr ≠ none := by rw [h.hr]; exact nofun
end
theorem set_mid {α : Type} {x y : α} {B : List α} : ∀ (A : List α), (A ++ x :: B).set A.length y = A ++ y :: B
  | [] => rfl
  | z :: A => by simp [set_mid A]
/-! ## codes, one after another -/
section
variable {K lo d : Nat} {A B C : List SR}
theorem sg_const {v : Val} (h : ValOk 7 v) : Seg K lo [.row (.const v)] d (d + 1) := .plain d rfl h
theorem sg_bin {o : BO} (h1 : Seg K lo A d (d + 1)) (h2 : Seg K (lo + A.length) B (d + 1) (d + 2)) : Seg K lo (A ++ B ++ [.row (.bin o)]) d (d + 1) :=
  (h1.append h2).append (.plain d rfl trivial)
theorem sg_xor (h1 : Seg K lo A d (d + 1)) (h2 : Seg K (lo + A.length) B (d + 1) (d + 2)) : Seg K lo (A ++ B ++ [.row .xor]) d (d + 1) :=
  (h1.append h2).append (.plain d rfl trivial)
theorem sg_un {o : UO} (h1 : Seg K lo A d (d + 1)) : Seg K lo (A ++ [.row (.un o)]) d (d + 1) :=
  h1.append (.plain d rfl trivial)
theorem sg_text (h1 : Seg K lo A d (d + 1)) : Seg K lo (A ++ [.row .text]) d (d + 1) :=
  h1.append (.plain d rfl trivial)
theorem sg_tick (h1 : Seg K lo A d (d + 1)) : Seg K lo (A ++ [.row (.func .tick 1 1)]) d (d + 1) :=
  h1.append (.plain d rfl ⟨by decide, by decide⟩)
theorem sg_drop {d : Nat} {lo : Nat} : Seg K lo [.row .drop] (d + 1) d := .plain d rfl trivial
theorem sg_dup {d : Nat} {lo : Nat} : Seg K lo [.row .dup] (d + 1) (d + 2) := .plain d rfl trivial
theorem sg_swap {d : Nat} {lo : Nat} : Seg K lo [.row .swap] (d + 2) (d + 2) := .plain d rfl trivial
theorem sg_dd (h1 : Seg K lo A d (d + 1)) : Seg K lo (A ++ [.row .dup, .row .drop]) d (d + 1) := h1.append (Seg.append (A := [_]) (B := [_]) sg_dup sg_drop)
theorem sg_ss (h1 : Seg K lo A d (d + 1)) : Seg K lo (A ++ [.row (.const (.int 1)), .row .swap, .row .swap, .row .drop]) d (d + 1) :=
  h1.append (Seg.append (A := [_]) (B := [_, _, _]) (sg_const (show (1 : Int).natAbs ≤ 2 ^ 7 by decide)) (Seg.append (A := [_]) (B := [_, _]) sg_swap (Seg.append (A := [_]) (B := [_]) sg_swap sg_drop)))
theorem sg_orj {t : Nat} {j : J} (hj : j = .orj ∨ j = .andj ∨ j = .dorj) (h1 : Seg K lo A d (d + 1)) (h2 : Seg K (lo + A.length + 1) B d (d + 1)) (ht : t = lo + A.length + 1 + B.length) : Seg K lo (A ++ .row (.jmp j t) :: B) d (d + 1) :=
  h1.append (Seg.orj hj h2 ht)
theorem sg_cond {t u : Nat} {j : J} (hj : j = .iff ∨ j = .ift ∨ j = .ifd) (h1 : Seg K lo A d (d + 1)) (h2 : Seg K (lo + A.length + 1) B d (d + 1)) (h3 : Seg K (lo + A.length + 1 + B.length + 1) C d (d + 1))
    (ht : t = lo + A.length + 1 + B.length + 1) (hu : u = lo + A.length + 1 + B.length + 1 + C.length) : Seg K lo (A ++ .row (.jmp j t) :: (B ++ .row (.jmp .jump u) :: C)) d (d + 1) :=
  h1.append (Seg.cond hj h2 h3 ht hu)
end
end Mine
namespace Mine
theorem FnOK.weak {K : Ctx} {n : Nat} {f : Value} {S S' : FnSpec} (F : FnOK K n f S) (h : ∀ ds σ Q X, S' ds σ Q X → S ds σ Q X) : FnOK K n f S' :=
  ⟨F.fn, fun A fr s vals ds σ Q X QQ E hA I Fr r hS k kE => F.ok A fr s vals ds σ Q X QQ E hA I Fr r (h _ _ _ _ hS) k kE⟩
theorem ix_tn {l : List V} {j : Nat} {d : V} {σ : Sto} {Q : V → Prop} (h : l[j]? = some d) (hl : j ≤ 1000) (q : Q d) : vIdx (.tup l) (.int (j : Nat)) σ Q :=
  ⟨d, by lia, by lia, pyAt_nat.trans h, q⟩
theorem ix_ln {l : List V} {c : Addr} {j : Nat} {d : V} {σ : Sto} {Q : V → Prop} (hc : σ c = some l) (h : l[j]? = some d) (q : Q d) : vIdx (.list c) (.int (j : Nat)) σ Q := ⟨l, d, hc, pyAt_nat.trans h, q⟩
noncomputable def vals8 : List Val := [.non, .str 0, .str 1, .int 0, .int 5, .int (-3), .str 2, .str 3]
theorem allOf {α : Type} {P : α → Prop} {l : List α} (h : ∀ x ∈ l, P x) {j : Nat} {x : α} (e : l[j]? = some x) : P x := h x (List.mem_of_getElem? e)
theorem con {α : Type} {P : α → Prop} {x : α} {l : List α} (a : P x) (b : ∀ y ∈ l, P y) : ∀ y ∈ x :: l, P y := List.forall_mem_cons.mpr ⟨a, b⟩
theorem nilP {α : Type} {P : α → Prop} : ∀ y ∈ ([] : List α), P y := fun _ h => nomatch h
theorem vals8_ok : ∀ v ∈ vals8, ValOk 7 v := con trivial (con (by decide : 0 < 6) (con (by decide : 1 < 6) (con (by decide : (0 : Int).natAbs ≤ 2 ^ 7) (con (by decide : (5 : Int).natAbs ≤ 2 ^ 7) (con (by decide : (-3 : Int).natAbs ≤ 2 ^ 7) (con (by decide : 2 < 6) (con (by decide : 3 < 6) nilP)))))))
noncomputable def ops4 : List BO := [.add, .sub, .mul, .div]
noncomputable def jj3 : List J := [.orj, .andj, .dorj]
noncomputable def ii3 : List J := [.iff, .ift, .ifd]
theorem jj3_ok : ∀ j ∈ jj3, j = .orj ∨ j = .andj ∨ j = .dorj := con (.inl rfl) (con (.inr (.inl rfl)) (con (.inr (.inr rfl)) nilP))
theorem ii3_ok : ∀ j ∈ ii3, j = .iff ∨ j = .ift ∨ j = .ifd := con (.inl rfl) (con (.inr (.inl rfl)) (con (.inr (.inr rfl)) nilP))
noncomputable def rows3 : List SR := [.row (.un .nt), .row (.un .neg), .row .text]
theorem sg_rows3 {K lo d : Nat} {A : List SR} (h : Seg K lo A d (d + 1)) : ∀ r ∈ rows3, Seg K lo (A ++ [r]) d (d + 1) := con (sg_un h) (con (sg_un h) (con (sg_text h) nilP))
theorem pick {α : Type} {l : List α} {j : Nat} (h : j < l.length) : ∃ x, l[j]? = some x := ⟨l[j], List.getElem?_eq_getElem h⟩
theorem st_mid {l : List V} {A B : List SR} {x y : SR} {i : Nat} (hi : i = (l ++ A.map SR.v).length) : (l ++ (A ++ [x] ++ B).map SR.v).set i y.v = l ++ (A ++ y :: B).map SR.v := by
  subst hi
  have := set_mid (x := x.v) (y := y.v) (B := B.map SR.v) (l ++ A.map SR.v)
  rw [List.map_append, List.map_append, List.map_append]
  rw [List.append_assoc, List.append_assoc] at this
  rw [List.append_assoc]
  exact this
theorem st_lt {l : List V} {A B : List SR} {x : SR} : (l ++ A.map SR.v).length < (l ++ (A ++ [x] ++ B).map SR.v).length := by
  rw [List.length_append, List.length_append, List.length_map, List.length_map, List.length_append, List.length_append]
  exact Nat.add_lt_add_left (Nat.lt_of_lt_of_le (Nat.lt_succ_self _) (Nat.le_add_right _ _)) _
theorem gn_len {l : List V} {R : List SR} : (l ++ R.map SR.v).length = l.length + R.length := by rw [List.length_append, List.length_map]
inductive S_drawP (σ : Sto) (Q : V → Sto → Prop) (X : Sto → Prop) : List V → Prop
  | mk (σ0 : Sto) (p rr a : Addr) (c : Int) (L : List Int) (l : List V) (k m : Nat) (R : List SR) (G : Gn σ0 p rr a c L l k R σ) (hk : k ≤ 1000) (hm : 0 < m)
    (h : ∀ j σ', j < m → Gn σ0 p rr a c L l (k + 1) R σ' → (∀ b ds, b ≠ p → σ b = some ds → σ' b = some ds) → Q (.int (j : Nat)) σ') : S_drawP σ Q X [.list p, .int (m : Nat)]
theorem drawP {K : Ctx} {n : Nat} {f : Value} (F : FnOK K n f fun ds σ Q X => S_draw σ Q X ds) : FnOK K n f fun ds σ Q X => S_drawP σ Q X ds :=
  F.weak fun ds σ Q X h => by
    induction h with | mk σ0 p rr a c L l k m R g hk hm hq => ?_
    exact .mk p a k m c L g.ap g.hp g.ha hk hm fun j hj => hq j _ hj g.draw fun b ds n e => (put_ne n).trans e
inductive S_expr (n : Nat) (σ : Sto) (Q : V → Sto → Prop) (X : Sto → Prop) : List V → Prop
  | mk (p rr a : Addr) (c : Int) (L : List Int) (l : List V) (k : Nat) (G : Gn σ p rr a c L l k [] σ) (hk : k + cst n ≤ 1000) (hl : l.length + cst n ≤ 900)
    (h : ∀ σ' k' R, Gn σ p rr a c L l k' R σ' → k' ≤ k + cst n → R.length ≤ cst n → (∀ K d, Seg K l.length R d (d + 1)) → Q .non σ') : S_expr n σ Q X [.list p, .list rr, .int (n : Nat)]
inductive S_exprP (n : Nat) (σ : Sto) (Q : V → Sto → Prop) (X : Sto → Prop) : List V → Prop
  | mk (σ0 : Sto) (p rr a : Addr) (c : Int) (L : List Int) (l : List V) (k : Nat) (R : List SR) (i : Int) (hi : i = (n : Nat)) (G : Gn σ0 p rr a c L l k R σ) (hk : k + cst n ≤ 1000) (hl : l.length + R.length + cst n ≤ 900)
    (h : ∀ σ' k' R', Gn σ0 p rr a c L l k' (R ++ R') σ' → k' ≤ k + cst n → R'.length ≤ cst n → (∀ K d, Seg K (l.length + R.length) R' d (d + 1)) → Q .non σ') : S_exprP n σ Q X [.list p, .list rr, .int i]
theorem exprP {K : Ctx} {m n : Nat} {f : Value} (F : FnOK K m f fun ds σ Q X => S_expr n σ Q X ds) : FnOK K m f fun ds σ Q X => S_exprP n σ Q X ds :=
  F.weak fun ds σ Q X h => by
    induction h with | mk σ0 p rr a c L l k R i hi g hk hl hq => ?_
    subst hi
    exact .mk p rr a c L _ k g.base hk (by rw [gn_len]; exact hl) fun σ' k' R' g' h1 h2 h3 => hq σ' k' R' (g.call g') h1 h2 fun K d => by have := h3 K d; rwa [gn_len] at this
inductive I21 (p rr a : Addr) (c : Int) (L : List Int) (l : List V) (n k : Nat) (σ : Sto) : Loc → Sto → Prop
  | mk (w k' : Nat) (hn : n = 0 → w = 0) (hk : k' ≤ k + 1) (hk2 : k' + 1 ≤ k + cst n) {σ' : Sto} (G : Gn σ p rr a c L l k' [] σ') : I21 p rr a c L l n k σ [some (.list p), some (.list rr), some (.int (n : Nat)), some (.int (w : Nat)), none, none] σ'
theorem f_exprS {K : Ctx} (hd : FnOK K 1 (.ref 339) fun ds σ Q X => S_draw σ Q X ds) (h : chkFn K.frag 381 p_law_expr n_law_expr m_law_expr = true) (n : Nat) (hrec : ∀ m, n = m + 1 → FnOK K (m + 2) (.ref 381) fun ds σ Q X => S_expr m σ Q X ds) :
    FnOK K (n + 2) (.ref 381) fun ds σ Q X => S_expr n σ Q X ds := fnPure h fun ds σ Q X hS => by
  induction hS with | mk p rr a c L l k G hk hl hq => ?_
  refine ⟨rfl, ?_⟩
  have hdr := drawP hd
  have hc0 := cst_pos n
  refine cutS (I21 p rr a c L l n k σ) (fun ρ σ' hI => ?_) fun hc => ?_
  · induction hI with | @mk w k' hn hk' hk2 σ2 G2 => ?_
    (repeat first | walk_at "go" | refine ⟨rfl, ?_⟩ | refine ⟨len_ok rfl, ?_⟩)
    refine brkI (fun e => ?_) (fun e => ?_)
    · (repeat first | walk_at "go" | refine ⟨rfl, ?_⟩ | refine ⟨len_ok rfl, ?_⟩)
      refine ⟨G2.nr, ?_⟩
      (repeat first | walk_at "go" | refine ⟨rfl, ?_⟩ | refine ⟨len_ok rfl, ?_⟩)
      refine ⟨_, 1, Nat.succ_le_succ (Nat.zero_le _), hdr, .mk σ p rr a c L l _ 8 _ G2 (by lia) (by decide) fun j3 σ3 hj3 G3 hk3 => ?_⟩
      obtain ⟨v, hv⟩ := pick (l := vals8) (j := j3) hj3
      (repeat first | walk_at "go" | refine ⟨rfl, ?_⟩ | refine ⟨len_ok rfl, ?_⟩)
      refine ix_tn (d := v.v) (show (vals8.map Val.v)[j3]? = _ from mapGet hv) (Nat.le_trans (Nat.le_of_lt hj3) (by decide)) ?_
      (repeat first | walk_at "go" | refine ⟨rfl, ?_⟩ | refine ⟨len_ok rfl, ?_⟩)
      refine ⟨_, G3.hr, by rw [gn_len]; exact LBle (by show l.length + 0 + 1 ≤ 1000; lia), ?_⟩
      (repeat first | walk_at "go" | refine ⟨rfl, ?_⟩ | refine ⟨len_ok rfl, ?_⟩)
      exact hq _ _ _ (G3.app (r := .row (.const v))) hk2 hc0 fun K d => sg_const (allOf vals8_ok hv)
    obtain ⟨m, rfl⟩ : ∃ m, n = m + 1 := by
      cases n with
      | zero => obtain rfl := hn rfl; exact ff e.symm
      | succ m => exact ⟨m, rfl⟩
    have hr := exprP (hrec m rfl)
    have ec : cst (m + 1) = 3 * cst m + 2 := rfl
    rw [ec] at hk hl hq hk2 hc0
    have en : ((m + 1 : Nat) : Int) - 1 = (m : Nat) := by lia
    clear hn hrec
    have hz : l.length + ([] : List SR).length + cst m ≤ 900 := by show l.length + 0 + cst m ≤ 900; lia
    (repeat first | walk_at "go" | refine ⟨rfl, ?_⟩ | refine ⟨len_ok rfl, ?_⟩)
    refine brkI (fun e => ?_) (fun e => ?_)
    · (repeat first | walk_at "go" | refine ⟨rfl, ?_⟩ | refine ⟨len_ok rfl, ?_⟩)
      refine ⟨_, m + 2, Nat.le_refl _, hr, ?_⟩
      (repeat first | walk_at "go" | refine ⟨rfl, ?_⟩ | refine ⟨len_ok rfl, ?_⟩)
      refine .mk σ p rr a c L l _ [] _ en G2 (by lia) hz fun σ3 k3 R3 G3 hk3 hl3 s3 => ?_
      have G3 : Gn σ p rr a c L l k3 R3 σ3 := G3
      (repeat first | walk_at "go" | refine ⟨rfl, ?_⟩ | refine ⟨len_ok rfl, ?_⟩)
      refine ⟨_, m + 2, Nat.le_refl _, hr, ?_⟩
      (repeat first | walk_at "go" | refine ⟨rfl, ?_⟩ | refine ⟨len_ok rfl, ?_⟩)
      refine .mk σ p rr a c L l _ R3 _ en G3 (by lia) (by lia) fun σ4 k4 R4 G4 hk4 hl4 s4 => ?_
      (repeat first | walk_at "go" | refine ⟨rfl, ?_⟩ | refine ⟨len_ok rfl, ?_⟩)
      refine ⟨G4.nr, ?_⟩
      (repeat first | walk_at "go" | refine ⟨rfl, ?_⟩ | refine ⟨len_ok rfl, ?_⟩)
      refine ⟨_, 1, Nat.succ_le_succ (Nat.zero_le _), hdr, .mk σ p rr a c L l _ 4 _ G4 (by lia) (by decide) fun j5 σ5 hj5 G5 hk5 => ?_⟩
      obtain ⟨o, ho⟩ := pick (l := ops4) (j := j5) hj5
      (repeat first | walk_at "go" | refine ⟨rfl, ?_⟩ | refine ⟨len_ok rfl, ?_⟩)
      refine ix_tn (d := .str o.w) (show (ops4.map fun o => V.str o.w)[j5]? = _ from mapGet (f := fun o : BO => V.str o.w) ho) (Nat.le_trans (Nat.le_of_lt hj5) (by decide)) ?_
      (repeat first | walk_at "go" | refine ⟨rfl, ?_⟩ | refine ⟨len_ok rfl, ?_⟩)
      refine ⟨_, G5.hr, by rw [gn_len, List.length_append]; exact LBle (by lia), ?_⟩
      (repeat first | walk_at "go" | refine ⟨rfl, ?_⟩ | refine ⟨len_ok rfl, ?_⟩)
      exact hq _ _ _ (G5.app (r := .row (.bin o))) (by lia) (by rw [List.length_append, List.length_append]; show R3.length + R4.length + 1 ≤ _; lia) fun K d => sg_bin (s3 K d) (s4 K (d + 1))
    (repeat first | walk_at "go" | refine ⟨rfl, ?_⟩ | refine ⟨len_ok rfl, ?_⟩)
    refine brkI (fun e => ?_) (fun e => ?_)
    · (repeat first | walk_at "go" | refine ⟨rfl, ?_⟩ | refine ⟨len_ok rfl, ?_⟩)
      refine ⟨_, m + 2, Nat.le_refl _, hr, ?_⟩
      (repeat first | walk_at "go" | refine ⟨rfl, ?_⟩ | refine ⟨len_ok rfl, ?_⟩)
      refine .mk σ p rr a c L l _ [] _ en G2 (by lia) hz fun σ3 k3 R3 G3 hk3 hl3 s3 => ?_
      have G3 : Gn σ p rr a c L l k3 R3 σ3 := G3
      (repeat first | walk_at "go" | refine ⟨rfl, ?_⟩ | refine ⟨len_ok rfl, ?_⟩)
      refine ⟨G3.nr, ?_⟩
      (repeat first | walk_at "go" | refine ⟨rfl, ?_⟩ | refine ⟨len_ok rfl, ?_⟩)
      refine fun cc hcc => ?_
      (repeat first | walk_at "go" | refine ⟨rfl, ?_⟩ | refine ⟨len_ok rfl, ?_⟩)
      refine ⟨_, 1, Nat.succ_le_succ (Nat.zero_le _), hdr, .mk σ p rr a c L l _ 3 _ (G3.new hcc) (by lia) (by decide) fun j5 σ5 hj5 G5 hk5 => ?_⟩
      obtain ⟨r, hrr⟩ := pick (l := rows3) (j := j5) hj5
      (repeat first | walk_at "go" | refine ⟨rfl, ?_⟩ | refine ⟨len_ok rfl, ?_⟩)
      refine ix_ln (d := r.v) (hk5 cc _ (Ext.ne G3.hp hcc).symm (put_self _ _ _)) (show (rows3.map SR.v)[j5]? = _ from mapGet hrr) ?_
      (repeat first | walk_at "go" | refine ⟨rfl, ?_⟩ | refine ⟨len_ok rfl, ?_⟩)
      refine ⟨_, G5.hr, by rw [gn_len]; exact LBle (by lia), ?_⟩
      (repeat first | walk_at "go" | refine ⟨rfl, ?_⟩ | refine ⟨len_ok rfl, ?_⟩)
      exact hq _ _ _ (G5.app (r := r)) (by lia) (by rw [List.length_append]; show R3.length + 1 ≤ _; lia) fun K d => allOf (sg_rows3 (s3 K d)) hrr
    (repeat first | walk_at "go" | refine ⟨rfl, ?_⟩ | refine ⟨len_ok rfl, ?_⟩)
    refine brkI (fun e => ?_) (fun e => ?_)
    · (repeat first | walk_at "go" | refine ⟨rfl, ?_⟩ | refine ⟨len_ok rfl, ?_⟩)
      refine ⟨_, m + 2, Nat.le_refl _, hr, ?_⟩
      (repeat first | walk_at "go" | refine ⟨rfl, ?_⟩ | refine ⟨len_ok rfl, ?_⟩)
      refine .mk σ p rr a c L l _ [] _ en G2 (by lia) hz fun σ3 k3 R3 G3 hk3 hl3 s3 => ?_
      have G3 : Gn σ p rr a c L l k3 R3 σ3 := G3
      (repeat first | walk_at "go" | refine ⟨rfl, ?_⟩ | refine ⟨len_ok rfl, ?_⟩)
      refine ⟨_, m + 2, Nat.le_refl _, hr, ?_⟩
      (repeat first | walk_at "go" | refine ⟨rfl, ?_⟩ | refine ⟨len_ok rfl, ?_⟩)
      refine .mk σ p rr a c L l _ R3 _ en G3 (by lia) (by lia) fun σ4 k4 R4 G4 hk4 hl4 s4 => ?_
      (repeat first | walk_at "go" | refine ⟨rfl, ?_⟩ | refine ⟨len_ok rfl, ?_⟩)
      refine ⟨G4.nr, ?_⟩
      (repeat first | walk_at "go" | refine ⟨rfl, ?_⟩ | refine ⟨len_ok rfl, ?_⟩)
      refine ⟨_, G4.hr, by rw [gn_len, List.length_append]; exact LBle (by lia), ?_⟩
      (repeat first | walk_at "go" | refine ⟨rfl, ?_⟩ | refine ⟨len_ok rfl, ?_⟩)
      exact hq _ _ _ (G4.app (r := .row .xor)) (by lia) (by rw [List.length_append, List.length_append]; show R3.length + R4.length + 1 ≤ _; lia) fun K d => sg_xor (s3 K d) (s4 K (d + 1))
    (repeat first | walk_at "go" | refine ⟨rfl, ?_⟩ | refine ⟨len_ok rfl, ?_⟩)
    refine brkI (fun e => ?_) (fun e => ?_)
    · (repeat first | walk_at "go" | refine ⟨rfl, ?_⟩ | refine ⟨len_ok rfl, ?_⟩)
      refine ⟨_, m + 2, Nat.le_refl _, hr, ?_⟩
      (repeat first | walk_at "go" | refine ⟨rfl, ?_⟩ | refine ⟨len_ok rfl, ?_⟩)
      refine .mk σ p rr a c L l _ [] _ en G2 (by lia) hz fun σ3 k3 R3 G3 hk3 hl3 s3 => ?_
      have G3 : Gn σ p rr a c L l k3 R3 σ3 := G3
      (repeat first | walk_at "go" | refine ⟨rfl, ?_⟩ | refine ⟨len_ok rfl, ?_⟩)
      refine ⟨_, G3.hr, ?_⟩
      (repeat first | walk_at "go" | refine ⟨rfl, ?_⟩ | refine ⟨len_ok rfl, ?_⟩)
      refine ⟨G3.nr, ?_⟩
      (repeat first | walk_at "go" | refine ⟨rfl, ?_⟩ | refine ⟨len_ok rfl, ?_⟩)
      refine ⟨_, G3.hr, by rw [gn_len]; exact LBle (by lia), ?_⟩
      have G4 := G3.app (r := .row .drop)
      (repeat first | walk_at "go" | refine ⟨rfl, ?_⟩ | refine ⟨len_ok rfl, ?_⟩)
      refine ⟨_, m + 2, Nat.le_refl _, hr, ?_⟩
      (repeat first | walk_at "go" | refine ⟨rfl, ?_⟩ | refine ⟨len_ok rfl, ?_⟩)
      refine .mk σ p rr a c L l _ _ _ en G4 (by lia) (by rw [List.length_append]; show l.length + (R3.length + 1) + cst m ≤ 900; lia) fun σ5 k5 R5 G5 hk5 hl5 s5 => ?_
      (repeat first | walk_at "go" | refine ⟨rfl, ?_⟩ | refine ⟨len_ok rfl, ?_⟩)
      refine ⟨_, 1, Nat.succ_le_succ (Nat.zero_le _), hdr, .mk σ p rr a c L l _ 3 _ G5 (by lia) (by decide) fun j6 σ6 hj6 G6 hk6 => ?_⟩
      obtain ⟨j7, hj7⟩ := pick (l := jj3) (j := j6) hj6
      (repeat first | walk_at "go" | refine ⟨rfl, ?_⟩ | refine ⟨len_ok rfl, ?_⟩)
      refine ix_tn (d := .str j7.w) (show (jj3.map fun j => V.str j.w)[j6]? = _ from mapGet (f := fun j : J => V.str j.w) hj7) (Nat.le_trans (Nat.le_of_lt hj6) (by decide)) ?_
      (repeat first | walk_at "go" | refine ⟨rfl, ?_⟩ | refine ⟨len_ok rfl, ?_⟩)
      refine ⟨_, G6.hr, ?_⟩
      (repeat first | walk_at "go" | refine ⟨rfl, ?_⟩ | refine ⟨len_ok rfl, ?_⟩)
      refine ⟨_, G6.hr, Int.natCast_nonneg _, st_lt, ?_⟩
      (repeat first | walk_at "go" | refine ⟨rfl, ?_⟩ | refine ⟨len_ok rfl, ?_⟩)
      exact hq _ _ _ (G6.to (st_mid (y := .row (.jmp j7 (l ++ (R3 ++ [SR.row .drop] ++ R5).map SR.v).length)) rfl)) (by lia) (by rw [List.length_append]; show R3.length + (R5.length + 1) ≤ _; lia) fun K d =>
        sg_orj (allOf jj3_ok hj7) (s3 K d) (by have := s5 K d; rwa [List.length_append] at this) (by rw [gn_len, List.length_append, List.length_append]; show l.length + (R3.length + 1 + R5.length) = l.length + 0 + R3.length + 1 + R5.length; lia)
    (repeat first | walk_at "go" | refine ⟨rfl, ?_⟩ | refine ⟨len_ok rfl, ?_⟩)
    refine brkI (fun e => ?_) (fun e => ?_)
    · (repeat first | walk_at "go" | refine ⟨rfl, ?_⟩ | refine ⟨len_ok rfl, ?_⟩)
      refine ⟨_, m + 2, Nat.le_refl _, hr, ?_⟩
      (repeat first | walk_at "go" | refine ⟨rfl, ?_⟩ | refine ⟨len_ok rfl, ?_⟩)
      refine .mk σ p rr a c L l _ [] _ en G2 (by lia) hz fun σ3 k3 R3 G3 hk3 hl3 s3 => ?_
      have G3 : Gn σ p rr a c L l k3 R3 σ3 := G3
      (repeat first | walk_at "go" | refine ⟨rfl, ?_⟩ | refine ⟨len_ok rfl, ?_⟩)
      refine ⟨_, G3.hr, ?_⟩
      (repeat first | walk_at "go" | refine ⟨rfl, ?_⟩ | refine ⟨len_ok rfl, ?_⟩)
      refine ⟨G3.nr, ?_⟩
      (repeat first | walk_at "go" | refine ⟨rfl, ?_⟩ | refine ⟨len_ok rfl, ?_⟩)
      refine ⟨_, G3.hr, by rw [gn_len]; exact LBle (by lia), ?_⟩
      have G4 := G3.app (r := .row .drop)
      (repeat first | walk_at "go" | refine ⟨rfl, ?_⟩ | refine ⟨len_ok rfl, ?_⟩)
      refine ⟨_, m + 2, Nat.le_refl _, hr, ?_⟩
      (repeat first | walk_at "go" | refine ⟨rfl, ?_⟩ | refine ⟨len_ok rfl, ?_⟩)
      refine .mk σ p rr a c L l _ _ _ en G4 (by lia) (by rw [List.length_append]; show l.length + (R3.length + 1) + cst m ≤ 900; lia) fun σ5 k5 R5 G5 hk5 hl5 s5 => ?_
      (repeat first | walk_at "go" | refine ⟨rfl, ?_⟩ | refine ⟨len_ok rfl, ?_⟩)
      refine ⟨G5.nr, ?_⟩
      (repeat first | walk_at "go" | refine ⟨rfl, ?_⟩ | refine ⟨len_ok rfl, ?_⟩)
      refine ⟨_, G5.hr, by rw [gn_len, List.length_append, List.length_append]; exact LBle (by show l.length + (R3.length + 1 + R5.length) + 1 ≤ 1000; lia), ?_⟩
      have G6 := G5.app (r := .row .drop)
      rw [List.append_assoc (R3 ++ [SR.row .drop])] at G6
      (repeat first | walk_at "go" | refine ⟨rfl, ?_⟩ | refine ⟨len_ok rfl, ?_⟩)
      refine ⟨_, 1, Nat.succ_le_succ (Nat.zero_le _), hdr, .mk σ p rr a c L l _ 3 _ G6 (by lia) (by decide) fun j7 σ7 hj7 G7 hk7 => ?_⟩
      obtain ⟨j8, hj8⟩ := pick (l := ii3) (j := j7) hj7
      (repeat first | walk_at "go" | refine ⟨rfl, ?_⟩ | refine ⟨len_ok rfl, ?_⟩)
      refine ix_tn (d := .str j8.w) (show (ii3.map fun j => V.str j.w)[j7]? = _ from mapGet (f := fun j : J => V.str j.w) hj8) (Nat.le_trans (Nat.le_of_lt hj7) (by decide)) ?_
      (repeat first | walk_at "go" | refine ⟨rfl, ?_⟩ | refine ⟨len_ok rfl, ?_⟩)
      refine ⟨_, G7.hr, ?_⟩
      (repeat first | walk_at "go" | refine ⟨rfl, ?_⟩ | refine ⟨len_ok rfl, ?_⟩)
      refine ⟨_, G7.hr, Int.natCast_nonneg _, st_lt, ?_⟩
      have G8 := G7.to (st_mid (A := R3) (x := .row .drop) (B := R5 ++ [.row .drop]) (y := .row (.jmp j8 (l ++ (R3 ++ [SR.row .drop] ++ (R5 ++ [SR.row .drop])).map SR.v).length)) rfl)
      have ht8 : (l ++ (R3 ++ [SR.row .drop] ++ (R5 ++ [SR.row .drop])).map SR.v).length = l.length + R3.length + 1 + R5.length + 1 := by
        rw [gn_len, List.length_append, List.length_append, List.length_append]; show l.length + (R3.length + 1 + (R5.length + 1)) = _; lia
      generalize (l ++ (R3 ++ [SR.row .drop] ++ (R5 ++ [SR.row .drop])).map SR.v).length = t8 at G8 ht8 ⊢
      have hl8 : (R3 ++ SR.row (.jmp j8 t8) :: (R5 ++ [SR.row .drop])).length = R3.length + 1 + R5.length + 1 := by
        rw [List.length_append, List.length_cons, List.length_append]; show R3.length + (R5.length + 1 + 1) = _; lia
      (repeat first | walk_at "go" | refine ⟨rfl, ?_⟩ | refine ⟨len_ok rfl, ?_⟩)
      refine ⟨_, G8.hr, ?_⟩
      (repeat first | walk_at "go" | refine ⟨rfl, ?_⟩ | refine ⟨len_ok rfl, ?_⟩)
      refine ⟨_, m + 2, Nat.le_refl _, hr, ?_⟩
      (repeat first | walk_at "go" | refine ⟨rfl, ?_⟩ | refine ⟨len_ok rfl, ?_⟩)
      refine .mk σ p rr a c L l _ _ _ en G8 (by lia) (by rw [hl8]; lia) fun σ9 k9 R9 G9 hk9 hl9 s9 => ?_
      (repeat first | walk_at "go" | refine ⟨rfl, ?_⟩ | refine ⟨len_ok rfl, ?_⟩)
      refine ⟨_, G9.hr, ?_⟩
      have em : ((l ++ (R3 ++ SR.row (.jmp j8 t8) :: (R5 ++ [SR.row .drop])).map SR.v).length : Int) - 1 = ((l ++ (R3 ++ SR.row (.jmp j8 t8) :: R5).map SR.v).length : Nat) := by
        rw [gn_len, gn_len, hl8, List.length_append, List.length_cons]; lia
      have es : R3 ++ SR.row (.jmp j8 t8) :: (R5 ++ [SR.row .drop]) ++ R9 = (R3 ++ SR.row (.jmp j8 t8) :: R5) ++ [SR.row .drop] ++ R9 := congrArg (· ++ R9) (List.append_assoc R3 (SR.row (.jmp j8 t8) :: R5) [SR.row .drop]).symm
      rw [es] at G9 ⊢
      (repeat first | walk_at "go" | refine ⟨rfl, ?_⟩ | refine ⟨len_ok rfl, ?_⟩)
      refine ⟨_, G9.hr, by rw [em]; exact Int.natCast_nonneg _, by rw [em]; exact st_lt, ?_⟩
      rw [em]
      have G10 := G9.to (st_mid (A := R3 ++ SR.row (.jmp j8 t8) :: R5) (x := .row .drop) (B := R9) (y := .row (.jmp .jump (l ++ ((R3 ++ SR.row (.jmp j8 t8) :: R5) ++ [SR.row .drop] ++ R9).map SR.v).length)) rfl)
      rw [List.append_assoc R3] at G10
      (repeat first | walk_at "go" | refine ⟨rfl, ?_⟩ | refine ⟨len_ok rfl, ?_⟩)
      refine hq _ _ _ G10 (by lia) (by rw [List.length_append, List.length_append, List.length_cons]; show R3.length + (R5.length + 1 + (R9.length + 1)) ≤ _; lia) fun K d => sg_cond (allOf ii3_ok hj8) (s3 K d) ?_ ?_ ht8 ?_
      · have := s5 K d; rwa [List.length_append] at this
      · have := s9 K d; rw [hl8] at this
        rwa [show l.length + (R3.length + 1 + R5.length + 1) = l.length + R3.length + 1 + R5.length + 1 by lia] at this
      · rw [gn_len, ← es, List.length_append, hl8]; lia
    (repeat first | walk_at "go" | refine ⟨rfl, ?_⟩ | refine ⟨len_ok rfl, ?_⟩)
    refine brkI (fun e => ?_) (fun e => ?_)
    · (repeat first | walk_at "go" | refine ⟨rfl, ?_⟩ | refine ⟨len_ok rfl, ?_⟩)
      refine ⟨_, m + 2, Nat.le_refl _, hr, ?_⟩
      (repeat first | walk_at "go" | refine ⟨rfl, ?_⟩ | refine ⟨len_ok rfl, ?_⟩)
      refine .mk σ p rr a c L l _ [] _ en G2 (by lia) hz fun σ3 k3 R3 G3 hk3 hl3 s3 => ?_
      have G3 : Gn σ p rr a c L l k3 R3 σ3 := G3
      (repeat first | walk_at "go" | refine ⟨rfl, ?_⟩ | refine ⟨len_ok rfl, ?_⟩)
      refine ⟨G3.nr, ?_⟩
      (repeat first | walk_at "go" | refine ⟨rfl, ?_⟩ | refine ⟨len_ok rfl, ?_⟩)
      refine fun c1 h1 => ?_
      have G31 := G3.new (ds := [V.tup [V.str 19], V.tup [V.str 21]]) h1
      (repeat first | walk_at "go" | refine ⟨rfl, ?_⟩ | refine ⟨len_ok rfl, ?_⟩)
      refine fun c2 h2 => ?_
      have G32 := G31.new (ds := [V.tup [V.str 17, V.int 1], V.tup [V.str 22], V.tup [V.str 22], V.tup [V.str 21]]) h2
      (repeat first | walk_at "go" | refine ⟨rfl, ?_⟩ | refine ⟨len_ok rfl, ?_⟩)
      refine fun c3 h3 => ?_
      have n12 : c1 ≠ c2 := Ext.ne (put_self _ _ _) h2
      have n13 : c1 ≠ c3 := Ext.ne ((put_ne n12).trans (put_self _ _ _)) h3
      have n23 : c2 ≠ c3 := Ext.ne (put_self _ _ _) h3
      (repeat first | walk_at "go" | refine ⟨rfl, ?_⟩ | refine ⟨len_ok rfl, ?_⟩)
      refine ⟨_, 1, Nat.succ_le_succ (Nat.zero_le _), hdr, .mk σ p rr a c L l _ 2 _ (G32.new h3) (by lia) (by decide) fun j5 σ5 hj5 G5 hk5 => ?_⟩
      have v1 := hk5 c1 _ (Ext.ne G3.hp h1).symm ((put_ne n13).trans ((put_ne n12).trans (put_self _ _ _)))
      have v2 := hk5 c2 _ (Ext.ne G31.hp h2).symm ((put_ne n23).trans (put_self _ _ _))
      have v3 := hk5 c3 _ (Ext.ne G32.hp h3).symm (put_self _ _ _)
      (repeat first | walk_at "go" | refine ⟨rfl, ?_⟩ | refine ⟨len_ok rfl, ?_⟩)
      cases j5 with
      | zero =>
        refine ix_ln (j := 0) (d := .list c1) v3 rfl ?_
        (repeat first | walk_at "go" | refine ⟨rfl, ?_⟩ | refine ⟨len_ok rfl, ?_⟩)
        refine ⟨_, _, Ext.ne G3.hr h1, G5.hr, v1, by rw [gn_len]; exact LBle (by show l.length + R3.length + 2 ≤ 1000; lia), ?_⟩
        (repeat first | walk_at "go" | refine ⟨rfl, ?_⟩ | refine ⟨len_ok rfl, ?_⟩)
        exact hq _ _ _ (G5.to (R' := R3 ++ [.row .dup, .row .drop]) (by rw [List.map_append, ← List.append_assoc]; rfl)) (by lia) (by rw [List.length_append]; show R3.length + 2 ≤ _; lia) fun K d => sg_dd (s3 K d)
      | succ j5 =>
        obtain rfl : j5 = 0 := by lia
        refine ix_ln (j := 1) (d := .list c2) v3 rfl ?_
        (repeat first | walk_at "go" | refine ⟨rfl, ?_⟩ | refine ⟨len_ok rfl, ?_⟩)
        refine ⟨_, _, Ext.ne G31.hr h2, G5.hr, v2, by rw [gn_len]; exact LBle (by show l.length + R3.length + 4 ≤ 1000; lia), ?_⟩
        (repeat first | walk_at "go" | refine ⟨rfl, ?_⟩ | refine ⟨len_ok rfl, ?_⟩)
        exact hq _ _ _ (G5.to (R' := R3 ++ [.row (.const (.int 1)), .row .swap, .row .swap, .row .drop]) (by rw [List.map_append, ← List.append_assoc]; rfl)) (by lia) (by rw [List.length_append]; show R3.length + 4 ≤ _; have := cst_pos m; lia) fun K d => sg_ss (s3 K d)
    · (repeat first | walk_at "go" | refine ⟨rfl, ?_⟩ | refine ⟨len_ok rfl, ?_⟩)
      refine ⟨_, m + 2, Nat.le_refl _, hr, ?_⟩
      (repeat first | walk_at "go" | refine ⟨rfl, ?_⟩ | refine ⟨len_ok rfl, ?_⟩)
      refine .mk σ p rr a c L l _ [] _ en G2 (by lia) hz fun σ3 k3 R3 G3 hk3 hl3 s3 => ?_
      have G3 : Gn σ p rr a c L l k3 R3 σ3 := G3
      (repeat first | walk_at "go" | refine ⟨rfl, ?_⟩ | refine ⟨len_ok rfl, ?_⟩)
      refine ⟨G3.nr, ?_⟩
      (repeat first | walk_at "go" | refine ⟨rfl, ?_⟩ | refine ⟨len_ok rfl, ?_⟩)
      refine ⟨_, G3.hr, by rw [gn_len]; exact LBle (by lia), ?_⟩
      (repeat first | walk_at "go" | refine ⟨rfl, ?_⟩ | refine ⟨len_ok rfl, ?_⟩)
      exact hq _ _ _ (G3.app (r := .row (.func .tick 1 1))) (by lia) (by rw [List.length_append]; show R3.length + 1 ≤ _; lia) fun K d => sg_tick (s3 K d)
  · (repeat first | walk_at "go" | refine ⟨rfl, ?_⟩ | refine ⟨len_ok rfl, ?_⟩)
    refine ifI (fun e => ?_) (fun e => ?_)
    · (repeat first | walk_at "go" | refine ⟨rfl, ?_⟩ | refine ⟨len_ok rfl, ?_⟩)
      refine ⟨_, 1, Nat.succ_le_succ (Nat.zero_le _), hdr, .mk σ p rr a c L l k 12 [] G (by lia) (by decide) fun j σ2 hj G2 _ => hc _ _ (.mk j (k + 1) (fun z => by subst z; exact ff e) (Nat.le_refl _) ?_ G2)⟩
      cases n with
      | zero => exact ff e
      | succ m => have := cst_pos m; show k + 1 + 1 ≤ k + (3 * cst m + 2); lia
    · exact hc _ _ (.mk 0 k (fun _ => rfl) (Nat.le_succ _) (Nat.add_le_add_left hc0 _) G)
theorem f_expr {K : Ctx} (hd : FnOK K 1 (.ref 339) fun ds σ Q X => S_draw σ Q X ds) (h : chkFn K.frag 381 p_law_expr n_law_expr m_law_expr = true) : ∀ n, FnOK K (n + 2) (.ref 381) fun ds σ Q X => S_expr n σ Q X ds
  | 0 => f_exprS hd h 0 nofun
  | n + 1 => f_exprS hd h (n + 1) fun m e => Nat.succ.inj e ▸ f_expr hd h n
end Mine
namespace Mine
noncomputable def rows5 (n : Int) : List SR := [.row (.line n), .row .begin, .row .settle, .row .enter, .row .leave]
theorem sg_rows5 {K lo : Nat} {n : Nat} (hn : n < 9) : ∀ r ∈ rows5 (n : Int), Seg K lo [r] 0 0 := by
  refine con (.plain 0 rfl (show (n : Int).natAbs ≤ 9 by lia)) ?_
  exact con (.plain 0 rfl trivial) (con (.plain 0 rfl trivial) (con (.plain 0 rfl trivial) (con (.plain 0 rfl trivial) nilP))) 
theorem sg_to {K lo k : Nat} (h : k < K) : Seg K lo [.to .jump k] 0 0 := .one (fun D h1 h2 => ⟨h, h1⟩) fun _ e => SR.to_ne e
theorem sg_print {K lo : Nat} {A : List SR} (h1 : Seg K lo A 0 1) : Seg K lo (A ++ [.row (.func .print 1 0)]) 0 0 :=
  h1.append (.plain 0 rfl ⟨by decide, by decide⟩)
theorem sg_ret1 {K lo : Nat} {A : List SR} (h1 : Seg K lo A 0 1) : Seg K lo (A ++ [.row .ret1]) 0 0 :=
  h1.append (.plain 0 rfl trivial)
noncomputable def ii2 : List J := [.iff, .ift]
theorem sg_if {K lo k : Nat} {A : List SR} (hk : k < K) (h1 : Seg K lo A 0 1) : ∀ j ∈ ii2, Seg K lo (A ++ [.to j k]) 0 0 := by
  exact con (h1.append (.one (fun D a b => ⟨hk, .inl rfl, a, b⟩) fun _ e => SR.to_ne e)) (con (h1.append (.one (fun D a b => ⟨hk, .inr rfl, a, b⟩) fun _ e => SR.to_ne e)) nilP)
theorem R18 {R : List SR} {x : SR} (h : R.length ≤ 17) : (R ++ [x]).length ≤ 18 := by rw [List.length_append]; exact Nat.succ_le_succ h
theorem apLB {l : List V} {R : List SR} (hl : l.length + 20 ≤ 900) (h : R.length ≤ 17) : (l ++ R.map SR.v).length + 1 ≤ LB := by rw [gn_len]; exact LBle (by lia)
inductive S_stmt (σ : Sto) (Q : V → Sto → Prop) (X : Sto → Prop) : List V → Prop
  | mk (p rr a : Addr) (c : Int) (L : List Int) (l : List V) (k N : Nat) (i : Int) (hi : i = (N : Nat)) (G : Gn σ p rr a c L l k [] σ) (hk : k + 30 ≤ 1000) (hl : l.length + 20 ≤ 900) (hN : 0 < N)
    (h : ∀ σ' k' R, Gn σ p rr a c L l k' R σ' → k' ≤ k + 19 → R.length ≤ 18 → Seg N l.length R 0 0 → Q .non σ') : S_stmt σ Q X [.list p, .list rr, .int i]
theorem f_statement {K : Ctx} (hd : FnOK K 1 (.ref 339) fun ds σ Q X => S_draw σ Q X ds) (he : FnOK K 4 (.ref 381) fun ds σ Q X => S_expr 2 σ Q X ds) (h : chkFn K.frag 388 p_law_statement n_law_statement m_law_statement = true) :
    FnOK K 5 (.ref 388) fun ds σ Q X => S_stmt σ Q X ds := fnPure h fun ds σ Q X hS => by
  induction hS with | mk p rr a c L l k N i hi G hk hl hN hq => ?_
  subst hi
  refine ⟨rfl, ?_⟩
  have hdr := drawP hd
  (repeat first | walk_at "go" | refine ⟨rfl, ?_⟩ | refine ⟨len_ok rfl, ?_⟩)
  refine ⟨_, 1, by decide, hdr, .mk σ p rr a c L l k 10 [] G (by lia) (by decide) fun j σ2 hj G2 _ => ?_⟩
  (repeat first | walk_at "go" | refine ⟨rfl, ?_⟩ | refine ⟨len_ok rfl, ?_⟩)
  refine brkI (fun e => ?_) (fun e9 => ?_)
  · (repeat first | walk_at "go" | refine ⟨rfl, ?_⟩ | refine ⟨len_ok rfl, ?_⟩)
    refine ⟨G2.nr, ?_⟩
    (repeat first | walk_at "go" | refine ⟨rfl, ?_⟩ | refine ⟨len_ok rfl, ?_⟩)
    refine ⟨_, 1, by decide, hdr, .mk σ p rr a c L l _ 9 [] G2 (by lia) (by decide) fun j3 σ3 hj3 G3 _ => ?_⟩
    (repeat first | walk_at "go" | refine ⟨rfl, ?_⟩ | refine ⟨len_ok rfl, ?_⟩)
    refine fun cc hcc => ?_
    (repeat first | walk_at "go" | refine ⟨rfl, ?_⟩ | refine ⟨len_ok rfl, ?_⟩)
    refine ⟨_, 1, by decide, hdr, .mk σ p rr a c L l _ 5 [] (G3.new hcc) (by lia) (by decide) fun j4 σ4 hj4 G4 hk4 => ?_⟩
    obtain ⟨r, hr⟩ := pick (l := rows5 (j3 : Nat)) (j := j4) hj4
    (repeat first | walk_at "go" | refine ⟨rfl, ?_⟩ | refine ⟨len_ok rfl, ?_⟩)
    refine ix_ln (d := r.v) (hk4 cc _ (Ext.ne G3.hp hcc).symm (put_self _ _ _)) (show ((rows5 (j3 : Nat)).map SR.v)[j4]? = _ from mapGet hr) ?_
    (repeat first | walk_at "go" | refine ⟨rfl, ?_⟩ | refine ⟨len_ok rfl, ?_⟩)
    refine ⟨_, G4.hr, apLB hl (Nat.zero_le _), ?_⟩
    (repeat first | walk_at "go" | refine ⟨rfl, ?_⟩ | refine ⟨len_ok rfl, ?_⟩)
    exact hq _ _ _ (G4.app (r := r)) (by lia) (R18 (Nat.zero_le _)) (allOf (sg_rows5 hj3) hr)
  (repeat first | walk_at "go" | refine ⟨rfl, ?_⟩ | refine ⟨len_ok rfl, ?_⟩)
  refine brkI (fun e => ?_) (fun e8 => ?_)
  · (repeat first | walk_at "go" | refine ⟨rfl, ?_⟩ | refine ⟨len_ok rfl, ?_⟩)
    refine ⟨G2.nr, ?_⟩
    (repeat first | walk_at "go" | refine ⟨rfl, ?_⟩ | refine ⟨len_ok rfl, ?_⟩)
    refine ⟨_, 1, by decide, hdr, .mk σ p rr a c L l _ N [] G2 (by lia) hN fun j3 σ3 hj3 G3 _ => ?_⟩
    (repeat first | walk_at "go" | refine ⟨rfl, ?_⟩ | refine ⟨len_ok rfl, ?_⟩)
    refine ⟨_, G3.hr, apLB hl (Nat.zero_le _), ?_⟩
    (repeat first | walk_at "go" | refine ⟨rfl, ?_⟩ | refine ⟨len_ok rfl, ?_⟩)
    exact hq _ _ _ (G3.app (r := .to .jump j3)) (by lia) (R18 (Nat.zero_le _)) (sg_to hj3)
  (repeat first | walk_at "go" | refine ⟨rfl, ?_⟩ | refine ⟨len_ok rfl, ?_⟩)
  refine ⟨_, 4, Nat.le_refl _, exprP he, ?_⟩
  (repeat first | walk_at "go" | refine ⟨rfl, ?_⟩ | refine ⟨len_ok rfl, ?_⟩)
  refine .mk σ p rr a c L l _ [] _ rfl G2 (by show k + 1 + 17 ≤ 1000; lia) (by show l.length + 0 + 17 ≤ 900; lia) fun σ3 k3 R3 G3 hk3 hl3 s3 => ?_
  have G3 : Gn σ p rr a c L l k3 R3 σ3 := G3
  have hk3 : k3 ≤ k + 1 + 17 := hk3
  have hl3 : R3.length ≤ 17 := hl3
  have s3 : Seg N l.length R3 0 1 := s3 N 0
  (repeat first | walk_at "go" | refine ⟨rfl, ?_⟩ | refine ⟨len_ok rfl, ?_⟩)
  refine brkI (fun e => ?_) (fun e4 => ?_)
  · (repeat first | walk_at "go" | refine ⟨rfl, ?_⟩ | refine ⟨len_ok rfl, ?_⟩)
    refine ⟨G3.nr, ?_⟩
    (repeat first | walk_at "go" | refine ⟨rfl, ?_⟩ | refine ⟨len_ok rfl, ?_⟩)
    refine ⟨_, G3.hr, apLB hl hl3, ?_⟩
    (repeat first | walk_at "go" | refine ⟨rfl, ?_⟩ | refine ⟨len_ok rfl, ?_⟩)
    exact hq _ _ _ (G3.app (r := .row (.func .print 1 0))) (by lia) (R18 hl3) (sg_print s3)
  (repeat first | walk_at "go" | refine ⟨rfl, ?_⟩ | refine ⟨len_ok rfl, ?_⟩)
  refine brkI (fun e => ?_) (fun e5 => ?_)
  · (repeat first | walk_at "go" | refine ⟨rfl, ?_⟩ | refine ⟨len_ok rfl, ?_⟩)
    refine ⟨G3.nr, ?_⟩
    (repeat first | walk_at "go" | refine ⟨rfl, ?_⟩ | refine ⟨len_ok rfl, ?_⟩)
    refine ⟨_, G3.hr, apLB hl hl3, ?_⟩
    (repeat first | walk_at "go" | refine ⟨rfl, ?_⟩ | refine ⟨len_ok rfl, ?_⟩)
    exact hq _ _ _ (G3.app (r := .row .drop)) (by lia) (R18 hl3) (s3.append sg_drop)
  (repeat first | walk_at "go" | refine ⟨rfl, ?_⟩ | refine ⟨len_ok rfl, ?_⟩)
  refine brkI (fun e => ?_) (fun e6 => ?_)
  · (repeat first | walk_at "go" | refine ⟨rfl, ?_⟩ | refine ⟨len_ok rfl, ?_⟩)
    refine ⟨G3.nr, ?_⟩
    (repeat first | walk_at "go" | refine ⟨rfl, ?_⟩ | refine ⟨len_ok rfl, ?_⟩)
    refine ⟨_, G3.hr, apLB hl hl3, ?_⟩
    (repeat first | walk_at "go" | refine ⟨rfl, ?_⟩ | refine ⟨len_ok rfl, ?_⟩)
    exact hq _ _ _ (G3.app (r := .row .ret1)) (by lia) (R18 hl3) (sg_ret1 s3)
  (repeat first | walk_at "go" | refine ⟨rfl, ?_⟩ | refine ⟨len_ok rfl, ?_⟩)
  refine ⟨G3.nr, ?_⟩
  have n9 := neN (b := 9) e9
  have n8 := neN (b := 8) e8
  have n5 := neN (b := 5) e6
  have n4 := neN (b := 4) e5
  have ge : ¬ (j : Int) < 4 := of_decide_eq_false e4
  obtain ⟨i, rfl⟩ : ∃ i, j = i + 6 := ⟨j - 6, by lia⟩
  have hi2 : i < 2 := by lia
  have ei : ((i + 6 : Nat) : Int) - 6 = (i : Nat) := by lia
  obtain ⟨jw, hjw⟩ := pick (l := ii2) (j := i) hi2
  (repeat first | walk_at "go" | refine ⟨rfl, ?_⟩ | refine ⟨len_ok rfl, ?_⟩)
  rw [ei]
  refine ix_tn (d := .str jw.w) (show (ii2.map fun j => V.str j.w)[i]? = _ from mapGet (f := fun j : J => V.str j.w) hjw) (by lia) ?_
  (repeat first | walk_at "go" | refine ⟨rfl, ?_⟩ | refine ⟨len_ok rfl, ?_⟩)
  refine ⟨_, 1, by decide, hdr, .mk σ p rr a c L l _ N _ G3 (by lia) hN fun j4 σ4 hj4 G4 _ => ?_⟩
  (repeat first | walk_at "go" | refine ⟨rfl, ?_⟩ | refine ⟨len_ok rfl, ?_⟩)
  refine ⟨_, G4.hr, apLB hl hl3, ?_⟩
  (repeat first | walk_at "go" | refine ⟨rfl, ?_⟩ | refine ⟨len_ok rfl, ?_⟩)
  exact hq _ _ _ (G4.app (r := .to jw j4)) (by lia) (R18 hl3) (allOf (sg_if hj4 s3) hjw)
end Mine
namespace Mine
theorem isi_row {r : Row} {d : V} (h : r.l[1]? = some d) : vIsi d .tup = some false := by
  cases r with
  | const v => obtain rfl : v.v = d := Option.some.inj h; cases v <;> rfl
  | _ => cases h <;> rfl
structure F23 (σ : Sto) (p rr ss a : Addr) (c : Int) (L : List Int) (N k : Nat) (R : List SR) (sts : List Nat) (dr : Nat) (σ' : Sto) : Prop where
  ex : ∀ x m, x ≠ p → σ x = some m → σ' x = some m
  hp : σ' p = some [.list a, .int (dr : Nat), .int c]
  ha : σ' a = some (L.map V.int)
  hr : σ' rr = some (R.map SR.v)
  hs : σ' ss = some (natL sts)
  seg : PSeg (N + 1) R sts
  len : R.length ≤ 18 * k
  sl : sts.length = k
  dl : dr ≤ 10 + 19 * k
inductive I23 (σ : Sto) (p rr ss a : Addr) (c : Int) (L : List Int) (N k : Nat) : Loc → Sto → Prop
  | mk (x4 x5 x6 : Option V) (R : List SR) (sts : List Nat) (dr : Nat) {σ' : Sto} (f : F23 σ p rr ss a c L N k R sts dr σ') : I23 σ p rr ss a c L N k [some (.list p), some (.int (N : Nat)), some (.list rr), some (.list ss), x4, x5, x6] σ'
structure F23b (σ : Sto) (p rr ss oo : Addr) (R : List SR) (sts : List Nat) (i : Nat) (σ' : Sto) : Prop where
  ex : ∀ x m, x ≠ p → σ x = some m → σ' x = some m
  hr : σ' rr = some (R.map SR.v)
  hs : σ' ss = some (natL sts)
  ho : σ' oo = some (((R.take i).map (SR.res sts)).map Row.v)
inductive I23b (σ : Sto) (p rr ss oo : Addr) (N : Nat) (R : List SR) (sts : List Nat) (i : Nat) : Loc → Sto → Prop
  | mk (x4 x6 : Option V) {σ' : Sto} (f : F23b σ p rr ss oo R sts i σ') : I23b σ p rr ss oo N R sts i [some (.list p), some (.int (N : Nat)), some (.list rr), some (.list ss), x4, some (.list oo), x6] σ'
inductive S_rows (σ : Sto) (Q : V → Sto → Prop) (X : Sto → Prop) : List V → Prop
  | mk (p a : Addr) (c : Int) (L : List Int) (dr N : Nat) (hap : a ≠ p) (hp : σ p = some [.list a, .int (dr : Nat), .int c]) (ha : σ a = some (L.map V.int)) (hdr : dr ≤ 10) (hN : N ≤ 3)
    (h : ∀ o σ' P, (∀ x m, x ≠ p → σ x = some m → σ' x = some m) → σ' o = some (P.map Row.v) → Good 7 P → Q (.list o) σ') : S_rows σ Q X [.list p, .int (N : Nat)]
theorem f_rows {K : Ctx} (hs : FnOK K 5 (.ref 388) fun ds σ Q X => S_stmt σ Q X ds) (h : chkFn K.frag 395 p_law_rows n_law_rows m_law_rows = true) : FnOK K 6 (.ref 395) fun ds σ Q X => S_rows σ Q X ds := fnPure h fun ds σ Q X hS => by
  induction hS with | mk p a c L dr N hap hp ha hdr hN hq => ?_
  refine ⟨rfl, ?_⟩
  (repeat first | walk_at "go" | refine ⟨rfl, ?_⟩ | refine ⟨len_ok rfl, ?_⟩)
  refine fun rr hrr => ?_
  (repeat first | walk_at "go" | refine ⟨rfl, ?_⟩ | refine ⟨len_ok rfl, ?_⟩)
  refine fun ss hss => ?_
  have nrs : rr ≠ ss := Ext.ne (put_self _ _ _) hss
  have hsn : σ ss = none := (Ext.new hrr).none hss
  have nar : a ≠ rr := Ext.ne ha hrr
  have nas : a ≠ ss := Ext.ne ha hsn
  have npr : p ≠ rr := Ext.ne hp hrr
  have nps : p ≠ ss := Ext.ne hp hsn
  have hx0 : Ext σ (put (put σ rr []) ss []) := (Ext.new hrr).trans (Ext.new hss)
  (repeat first | walk_at "go" | refine ⟨rfl, ?_⟩ | refine ⟨len_ok rfl, ?_⟩)
  refine ⟨big_n (LBle (by lia)), ?_⟩
  (repeat first | walk_at "go" | refine ⟨rfl, ?_⟩ | refine ⟨len_ok rfl, ?_⟩)
  refine for_rng (I23 σ p rr ss a c L N) rfl noX (LBle (by lia)) (.mk none none none [] [] dr ⟨fun x m _ e => hx0 x m e, hx0 _ _ hp, hx0 _ _ ha, (put_ne nrs).trans (put_self _ _ _), put_self _ _ _, .start, Nat.zero_le _, rfl, hdr⟩) (fun k ρ σ' hkN hI => ?_) (fun ρ σ' hI => ?_)
  · induction hI with | @mk x4 x5 x6 R sts dr' σ' f => ?_
    (repeat first | walk_at "go" | refine ⟨rfl, ?_⟩ | refine ⟨len_ok rfl, ?_⟩)
    refine ⟨by rw [f.hs]; exact nofun, ?_⟩
    (repeat first | walk_at "go" | refine ⟨rfl, ?_⟩ | refine ⟨len_ok rfl, ?_⟩)
    refine ⟨_, f.hr, ?_⟩
    (repeat first | walk_at "go" | refine ⟨rfl, ?_⟩ | refine ⟨len_ok rfl, ?_⟩)
    refine ⟨_, f.hs, by rw [natL_len, f.sl]; exact LBle (by lia), ?_⟩
    rw [List.length_map, natL_snoc]
    have hs2 : put σ' ss (natL (sts ++ [R.length])) ss = some (natL (sts ++ [R.length])) := put_self _ _ _
    have G : Gn (put σ' ss (natL (sts ++ [R.length]))) p rr a c L (R.map SR.v) dr' [] (put σ' ss (natL (sts ++ [R.length]))) :=
      ⟨fun _ _ _ _ e => e, hap, nar, npr, (put_ne nps).trans f.hp, (put_ne nas).trans f.ha, (put_ne nrs).trans (f.hr.trans (congrArg some (List.append_nil _).symm))⟩
    have hex2 : ∀ x m, x ≠ p → σ x = some m → put σ' ss (natL (sts ++ [R.length])) x = some m := fun x m h1 e => (put_ne (Ext.ne e hsn)).trans (f.ex x m h1 e)
    generalize put σ' ss (natL (sts ++ [R.length])) = σ2 at hs2 G hex2 ⊢
    have fl := f.len
    have fd := f.dl
    (repeat first | walk_at "go" | refine ⟨rfl, ?_⟩ | refine ⟨len_ok rfl, ?_⟩)
    refine ⟨_, 5, Nat.le_refl _, hs, ?_⟩
    (repeat first | walk_at "go" | refine ⟨rfl, ?_⟩ | refine ⟨len_ok rfl, ?_⟩)
    refine .mk p rr a c L _ dr' (N + 1) _ rfl G (by lia) (by rw [List.length_map]; lia) (Nat.succ_pos _) fun σ3 dr3 R3 G3 hd3 hl3 s3 => ?_
    rw [List.length_map] at s3
    (repeat first | walk_at "go" | refine ⟨rfl, ?_⟩ | refine ⟨len_ok rfl, ?_⟩)
    exact .mk _ _ _ (R ++ R3) (sts ++ [R.length]) dr3 ⟨fun x m h1 e => G3.ex x m h1 (Ext.ne e hrr) (hex2 x m h1 e), G3.hp, G3.ha, G3.hr.trans (congrArg some List.map_append.symm), G3.ex ss _ nps.symm nrs.symm hs2, f.seg.mark.add s3, by rw [List.length_append]; lia, by rw [List.length_append, f.sl]; rfl, by lia⟩
  · induction hI with | @mk x4 x5 x6 R sts dr' σ' f => ?_
    have fl := f.len
    (repeat first | walk_at "go" | refine ⟨rfl, ?_⟩ | refine ⟨len_ok rfl, ?_⟩)
    refine ⟨by rw [f.hs]; exact nofun, ?_⟩
    (repeat first | walk_at "go" | refine ⟨rfl, ?_⟩ | refine ⟨len_ok rfl, ?_⟩)
    refine ⟨_, f.hr, ?_⟩
    (repeat first | walk_at "go" | refine ⟨rfl, ?_⟩ | refine ⟨len_ok rfl, ?_⟩)
    refine ⟨_, f.hs, by rw [natL_len, f.sl]; exact LBle (by lia), ?_⟩
    rw [List.length_map, natL_snoc]
    have hr1 : put σ' ss (natL (sts ++ [R.length])) rr = some (R.map SR.v) := (put_ne nrs).trans f.hr
    (repeat first | walk_at "go" | refine ⟨rfl, ?_⟩ | refine ⟨len_ok rfl, ?_⟩)
    refine ⟨by rw [hr1]; exact nofun, ?_⟩
    (repeat first | walk_at "go" | refine ⟨rfl, ?_⟩ | refine ⟨len_ok rfl, ?_⟩)
    refine ⟨_, hr1, by rw [List.length_map]; exact LBle (by lia), ?_⟩
    rw [show R.map SR.v ++ [V.tup [V.str 42]] = (R ++ [SR.row .ret0]).map SR.v from (List.map_append (f := SR.v) (l₁ := R) (l₂ := [SR.row .ret0])).symm]
    have hss2 : put (put σ' ss (natL (sts ++ [R.length]))) rr ((R ++ [SR.row .ret0]).map SR.v) ss = some (natL (sts ++ [R.length])) := (put_ne nrs.symm).trans (put_self _ _ _)
    have hrr2 := put_self (put σ' ss (natL (sts ++ [R.length]))) rr ((R ++ [SR.row .ret0]).map SR.v)
    have hex2 : ∀ x m, x ≠ p → σ x = some m → put (put σ' ss (natL (sts ++ [R.length]))) rr ((R ++ [SR.row .ret0]).map SR.v) x = some m := fun x m h1 e => (put_ne (Ext.ne e hrr)).trans ((put_ne (Ext.ne e hsn)).trans (f.ex x m h1 e))
    generalize put (put σ' ss (natL (sts ++ [R.length]))) rr ((R ++ [SR.row .ret0]).map SR.v) = σ2 at hss2 hrr2 hex2 ⊢
    have hsg := f.seg.mark
    have hK : (sts ++ [R.length]).length = N + 1 := by rw [List.length_append, f.sl]; rfl
    generalize sts ++ [R.length] = st2 at hss2 hsg hK ⊢
    have good : Good 7 ((R ++ [SR.row .ret0]).map (SR.res st2)) := good_code hsg hK (by lia)
    have hRl : (R ++ [SR.row .ret0]).length ≤ 60 := by rw [List.length_append]; show R.length + 1 ≤ 60; lia
    have hjk : ∀ (i : Nat) (j : J) (k : Nat), (R ++ [SR.row .ret0])[i]? = some (SR.to j k) → k < st2.length := fun i j k hr => by
      obtain ⟨D, _, _, d3, _⟩ := hsg.ex
      rcases Nat.lt_or_ge i R.length with z | z
      · rw [List.getElem?_append_left z] at hr
        exact hK ▸ (d3 i _ hr).1
      · rw [List.getElem?_append_right z] at hr
        cases hz : i - R.length with
        | zero => rw [hz] at hr; cases hr
        | succ z => rw [hz] at hr; cases hr
    clear f fl hsg
    generalize R ++ [SR.row .ret0] = R2 at hrr2 hex2 good hRl hjk ⊢
    (repeat first | walk_at "go" | refine ⟨rfl, ?_⟩ | refine ⟨len_ok rfl, ?_⟩)
    refine fun oo hoo => ?_
    have no1 : rr ≠ oo := Ext.ne hrr2 hoo
    have no2 : ss ≠ oo := Ext.ne hss2 hoo
    have noσ : ∀ x m, x ≠ p → σ x = some m → x ≠ oo := fun x m h1 e => Ext.ne (hex2 x m h1 e) hoo
    (repeat first | walk_at "go" | refine ⟨rfl, ?_⟩ | refine ⟨len_ok rfl, ?_⟩)
    refine for_list (I23b σ p rr ss oo N R2 st2) ((put_ne no1).trans hrr2) noX (map_len (LBle (by lia))) (.mk _ _ ⟨fun x m h1 e => (put_ne (noσ x m h1 e)).trans (hex2 x m h1 e), (put_ne no1).trans hrr2, (put_ne no2).trans hss2, put_self _ _ _⟩) (fun k ρ σ' hI => ?_) (fun i d ρ σ3 hi hI => ?_) (fun ρ σ3 hI => ?_)
    · induction hI with | mk x4 x6 f => exact f.hr
    · induction hI with | @mk x4 x6 σ3 f => ?_
      obtain ⟨r, hr, rfl⟩ := mapInv hi
      refine cutS (fun ρ σ4 => σ4 = σ3 ∧ ρ = [some (.list p), some (.int (N : Nat)), some (.list rr), some (.list ss), x4, some (.list oo), some (r.res st2).v]) (fun ρ σ4 hI => ?_) fun hc => ?_
      · obtain ⟨rfl, rfl⟩ := hI
        (repeat first | walk_at "go" | refine ⟨rfl, ?_⟩ | refine ⟨len_ok rfl, ?_⟩)
        refine ⟨by rw [f.ho]; exact nofun, ?_⟩
        (repeat first | walk_at "go" | refine ⟨rfl, ?_⟩ | refine ⟨len_ok rfl, ?_⟩)
        refine ⟨_, f.ho, by rw [List.length_map, List.length_map]; exact LBle (Nat.le_trans (Nat.succ_le_succ (List.length_take_le' _ _)) (by lia)), ?_⟩
        (repeat first | walk_at "go" | refine ⟨rfl, ?_⟩ | refine ⟨len_ok rfl, ?_⟩)
        exact .mk _ _ ⟨fun x m h1 e => (put_ne (noσ x m h1 e)).trans (f.ex x m h1 e), (put_ne no1).trans f.hr, (put_ne no2).trans f.hs, (put_self _ _ _).trans (by rw [List.take_add_one, hr, List.map_append, List.map_append]; rfl)⟩
      · cases r with
        | to j k =>
          have hkk := hjk i j k hr
          (repeat first | walk_at "go" | refine ⟨rfl, ?_⟩ | refine ⟨len_ok rfl, ?_⟩)
          refine ⟨_, by decide, by decide, rfl, ?_⟩
          (repeat first | walk_at "go" | refine ⟨rfl, ?_⟩ | refine ⟨len_ok rfl, ?_⟩)
          refine .t ?_
          (repeat first | walk_at "go" | refine ⟨rfl, ?_⟩ | refine ⟨len_ok rfl, ?_⟩)
          refine ⟨_, by decide, by decide, rfl, ?_⟩
          (repeat first | walk_at "go" | refine ⟨rfl, ?_⟩ | refine ⟨len_ok rfl, ?_⟩)
          refine ⟨_, by decide, by decide, rfl, ?_⟩
          (repeat first | walk_at "go" | refine ⟨rfl, ?_⟩ | refine ⟨len_ok rfl, ?_⟩)
          refine ⟨_, by decide, by decide, rfl, ?_⟩
          (repeat first | walk_at "go" | refine ⟨rfl, ?_⟩ | refine ⟨len_ok rfl, ?_⟩)
          refine ⟨_, .int (st2.getD k 0 : Nat), f.hs, pyAt_nat.trans (mapGet (f := fun (c : Nat) => V.int (c : Int)) (by rw [List.getD_eq_getElem?_getD, List.getElem?_eq_getElem hkk]; rfl)), ?_⟩
          exact ⟨len_ok rfl, .next (hc _ _ ⟨rfl, rfl⟩)⟩
        | row r =>
          refine ifsE (hc _ _ ⟨rfl, rfl⟩) fun hE => ?_
          (repeat first | walk_at "go" | refine len_r ?_ | refine ⟨rfl, ?_⟩ | refine ⟨len_ok rfl, ?_⟩)
          refine boI_and (fun e => ?_) (fun e => brkI (fun e2 => ff (e.symm.trans e2)) fun _ => hE)
          have hl1 : 1 < r.l.length := by
            rw [row_len]
            have e : 1 + ((r.m : Nat) : Int) = 2 := eq_of_beq e
            lia
          have hg : r.l[1]? = some r.l[1] := List.getElem?_eq_getElem hl1
          (repeat first | walk_at "go" | refine ⟨rfl, ?_⟩ | refine ⟨len_ok rfl, ?_⟩)
          refine ix_r (i := 1) hg ?_
          (repeat first | walk_at "go" | refine ⟨rfl, ?_⟩ | refine ⟨len_ok rfl, ?_⟩)
          rw [isi_row hg]
          exact .f hE
    · induction hI with | @mk x4 x6 σ3 f => ?_
      have ho3 := f.ho
      rw [List.length_map, List.take_length] at ho3
      (repeat first | walk_at "go" | refine ⟨rfl, ?_⟩ | refine ⟨len_ok rfl, ?_⟩)
      exact hq oo σ3 _ f.ex ho3 good
end Mine
namespace Mine
inductive S_passed (σ : Sto) (Q : V → Sto → Prop) (X : Sto → Prop) : List V → Prop
  | mk (a : Addr) (P : List Row) (way : Nat) (ha : σ a = some (P.map Row.v)) (g : Good 7 P) (h : ∀ c σ' P', Ext σ σ' → σ' c = some (P'.map Row.v) → Good 141 P' → Imp (P.map some) (P'.map some) → P'.length ≤ P.length → Q (.list c) σ') : S_passed σ Q X [.list a, .int (way : Nat)]
theorem f_passed {K : Ctx} {nf : Nat} (hnf : 4 ≤ nf) (h1 : FnOK K nf (.ref 266) fun ds σ Q X => S_passOf (fun a => [.list a, .raw (.ref 360)]) 67 σ Q X ds) (h2 : FnOK K 4 (.ref 280) fun ds σ Q X => S_passOf (fun a => [.list a]) 0 σ Q X ds) (h3 : FnOK K 4 (.ref 294) fun ds σ Q X => S_passOf (fun a => [.list a]) 0 σ Q X ds)
    (h4 : FnOK K 4 (.ref 313) fun ds σ Q X => S_passOf (fun a => [.list a]) 0 σ Q X ds) (h5 : FnOK K 4 (.ref 325) fun ds σ Q X => S_passOf (fun a => [.list a]) 0 σ Q X ds) (h : chkFn K.frag 402 p_law_passed n_law_passed m_law_passed = true) : FnOK K (nf + 1) (.ref 402) fun ds σ Q X => S_passed σ Q X ds := fnPure h fun ds σ Q X hS => by
  induction hS with | mk a P way ha g hq => ?_
  refine ⟨rfl, ?_⟩
  have fin : ∀ {c : Addr} {σ' : Sto} {P' : List Row} {d : Nat}, d ≤ 134 → Ext σ σ' → σ' c = some (P'.map Row.v) → Good (7 + d) P' → Imp (P.map some) (P'.map some) → P'.length ≤ P.length → Q (.list c) σ' := fun hd hx hc g' i l => hq _ _ _ hx hc (g'.mono (Nat.add_le_add_left hd 7)) i l
  (repeat first | walk_at "go" | refine ⟨rfl, ?_⟩ | refine ⟨len_ok rfl, ?_⟩)
  refine brkI (fun _ => ?_) (fun _ => ?_)
  · (repeat first | walk_at "go" | refine ⟨rfl, ?_⟩ | refine ⟨len_ok rfl, ?_⟩)
    refine ⟨_, nf, Nat.le_refl _, h1, .mk a P 7 ha g (Nat.le_refl _) (by decide) fun c σ' P' hx _ hc g' i l => ?_⟩
    (repeat first | walk_at "go" | refine ⟨rfl, ?_⟩ | refine ⟨len_ok rfl, ?_⟩)
    exact fin (by decide) hx hc g' i l
  (repeat first | walk_at "go" | refine ⟨rfl, ?_⟩ | refine ⟨len_ok rfl, ?_⟩)
  refine brkI (fun _ => ?_) (fun _ => ?_)
  · (repeat first | walk_at "go" | refine ⟨rfl, ?_⟩ | refine ⟨len_ok rfl, ?_⟩)
    refine ⟨_, 4, hnf, h2, .mk a P 7 ha g (Nat.le_refl _) (by decide) fun c σ' P' hx _ hc g' i l => ?_⟩
    (repeat first | walk_at "go" | refine ⟨rfl, ?_⟩ | refine ⟨len_ok rfl, ?_⟩)
    exact fin (by decide) hx hc g' i l
  (repeat first | walk_at "go" | refine ⟨rfl, ?_⟩ | refine ⟨len_ok rfl, ?_⟩)
  refine brkI (fun _ => ?_) (fun _ => ?_)
  · (repeat first | walk_at "go" | refine ⟨rfl, ?_⟩ | refine ⟨len_ok rfl, ?_⟩)
    refine ⟨_, 4, hnf, h3, .mk a P 7 ha g (Nat.le_refl _) (by decide) fun c σ' P' hx _ hc g' i l => ?_⟩
    (repeat first | walk_at "go" | refine ⟨rfl, ?_⟩ | refine ⟨len_ok rfl, ?_⟩)
    exact fin (by decide) hx hc g' i l
  (repeat first | walk_at "go" | refine ⟨rfl, ?_⟩ | refine ⟨len_ok rfl, ?_⟩)
  refine brkI (fun _ => ?_) (fun _ => ?_)
  · (repeat first | walk_at "go" | refine ⟨rfl, ?_⟩ | refine ⟨len_ok rfl, ?_⟩)
    refine ⟨_, 4, hnf, h4, .mk a P 7 ha g (Nat.le_refl _) (by decide) fun c σ' P' hx _ hc g' i l => ?_⟩
    (repeat first | walk_at "go" | refine ⟨rfl, ?_⟩ | refine ⟨len_ok rfl, ?_⟩)
    exact fin (by decide) hx hc g' i l
  · (repeat first | walk_at "go" | refine ⟨rfl, ?_⟩ | refine ⟨len_ok rfl, ?_⟩)
    refine ⟨_, 4, hnf, h5, .mk a P 7 ha g (Nat.le_refl _) (by decide) fun c σ' P' hx _ hc g' i l => ?_⟩
    (repeat first | walk_at "go" | refine ⟨rfl, ?_⟩ | refine ⟨len_ok rfl, ?_⟩)
    exact fin (by decide) hx hc g' i l
end Mine
namespace Mine
/-! ## what repr gives -/
/-- data without lists, its text at most M long -/
noncomputable def Shw (M n : Nat) (v : V) : Prop := ∃ d, (∀ σ, toPy σ n v = some d) ∧ d.showable = true ∧ d.shown.length ≤ M
theorem pow210 : 2 ^ 210 < 10 ^ 64 := by decide +kernel
theorem symText : ∀ x ∈ symL, (PyData.shown (.str x)).length ≤ 80 := by decide +kernel
theorem log_lt {i : Int} (h : i.natAbs ≤ 2 ^ 210) : i.natAbs.log2 < 1920 := by
  rcases Nat.eq_zero_or_pos i.natAbs with z | z
  · rw [z]; decide
  · refine (Nat.log2_lt (by lia)).mpr (Nat.lt_of_le_of_lt h (Nat.pow_lt_pow_right (by decide) (by decide)))
theorem shw_int {i : Int} {n : Nat} (h : i.natAbs ≤ 2 ^ 210) : Shw 80 (n + 1) (.int i) := by
  refine ⟨.int i, fun σ => rfl, by simp only [PyData.showable, decide_eq_true_eq]; exact log_lt h, ?_⟩
  have e := int_text_length_le10 (k := 64) (by decide) (Nat.lt_of_le_of_lt h pow210)
  show (Str.ofString (toString i)).length ≤ 80
  rw [PySem.ofString_length]; lia
theorem shw_non {n : Nat} : Shw 80 (n + 1) .non := ⟨.none, fun σ => rfl, rfl, by decide⟩
theorem shw_str {k n : Nat} (h : k < 59) : Shw 80 (n + 1) (.str k) := by
  have hl : k < symL.length := h
  have e : symL[k]? = some symL[k] := List.getElem?_eq_getElem hl
  exact ⟨.str symL[k], fun σ => congrArg (Option.map PyData.str) e, rfl, symText _ (List.getElem_mem hl)⟩
theorem shw_val {x : Val} {n : Nat} (h : ValOk 210 x) : Shw 80 (n + 1) x.v := by
  cases x with
  | non => exact shw_non
  | int i => exact shw_int h
  | str k => exact shw_str (Nat.lt_trans h (by decide))
theorem mapO_shw {M n : Nat} : ∀ {l : List V}, (∀ v ∈ l, Shw M n v) → ∃ ds : List PyData, (∀ σ, mapO (toPy σ n) l = some ds) ∧ PyData.showableAll ds = true ∧ ds.length = l.length ∧ ((PyData.shownAll ds).map (·.length)).sum ≤ M * l.length
  | [], _ => ⟨[], fun _ => rfl, rfl, rfl, by simp [PyData.shownAll]⟩
  | v :: l, h => by
    obtain ⟨d, d1, d2, d3⟩ := h v List.mem_cons_self
    obtain ⟨ds, e1, e2, e3, e4⟩ := mapO_shw fun v hv => h v (List.mem_cons_of_mem _ hv)
    refine ⟨d :: ds, fun σ => by show (match toPy σ n v, mapO (toPy σ n) l with | some a, some b => some (a :: b) | _, _ => none) = _; rw [d1 σ, e1 σ], (congr (congrArg and d2) e2 : _ = (true && true)), congrArg Nat.succ e3, ?_⟩
    simp only [PyData.shownAll, List.map_cons, List.sum_cons, List.length_cons, Nat.mul_add, Nat.mul_one]
    lia
theorem shw_tup {M n : Nat} {l : List V} (h : ∀ v ∈ l, Shw M n v) (hl : l.length ≤ 8) : Shw (M * 8 + 19) (n + 1) (.tup l) := by
  obtain ⟨ds, e1, e2, e3, e4⟩ := mapO_shw h
  refine ⟨.tuple ds, fun σ => congrArg (Option.map PyData.tuple) (e1 σ), e2, ?_⟩
  have h1 := tupleText_len_le (PyData.shownAll ds)
  have h2 := PyData.shownAll_length ds
  have h3 : M * l.length ≤ M * 8 := Nat.mul_le_mul_left _ hl
  simp only [PyData.shown]
  lia
/-- a list of such data -/
noncomputable def ShwL (M n : Nat) (l : List V) (d : PyData) : Prop := (∀ σ a, σ a = some l → toPy σ n (.list a) = some d) ∧ d.showable = true ∧ d.shown.length ≤ M
theorem shw_list {M n : Nat} {l : List V} (h : ∀ v ∈ l, Shw M n v) (hl : l.length ≤ 100) : ∃ d, ShwL (M * 100 + 203) (n + 1) l d := by
  obtain ⟨ds, e1, e2, e3, e4⟩ := mapO_shw h
  refine ⟨.list ds, fun σ a ha => by show (match σ a with | some l => (mapO (toPy σ n) l).map PyData.list | none => none) = _; rw [ha]; exact congrArg (Option.map PyData.list) (e1 σ), e2, ?_⟩
  have h1 := listText_len_le (PyData.shownAll ds)
  have h2 := PyData.shownAll_length ds
  have h3 : M * l.length ≤ M * 100 := Nat.mul_le_mul_left _ hl
  simp only [PyData.shown]
  lia
theorem shw_pair {M N n : Nat} {l : List V} {d : PyData} {v : V} (h : ShwL M n l d) (g : Shw N n v) : ∃ e, (∀ σ a, σ a = some l → toPy σ (n + 1) (.tup [.list a, v]) = some e) ∧ e.showable = true ∧ e.shown.length ≤ M + N + 7 := by
  obtain ⟨e, e1, e2, e3⟩ := g
  refine ⟨.tuple [d, e], fun σ a ha => by show (match toPy σ n (.list a), (match toPy σ n v, some [] with | some a, some b => some (a :: b) | _, _ => none) with | some a, some b => some (a :: b) | _, _ => none).map PyData.tuple = _; rw [h.1 σ a ha, e1 σ]; rfl, (congr (congrArg and h.2.1) (congr (congrArg and e2) rfl) : _ = (true && (true && true))), ?_⟩
  have h1 := tupleText_len_le (PyData.shownAll [d, e])
  have := h.2.2
  simp only [PyData.shownAll, List.map_cons, List.map_nil, List.sum_cons, List.sum_nil, List.length_cons, List.length_nil, PyData.shown] at h1 ⊢
  lia
theorem abs_pow {i : Int} {k : Nat} (h : i.natAbs ≤ k) (hk : k ≤ 1000) : i.natAbs ≤ 2 ^ 210 := Nat.le_trans h (Nat.le_trans hk (Nat.le_trans (by decide : 1000 ≤ 2 ^ 10) (Nat.pow_le_pow_right (by decide) (by decide))))
theorem shw_tell {b k n : Nat} {t : Tell} (h : TellOk b k t) (hb : b + k ≤ 210) : Shw 659 (n + 2) t.v := by
  refine shw_tup (M := 80) (fun v hv => ?_) (by simp)
  simp only [List.mem_cons, List.not_mem_nil, or_false] at hv
  rcases hv with rfl | rfl | rfl | rfl
  · exact shw_str (by cases t.f <;> decide)
  · exact shw_val (h.1.up hb)
  · exact shw_int (abs_pow h.2.1 (by lia))
  · exact shw_int (abs_pow h.2.2 (by lia))
theorem shw_fin {b k n : Nat} {e : Fin} (h : FinOk b k e) (hb : b + k ≤ 210) : Shw 659 (n + 2) e.v := by
  cases e with
  | died l =>
    refine shw_tup (M := 80) (fun v hv => ?_) (by simp)
    simp only [List.mem_cons, List.not_mem_nil, or_false] at hv
    rcases hv with rfl | rfl
    · exact shw_str (by decide)
    · exact shw_int (abs_pow (k := 9) h (by decide))
  | done x =>
    refine shw_tup (M := 80) (fun v hv => ?_) (by simp)
    simp only [List.mem_cons, List.not_mem_nil, or_false] at hv
    rcases hv with rfl | rfl
    · exact shw_str (by decide)
    · exact shw_val (ValOk.up h hb)
theorem shw_row {b n : Nat} {r : Row} (h : RowOk b r) (hb : b ≤ 210) (hj : ∀ j t, r = .jmp j t → t ≤ 1000) : Shw 659 (n + 2) r.v := by
  have s1 : ∀ {l : List V}, l.length ≤ 8 → (∀ v ∈ l, Shw 80 (n + 1) v) → Shw 659 (n + 2) (.tup l) := fun hl h => shw_tup (M := 80) h hl
  have one : ∀ {k : Nat}, k < 59 → Shw 659 (n + 2) (.tup [.str k]) := fun hk => s1 (by simp) fun v hv => by
    simp only [List.mem_cons, List.not_mem_nil, or_false] at hv; subst hv; exact shw_str hk
  have two : ∀ {k : Nat} {w : V}, k < 59 → Shw 80 (n + 1) w → Shw 659 (n + 2) (.tup [.str k, w]) := fun hk hw => s1 (by simp) fun v hv => by
    simp only [List.mem_cons, List.not_mem_nil, or_false] at hv
    rcases hv with rfl | rfl
    · exact shw_str hk
    · exact hw
  cases r with
  | const x => exact two (by decide) (shw_val (ValOk.up h hb))
  | bin o => exact two (by decide) (shw_str (by cases o <;> decide))
  | un o => exact two (by decide) (shw_str (by cases o <;> decide))
  | line n => exact two (by decide) (shw_int (abs_pow h (by decide)))
  | jmp j t => exact two (by cases j <;> decide) (shw_int (abs_pow (k := 1000) (by have := hj j t rfl; lia) (by decide)))
  | func f x y =>
    have : x.natAbs ≤ 9 ∧ y.natAbs ≤ 9 := h
    refine s1 (by simp) fun v hv => ?_
    simp only [List.mem_cons, List.not_mem_nil, or_false] at hv
    rcases hv with rfl | rfl | rfl | rfl
    · exact shw_str (by decide)
    · exact shw_str (by cases f <;> decide)
    · exact shw_int (abs_pow this.1 (by decide))
    · exact shw_int (abs_pow this.2 (by decide))
  | _ => exact one (by decide)
theorem shw_rows {b n : Nat} {P : List Row} (g : Good b P) (hb : b ≤ 210) : ∃ d, ShwL 66103 (n + 3) (P.map Row.v) d := by
  refine shw_list (M := 659) (fun v hv => ?_) (by simp; have := g.len; lia)
  obtain ⟨r, hr, rfl⟩ := List.mem_map.mp hv
  obtain ⟨i, hi, e⟩ := List.getElem_of_mem hr
  have e2 : P[i]? = some r := by rw [List.getElem?_eq_getElem hi, e]
  exact shw_row (g.row e2) hb fun j t e3 => by
    have := g.tg i j t (e3 ▸ e2)
    have := g.len
    lia
theorem shw_told {b k n : Nat} {τ : List Tell} (h : ∀ t ∈ τ, TellOk b k t) (hb : b + k ≤ 210) (hl : τ.length ≤ 60) : ∃ d, ShwL 66103 (n + 3) (τ.map Tell.v) d := by
  refine shw_list (M := 659) (fun v hv => ?_) (by simp; lia)
  obtain ⟨t, ht, rfl⟩ := List.mem_map.mp hv
  exact shw_tell (h t ht) hb
theorem size_ok {m : Nat} (h : m ≤ 100000) : m ≤ sizeLine := by rw [sizeLine_eq]; lia
end Mine
namespace Mine
theorem sumV_map : ∀ l : List Int, sumV (l.map V.int) = some l.sum
  | [] => rfl
  | i :: l => by
    show (sumV (l.map V.int)).map (i + ·) = _
    rw [sumV_map l, List.sum_cons]; rfl
theorem isn_end {r : St ⊕ Fin} {σ : Sto} {Q : Bool → Prop} (h : Q (match r with | .inl _ => false | .inr _ => true)) : vCmp .IsNot (endV r) .non σ Q := by
  cases r with
  | inl s => exact h
  | inr e => cases e <;> exact h
theorem selfB {x : Str} {P : Prop} (e : (!(x == x)) = true) : P := by rw [beq_self_eq_true] at e; exact ff e
inductive I25 (v0 p o t ct : V) (way : Nat) (e : V) (σ : Sto) : Loc → Sto → Prop
  | mk (x5 x8 x9 : Option V) {σ' : Sto} (hx : Ext σ σ') : I25 v0 p o t ct way e σ [some v0, some p, some (.int (way : Nat)), some o, some t, x5, some ct, some e, x8, x9] σ'
theorem law_vc {K : Ctx} {n nr np ni : Nat} (hn1 : 6 ≤ n) (hn2 : nr ≤ n) (hn3 : np ≤ n) (hn4 : ni ≤ n) (hd : FnOK K 1 (.ref 339) fun ds σ Q X => S_draw σ Q X ds) (hrows : FnOK K 6 (.ref 395) fun ds σ Q X => S_rows σ Q X ds) (hrun : FnOK K nr (.ref 374) fun ds σ Q X => S_run σ Q X ds)
    (hpass : FnOK K np (.ref 402) fun ds σ Q X => S_passed σ Q X ds) (himp : FnOK K ni (.ref 332) fun ds σ Q X => S_impr σ Q X ds) (L : List Int) (hL : L.length ≤ 63) (σ : Sto) :
    m_law.vc K n (fun _ => False) [some (.frz (L.map V.int)), none, none, none, none, none, none, none, none, none] σ (fun fl _ _ => fl = .ret (.bool true)) := by
  have hLl : (L.map V.int).length ≤ LB := map_len (LBle (Nat.le_trans hL (by decide)))
  have b60 : BigI 60 := big_n (n := 60) (by decide)
  have et : ∀ m : Nat, (L.map V.int).take (cutAt 60 m) = (L.take 60).map V.int := fun _ => List.map_take.symm
  (repeat first | walk_at "go" | refine ⟨rfl, ?_⟩ | refine ⟨len_ok rfl, ?_⟩)
  refine ⟨hLl, b60, fun c1 h1 => ?_⟩
  rw [et]
  have v1 := put_self σ c1 ((L.take 60).map V.int)
  generalize put σ c1 ((L.take 60).map V.int) = σ1 at v1 ⊢
  (repeat first | walk_at "go" | refine ⟨rfl, ?_⟩ | refine ⟨len_ok rfl, ?_⟩)
  refine ⟨hLl, b60, fun c2 h2 => ?_⟩
  rw [et]
  (repeat first | walk_at "go" | refine ⟨rfl, ?_⟩ | refine ⟨len_ok rfl, ?_⟩)
  refine ⟨_, _, put_self _ _ _, sumV_map _, ?_⟩
  (repeat first | walk_at "go" | refine ⟨rfl, ?_⟩ | refine ⟨len_ok rfl, ?_⟩)
  refine ⟨by decide, ?_⟩
  generalize (if (L.take 60).sum < 0 then -(L.take 60).sum else (L.take 60).sum).fmod 7 = cc
  have v2 := (Ext.new (l := (L.take 60).map V.int) h2) _ _ v1
  generalize put σ1 c2 ((L.take 60).map V.int) = σ2 at v2 ⊢
  (repeat first | walk_at "go" | refine ⟨rfl, ?_⟩ | refine ⟨len_ok rfl, ?_⟩)
  refine fun p hp => ?_
  have n1p : c1 ≠ p := Ext.ne v2 hp
  have v3 := (put_ne (l := [.list c1, .int 0, .int cc]) n1p).trans v2
  have p3 := put_self σ2 p [.list c1, .int 0, .int cc]
  generalize put σ2 p [.list c1, .int 0, .int cc] = σ3 at v3 p3 ⊢
  (repeat first | walk_at "go" | refine ⟨rfl, ?_⟩ | refine ⟨len_ok rfl, ?_⟩)
  refine ⟨_, 1, Nat.le_trans (by decide) hn1, hd, .mk p c1 0 5 cc (L.take 60) n1p p3 v3 (by decide) (by decide) fun way hway => ?_⟩
  have v4 := (put_ne (l := [.list c1, .int ((0 + 1 : Nat) : Int), .int cc]) n1p).trans v3
  have p4 := put_self σ3 p [.list c1, .int ((0 + 1 : Nat) : Int), .int cc]
  generalize put σ3 p [.list c1, .int ((0 + 1 : Nat) : Int), .int cc] = σ4 at v4 p4 ⊢
  (repeat first | walk_at "go" | refine ⟨rfl, ?_⟩ | refine ⟨len_ok rfl, ?_⟩)
  refine ⟨_, 6, hn1, hrows, ?_⟩
  (repeat first | walk_at "go" | refine ⟨rfl, ?_⟩ | refine ⟨len_ok rfl, ?_⟩)
  refine ⟨_, 1, Nat.le_trans (by decide) hn1, hd, .mk p c1 (0 + 1) 3 cc (L.take 60) n1p p4 v4 (by decide) (by decide) fun many hmany => ?_⟩
  have v5 := (put_ne (l := [.list c1, .int ((0 + 1 + 1 : Nat) : Int), .int cc]) n1p).trans v4
  have p5 := put_self σ4 p [.list c1, .int ((0 + 1 + 1 : Nat) : Int), .int cc]
  generalize put σ4 p [.list c1, .int ((0 + 1 + 1 : Nat) : Int), .int cc] = σ5 at v5 p5 ⊢
  (repeat first | walk_at "go" | refine ⟨rfl, ?_⟩ | refine ⟨len_ok rfl, ?_⟩)
  refine .mk p c1 cc (L.take 60) (0 + 1 + 1) (1 + many) n1p p5 v5 (by decide) (by lia) fun o σ6 P hx6 ho6 g => ?_
  obtain ⟨dr, hdr⟩ := shw_rows (n := 37) g (by decide)
  (repeat first | walk_at "go" | refine ⟨rfl, ?_⟩ | refine ⟨len_ok rfl, ?_⟩)
  refine ⟨dr, hdr.1 _ _ ho6, hdr.2.1, size_ok (Nat.le_trans hdr.2.2 (by decide)), ?_⟩
  (repeat first | walk_at "go" | refine ⟨rfl, ?_⟩ | refine ⟨len_ok rfl, ?_⟩)
  refine ⟨_, nr, hn2, hrun, .mk o P 7 ho6 g (Nat.le_refl _) (by decide) fun ct σ7 τ r hx7 _ ht7 hr => ?_⟩
  have ho7 := hx7 _ _ ho6
  have okr := run_ok g (by decide) 60 0 s0 τ r s0_ok hr
  obtain ⟨dt, hdt⟩ := shw_told (n := 36) okr.2.1 (by decide) okr.1
  obtain ⟨dt', hdt'⟩ := shw_told (n := 37) okr.2.1 (by decide) okr.1
  (repeat first | walk_at "go" | refine ⟨rfl, ?_⟩ | refine ⟨len_ok rfl, ?_⟩)
  refine ⟨_, np, hn3, hpass, .mk o P way ho7 g fun a1 σ8 P1 hx8 ha1 g1 i1 l1 => ?_⟩
  obtain ⟨q, hq2, e2⟩ : ∃ q : Nat, q ≤ 2 ∧ (1 : Int) + ((way : Nat) : Int).fmod 2 = (q : Nat) := by
    have h1 : 0 ≤ ((way : Nat) : Int).fmod 2 := Int.fmod_nonneg_of_pos _ (by decide)
    have h2 : ((way : Nat) : Int).fmod 2 < 2 := Int.fmod_lt_of_pos _ (by decide)
    exact ⟨(1 + ((way : Nat) : Int).fmod 2).toNat, by lia, by lia⟩
  (repeat first | walk_at "go" | refine ⟨rfl, ?_⟩ | refine ⟨len_ok rfl, ?_⟩)
  refine ⟨_, ni, hn4, himp, ?_⟩
  (repeat first | walk_at "go" | refine ⟨rfl, ?_⟩ | refine ⟨len_ok rfl, ?_⟩)
  refine ⟨by decide, ?_⟩
  (repeat first | walk_at "go" | refine ⟨rfl, ?_⟩ | refine ⟨len_ok rfl, ?_⟩)
  show S_impr σ8 _ _ [_, _, V.int (1 + ((way : Nat) : Int).fmod 2)]
  rw [e2]
  refine .mk o P 7 q (hx8 _ _ ho7) g (Nat.le_refl _) (by decide) hq2 fun a2 σ9 P2 hx9 ha2 g2 i2 l2 => ?_
  have ht9 := hx9 _ _ (hx8 _ _ ht7)
  have ho9 := hx9 _ _ (hx8 _ _ ho7)
  have itm : ∀ d ∈ [V.list a1, V.list a2], ∃ a P', d = .list a ∧ σ9 a = some (P'.map Row.v) ∧ Good 141 P' ∧ Imp (P.map some) (P'.map some) ∧ P'.length ≤ P.length := con ⟨a1, P1, rfl, hx9 _ _ ha1, g1, i1, l1⟩ (con ⟨a2, P2, rfl, ha2, g2, i2, l2⟩ nilP)
  clear hx9 hx8 hx7 ha1 ht7 ho7 ho6 ha2 g1 g2 i1 i2 l1 l2 v5 p5 v4 p4 v3 p3 hx6
  (repeat first | walk_at "go" | refine ⟨rfl, ?_⟩ | refine ⟨len_ok rfl, ?_⟩)
  refine for_tup (fun _ => I25 (.frz (L.map V.int)) (.list p) (.list o) (.txt dr.shown) (.list ct) way (endV r) σ9) noX (len_ok rfl) (.mk none none none (Ext.refl _)) (fun k d ρ σ' hk hI => ?_) (fun ρ σ' hI => ?_)
  · induction hI with | @mk x5 x8 x9 σ' hx => ?_
    obtain ⟨a, P', rfl, ha, g', im, hl⟩ := allOf itm hk
    (repeat first | walk_at "go" | refine ⟨rfl, ?_⟩ | refine ⟨len_ok rfl, ?_⟩)
    refine ⟨dr, hdr.1 _ _ (hx _ _ ho9), hdr.2.1, size_ok (Nat.le_trans hdr.2.2 (by decide)), ?_⟩
    (repeat first | walk_at "go" | refine ⟨rfl, ?_⟩ | refine ⟨len_ok rfl, ?_⟩)
    refine boI_or (fun e => selfB e) (fun _ => ?_)
    (repeat first | walk_at "go" | refine ⟨rfl, ?_⟩ | refine ⟨len_ok rfl, ?_⟩)
    refine ⟨_, hx _ _ ha, ?_⟩
    (repeat first | walk_at "go" | refine ⟨rfl, ?_⟩ | refine ⟨len_ok rfl, ?_⟩)
    refine ⟨_, hx _ _ ho9, ?_⟩
    rw [List.length_map, List.length_map]
    (repeat first | walk_at "go" | refine ⟨rfl, ?_⟩ | refine ⟨len_ok rfl, ?_⟩)
    refine brkI (fun e => absurd (Int.ofNat_lt.mp (of_decide_eq_true e)) (Nat.not_lt.mpr hl)) (fun _ => ?_)
    (repeat first | walk_at "go" | refine ⟨rfl, ?_⟩ | refine ⟨len_ok rfl, ?_⟩)
    refine ⟨_, nr, hn2, hrun, .mk a P' 141 (hx _ _ ha) g' (by decide) (by decide) fun ct2 σ11 τ2 r2 hx11 _ ht11 hr2 => ?_⟩
    obtain ⟨τ3, r3, e3, pf, fn⟩ := im.2 60 τ r hr
    obtain ⟨rfl, rfl⟩ := Prod.mk.inj (Option.some.inj (hr2.symm.trans e3))
    have hx' := hx.trans hx11
    have ht' := hx' _ _ ht9
    obtain ⟨sx, hsx⟩ := pf
    have tk : (τ2.map Tell.v).take (cutAt (((τ.map Tell.v).length : Nat) : Int) (τ2.map Tell.v).length) = τ.map Tell.v := by
      rw [← hsx, List.map_append]
      exact List.take_left
    have bg : BigI (((τ.map Tell.v).length : Nat) : Int) := big_n (map_len (Nat.le_trans okr.1 (by decide)))
    refine ⟨rfl, .next ?_⟩
    have cmp2 : ∀ {P : Prop}, (∀ (c : Addr), P) → P := fun h => h 0
    refine cutS (fun ρ σ' => σ' = σ11 ∧ ρ = [some (.frz (L.map V.int)), some (.list p), some (.int (way : Nat)), some (.list o), some (.txt dr.shown), some (.list a), some (.list ct), some (endV r), some (.list ct2), some (endV r2)]) (fun ρ σ' hI => ?_) fun hc => ?_
    · obtain ⟨rfl, rfl⟩ := hI
      (repeat first | walk_at "go" | refine ⟨rfl, ?_⟩ | refine ⟨len_ok rfl, ?_⟩)
      refine ⟨_, ht', ?_⟩
      (repeat first | walk_at "go" | refine ⟨rfl, ?_⟩ | refine ⟨len_ok rfl, ?_⟩)
      refine ⟨_, ht11, bg, fun c hc => ?_⟩
      rw [tk]
      (repeat first | walk_at "go" | refine ⟨rfl, ?_⟩ | refine ⟨len_ok rfl, ?_⟩)
      refine ⟨dt', hdt'.1 _ _ (put_self _ _ _), hdt'.2.1, size_ok (Nat.le_trans hdt'.2.2 (by decide)), ?_⟩
      (repeat first | walk_at "go" | refine ⟨rfl, ?_⟩ | refine ⟨len_ok rfl, ?_⟩)
      refine ⟨dt', hdt'.1 _ _ ((put_ne (Ext.ne ht' hc)).trans ht'), hdt'.2.1, size_ok (Nat.le_trans hdt'.2.2 (by decide)), ?_⟩
      (repeat first | walk_at "go" | refine ⟨rfl, ?_⟩ | refine ⟨len_ok rfl, ?_⟩)
      refine brkI selfB (fun _ => ?_)
      (repeat first | walk_at "go" | refine ⟨rfl, ?_⟩ | refine ⟨len_ok rfl, ?_⟩)
      exact .mk _ _ _ (hx'.trans (Ext.new hc))
    · have hE := hc _ _ ⟨rfl, rfl⟩
      (repeat first | walk_at "go" | refine ⟨rfl, ?_⟩ | refine ⟨len_ok rfl, ?_⟩)
      refine isn_end ?_
      cases r with
      | inl s => exact .f hE
      | inr e =>
        obtain ⟨rfl, rfl⟩ := fn e rfl
        obtain ⟨de, de1, de2, de3⟩ := shw_pair hdt (shw_fin (n := 37) okr.2.2 (by decide))
        (repeat first | walk_at "go" | refine ⟨rfl, ?_⟩ | refine ⟨len_ok rfl, ?_⟩)
        refine ⟨de, de1 _ _ ht11, de2, size_ok (Nat.le_trans de3 (by decide)), ?_⟩
        (repeat first | walk_at "go" | refine ⟨rfl, ?_⟩ | refine ⟨len_ok rfl, ?_⟩)
        refine ⟨de, de1 _ _ ht', de2, size_ok (Nat.le_trans de3 (by decide)), ?_⟩
        (repeat first | walk_at "go" | refine ⟨rfl, ?_⟩ | refine ⟨len_ok rfl, ?_⟩)
        exact brkI selfB (fun _ => hE)
  · induction hI with | @mk x5 x8 x9 σ' hx => ?_
    (repeat first | walk_at "go" | refine ⟨rfl, ?_⟩ | refine ⟨len_ok rfl, ?_⟩)
    exact rfl
end Mine
namespace Mine
set_option maxHeartbeats 8000000
theorem k_truth (P : Params) : chkFn (Hd.heapK P) 21 p_truth n_truth m_truth = true := by kernel_rfl
theorem k_shape_of (P : Params) : chkFn (Hd.heapK P) 210 p_shape_of n_shape_of m_shape_of = true := by kernel_rfl
theorem k_jumps_of (P : Params) : chkFn (Hd.heapK P) 215 p_jumps_of n_jumps_of m_jumps_of = true := by kernel_rfl
theorem k_with_jumps (P : Params) : chkFn (Hd.heapK P) 222 p_with_jumps n_with_jumps m_with_jumps = true := by kernel_rfl
theorem k_goes_on (P : Params) : chkFn (Hd.heapK P) 229 p_goes_on n_goes_on m_goes_on = true := by kernel_rfl
theorem k_goal_marks (P : Params) : chkFn (Hd.heapK P) 242 p_goal_marks n_goal_marks m_goal_marks = true := by kernel_rfl
theorem k_squeezed_rows (P : Params) : chkFn (Hd.heapK P) 247 p_squeezed_rows n_squeezed_rows m_squeezed_rows = true := by kernel_rfl
theorem k_taken_consts (P : Params) : chkFn (Hd.heapK P) 254 p_taken_consts n_taken_consts m_taken_consts = true := by kernel_rfl
theorem k_folded_value (P : Params) : chkFn (Hd.heapK P) 261 p_folded_value n_folded_value m_folded_value = true := by kernel_rfl
theorem k_fold_rows (P : Params) : chkFn (Hd.heapK P) 266 p_fold_rows n_fold_rows m_fold_rows = true := by kernel_rfl
theorem k_is_taken (P : Params) : chkFn (Hd.heapK P) 273 p_is_taken n_is_taken m_is_taken = true := by kernel_rfl
theorem k_branch_rows (P : Params) : chkFn (Hd.heapK P) 280 p_branch_rows n_branch_rows m_branch_rows = true := by kernel_rfl
theorem k_is_idle (P : Params) : chkFn (Hd.heapK P) 287 p_is_idle n_is_idle m_is_idle = true := by kernel_rfl
theorem k_pair_rows (P : Params) : chkFn (Hd.heapK P) 294 p_pair_rows n_pair_rows m_pair_rows = true := by kernel_rfl
theorem k_landing_row (P : Params) : chkFn (Hd.heapK P) 301 p_landing_row n_landing_row m_landing_row = true := by kernel_rfl
theorem k_chained (P : Params) : chkFn (Hd.heapK P) 308 p_chained n_chained m_chained = true := by kernel_rfl
theorem k_thread_rows (P : Params) : chkFn (Hd.heapK P) 313 p_thread_rows n_thread_rows m_thread_rows = true := by kernel_rfl
theorem k_reached_rows (P : Params) : chkFn (Hd.heapK P) 320 p_reached_rows n_reached_rows m_reached_rows = true := by kernel_rfl
theorem k_live_rows (P : Params) : chkFn (Hd.heapK P) 325 p_live_rows n_live_rows m_live_rows = true := by kernel_rfl
theorem k_improved_rows (P : Params) : chkFn (Hd.heapK P) 332 p_improved_rows n_improved_rows m_improved_rows = true := by kernel_rfl
theorem k_law_draw (P : Params) : chkFn (Hd.heapK P) 339 p_law_draw n_law_draw m_law_draw = true := by kernel_rfl
theorem k_law_number (P : Params) : chkFn (Hd.heapK P) 346 p_law_number n_law_number m_law_number = true := by kernel_rfl
theorem k_law_text (P : Params) : chkFn (Hd.heapK P) 353 p_law_text n_law_text m_law_text = true := by kernel_rfl
theorem k_law_compute (P : Params) : chkFn (Hd.heapK P) 360 p_law_compute n_law_compute m_law_compute = true := by kernel_rfl
theorem k_law_jump (P : Params) : chkFn (Hd.heapK P) 367 p_law_jump n_law_jump m_law_jump = true := by kernel_rfl
theorem k_law_run (P : Params) : chkFn (Hd.heapK P) 374 p_law_run n_law_run m_law_run = true := by kernel_rfl
theorem k_law_expr (P : Params) : chkFn (Hd.heapK P) 381 p_law_expr n_law_expr m_law_expr = true := by kernel_rfl
end Mine
namespace Mine
noncomputable def onTupK (K : Frag) (v : Value) (k : Array Value → Bool) : Bool := match v with
  | .ref a => match K.lookup a with
    | some o => o.cls == .type "tuple" && (match o.data with | .seq xs _ => k xs | _ => false)
    | none => false
  | _ => false
noncomputable def onIntK (v : Value) (k : Int → Bool) : Bool := match v with | .int j _ => k j | _ => false
noncomputable def onStrK (v : Value) (k : Str → Bool) : Bool := match v with | .str j _ => k j | _ => false
noncomputable def relK (K : Frag) : Nat → V → Value → Bool
  | 0, _, _ => false
  | n + 1, d, v => match d with
    | .non => v == .none
    | .int i => onIntK v fun j => i == j
    | .str k => onStrK v fun x => symL[k]? == some x
    | .raw u => u == v
    | .tup l => onTupK K v fun xs => l.length == xs.size && (l.zip xs.toList).all fun p => relK K n p.1 p.2
    | _ => false
theorem relL_zip {hb h : Heap} : ∀ {l : List V} {vs : List Value}, l.length = vs.length → (∀ p ∈ l.zip vs, Rel hb h p.1 p.2) → RelL hb h l vs
  | [], [], _, _ => .nil
  | d :: l, v :: vs, e, h => .cons (h (d, v) List.mem_cons_self) (relL_zip (Nat.succ.inj e) fun p hp => h p (List.mem_cons_of_mem _ hp))
  | [], _ :: _, e, _ => nomatch e
  | _ :: _, [], e, _ => nomatch e
theorem relK_ok {K : Frag} {hb h : Heap} (X : K.In h) : ∀ (n : Nat) {d : V} {v : Value}, relK K n d v = true → Rel hb h d v
  | 0, _, _, e => ff e
  | n + 1, d, v, e => by
    cases d with
    | non => obtain rfl := eq_of_beq (show (v == .none) = true from e); exact .non
    | int i =>
      cases v with
      | int j t => obtain rfl := eq_of_beq (show (i == j) = true from e); exact .int _ _
      | _ => exact ff e
    | str k =>
      cases v with
      | str x t => exact .str _ (eq_of_beq (show (symL[k]? == some x) = true from e))
      | _ => exact ff e
    | raw u => obtain rfl := eq_of_beq (show (u == v) = true from e); exact .raw _
    | tup l =>
      cases v with
      | ref a =>
        cases ho : K.lookup a with
        | none => have e : (match K.lookup a with | some o => _ | none => false) = true := e; rw [ho] at e; exact ff e
        | some o =>
          have e : (match K.lookup a with | some o => o.cls == .type "tuple" && (match o.data with | .seq xs _ => _ | _ => false) | none => false) = true := e
          rw [ho] at e
          have e2 := andR e
          cases hd : o.data with
          | seq xs k =>
            rw [hd] at e2
            exact .tup (X _ _ ho) (eq_of_beq (andL e)) hd (relL_zip ((eq_of_beq (andL e2)).trans Array.length_toList.symm) fun p hp => relK_ok X n (List.all_eq_true.mp (andR e2) p hp))
          | _ => rw [hd] at e2; exact ff e2
      | _ => exact ff e
    | _ => exact ff e
noncomputable def glOk (K : Frag) : Bool := GLV.all fun p => match nsIn K mainGlobals p.1 with
  | some (some v) => relK K 5 p.2 v
  | _ => false
noncomputable def biOk (K : Frag) : Bool := biTab.all fun p => nsIn K mainGlobals p.1 == some none
theorem boot_ok : (biTab.all fun p => bootBuiltins p.1 == some p.2 && p.1 != ("__name__" : Str)) = true := by kernel_rfl
theorem top0_of {K : Frag} {hb : Heap} {p : Program} {loose : List Str} {mg mb : Str → Option Value} (X : K.In hb) (T : TopRead p loose mg mb hb) (h1 : glOk K = true) (h2 : biOk K = true) : Top0 hb where
  ns := by
    refine ⟨mg, mb, T.g, T.b, fun k x d e => ?_, fun x v e => ?_⟩
    · have := List.all_eq_true.mp h1 (x, d) (List.mem_of_getElem? e)
      dsimp only at this
      split at this
      · rename_i v hv
        exact ⟨v, mg_of X T.g hv, relK_ok X 5 this⟩
      · cases this
    · have a1 := List.all_eq_true.mp h2 (x, v) e
      have a2 := List.all_eq_true.mp boot_ok (x, v) e
      simp only [Bool.and_eq_true, beq_iff_eq, bne_iff_ne, ne_eq] at a1 a2
      exact ⟨mg_none_of X T.g a1, by rw [T.builtins x a2.2]; exact a2.1⟩
/-! ## the table of the shapes -/
noncomputable def esOf (K : Frag) (a : Addr) : Array DictEntry := match K.lookup a with
  | some o => (match o.data with | .dict es _ => es | _ => #[])
  | none => #[]
noncomputable def nOf (K : Frag) (a : Addr) : Nat := match K.lookup a with
  | some o => (match o.data with | .dict _ n => n | _ => 0)
  | none => 0
noncomputable def skel (es : Array DictEntry) : List (Str × Tok × Value) := es.toList.filterMap fun e => match e.key with
  | .str x t => some (x, t, e.val)
  | _ => none
noncomputable def shOk (K : Frag) (a : Addr) : Bool := (List.range 59).all fun j => match shTab j, symL[j]? with
  | some d, some x => (match findBy Value.isStrOf (esOf K a) x with
    | some v => relK K 5 d v
    | none => false)
  | none, _ => true
  | _, none => true
theorem lookup_lt {k : Nat} : ∀ {l : List (Nat × V)} {j : Nat} {d : V}, (l.all fun p => Nat.blt p.1 k) = true → l.lookup j = some d → j < k
  | p :: l, j, d, h, e => by
    have h := Bool.and_eq_true_iff.mp h
    rw [List.lookup_cons] at e
    cases z : j == p.1 with
    | true => rw [eq_of_beq z]; exact Nat.le_of_ble_eq_true h.1
    | false => rw [z] at e; exact lookup_lt h.2 e
theorem shTab_lt {j : Nat} {d : V} (h : shTab j = some d) : j < 59 := lookup_lt (l := shL) rfl h
theorem dictOK_of {C : Ctx} {K : Frag} (eK : C.frag = K) {a : Addr} {n : Nat} (ha : (a == sysModules) = false)
    (ho : K.lookup a = some { cls := .type "dict", data := .dict ((skel (esOf K a)).map fun p => { hash := PyData.keyHash C.w.params p.1, key := .str p.1 p.2.1, val := p.2.2 }).toArray n }) (h1 : shOk K a = true) : DictOK C (.ref a) shTab := by
  have X : K.In C.hb := eK ▸ C.ink
  refine ⟨a, findBy Value.isStrOf (esOf K a), rfl, ha, ?_, fun j x d e1 e2 => ?_⟩
  · have eq : esOf K a = ((skel (esOf K a)).map fun p => ({ hash := PyData.keyHash C.w.params p.1, key := .str p.1 p.2.1, val := p.2.2 } : DictEntry)).toArray := by
      conv => lhs; unfold esOf
      rw [ho]
    refine ⟨_, _, n, X _ _ ho, ⟨rfl, rfl, rfl⟩, rfl, fun e he => ?_, fun k => by rw [← eq]; rfl⟩
    simp only [List.mem_toArray, List.mem_map] at he
    obtain ⟨p, _, rfl⟩ := he
    exact ⟨p.1, by show (p.1 == p.1) = true; simp, rfl⟩
  · have := List.all_eq_true.mp h1 j (List.mem_range.mpr (shTab_lt e1))
    rw [e1, e2] at this
    dsimp only at this
    split at this
    · rename_i v hv
      exact ⟨v, hv, relK_ok X 5 this⟩
    · cases this
theorem gl_ok (P : Params) : glOk (Hd.heapK P) = true := by kernel_rfl
theorem bi_ok (P : Params) : biOk (Hd.heapK P) = true := by kernel_rfl
theorem sh_ok (P : Params) : shOk (Hd.heapK P) 73 = true := by kernel_rfl
theorem shapesAt (P : Params) : (Hd.heapK P).lookup 73 = some { cls := .type "dict", data := .dict ((skel (esOf (Hd.heapK P) 73)).map fun p => { hash := PyData.keyHash P p.1, key := .str p.1 p.2.1, val := p.2.2 }).toArray (nOf (Hd.heapK P) 73) } := by kernel_rfl
end Mine
namespace Mine
theorem k_law_statement (P : Params) : chkFn (Hd.heapK P) 388 p_law_statement n_law_statement m_law_statement = true := by kernel_rfl
theorem k_law_rows (P : Params) : chkFn (Hd.heapK P) 395 p_law_rows n_law_rows m_law_rows = true := by kernel_rfl
theorem k_law_passed (P : Params) : chkFn (Hd.heapK P) 402 p_law_passed n_law_passed m_law_passed = true := by kernel_rfl
noncomputable def dieBm : List Value := [.ref 38, .type "Exception", .type "BaseException", .type "object"]
theorem die_at (P : Params) : (Hd.heapK P).lookup 58 = some (excClassObj "Die" "Die" 58 57 [.ref 38] dieBm true [] [] false none none (some (.ref 42)) none (some (.str "Die" 227)) (some (.str "Die" 235)) (some (.bool true)) "Exception.__new__") := by kernel_rfl
section
variable {prog : Program} {w : World} {hb : Heap}
theorem dieCls (X : (Hd.heapK w.params).In hb) : DieCls hb 58 := ⟨_, _, _, _, _, _, _, _, _, _, _, _, _, _, _, _, _, X _ _ (die_at w.params), by decide⟩
noncomputable def ctxOf (prog : Program) (w : World) (hb : Heap) (X : (Hd.heapK w.params).In hb) {p : Program} {loose : List Str} {mg mb : Str → Option Value} (T : TopRead p loose mg mb hb) : Ctx where
  hb := hb
  prog := prog
  w := w
  frag := Hd.heapK w.params
  top := top0_of X T (gl_ok _) (bi_ok _)
  cls := dieCls X
  lim := T.nolimit
  ink := X
theorem law_ok {K : Ctx} (e : K.frag = Hd.heapK K.w.params) (hD : DieRaise K 10) (L : List Int) (hL : L.length ≤ 63) (σ : Sto) :
    m_law.vc K 20 (fun _ => False) [some (.frz (L.map V.int)), none, none, none, none, none, none, none, none, none] σ (fun fl _ _ => fl = .ret (.bool true)) := by
  have hT : DictOK K (.ref 73) shTab := dictOK_of e (by decide) (shapesAt _) (sh_ok _)
  have kk : ∀ {a : Addr} {ps nm : List Str} {m : MSs}, chkFn (Hd.heapK K.w.params) a ps nm m = true → chkFn K.frag a ps nm m = true := fun h => e ▸ h
  have ft := f_truth (kk (k_truth _))
  have fg := f_goes_on (kk (k_goes_on _))
  have fs := f_shape_of hT (kk (k_shape_of _))
  have fj := f_jumps_of fs (kk (k_jumps_of _))
  have fw := f_with_jumps fs (kk (k_with_jumps _))
  have fm := f_goal_marks fj (kk (k_goal_marks _))
  have fq := f_squeezed fj fw (kk (k_squeezed_rows _))
  have fk := f_taken_consts (kk (k_taken_consts _))
  have fnum := f_number (kk (k_law_number _))
  have ftxt := f_text (kk (k_law_text _))
  have fc := f_compute (by decide : 1 ≤ 10) hD fnum ftxt (kk (k_law_compute _))
  have fv := f_folded_value fc (kk (k_folded_value _))
  have ff := f_fold (by decide : 3 ≤ 12) fm fq fk fv (kk (k_fold_rows _))
  have fit := f_is_taken ft (kk (k_is_taken _))
  have fb := f_branch fm fq fit (kk (k_branch_rows _))
  have fid := f_is_idle (kk (k_is_idle _))
  have fp := f_pair fm fq fid (kk (k_pair_rows _))
  have fl := f_landing (kk (k_landing_row _))
  have fch := f_chained (kk (k_chained _))
  have fth := f_thread fj fw fl fch fq (kk (k_thread_rows _))
  have fr := f_reached fj fg (kk (k_reached_rows _))
  have flv := f_live fr fq (kk (k_live_rows _))
  have fi := f_improved (by decide : 4 ≤ 13) ff fb fp fth flv (kk (k_improved_rows _))
  have fjm := f_jump (kk (k_law_jump _))
  have frun := f_run (by decide : 1 ≤ 11) fjm fc (kk (k_law_run _))
  have fd := f_draw (kk (k_law_draw _))
  have fe := f_expr fd (kk (k_law_expr _)) 2
  have fst := f_statement fd fe (kk (k_law_statement _))
  have frw := f_rows fst (kk (k_law_rows _))
  have fps := f_passed (by decide : 4 ≤ 13) ff fb fp fth flv (kk (k_law_passed _))
  exact law_vc (by decide) (by decide : 12 ≤ 20) (by decide : 14 ≤ 20) (by decide : 14 ≤ 20) fd frw frun fps fi L hL σ
/-- the law's own body -/
theorem law_walk {p : Program} {loose : List Str} {mg mb : Str → Option Value} (X : (Hd.heapK w.params).In hb) (T : TopRead p loose mg mb hb) (hD : DieRaise (ctxOf prog w hb X T) 10) {vs : List Value} {L : List Int} {sc : Addr}
    (hLi : hb.IsList sc vs.toArray) (hI : IntsAre vs L) (h63 : L.length ≤ 63) {A : Around} {env : Env} {s : Shared} {body : List Stmt} {m : Str → Option Value} {Q : Flow → Shared → Prop} {E : Value → Shared → Prop}
    (hA : At A [env] 20) (e1 : env.scope.kind = .function) (e2 : env.globals = mainGlobals) (e3 : env.builtins = builtinsNs) (e4 : hb.get? env.locals = none) (e5 : env.cells = []) (e6 : env.frame = some env.locals) (e7 : env.scope.names.all (fun y => y.2 != .free && y.2 != .cell) = true)
    (hns : s.heap.Ns env.locals m) (hm : m "script" = some (.ref sc)) (keep : hb.StaysIn s.heap) (hbody : m_law.ck n_law env.scope body = true)
    (hQ : ∀ h' tk m', h'.Ns env.locals m' → hb.StaysIn h' → Q (.ret (.bool true)) { s with heap := h', toks := tk }) : wpAny (model prog w) A (execs body env) Q E s := by
  have nk : ∀ x k, env.kindOf x = some k → k ≠ .cell ∧ k ≠ .free := fun x k e => by
    have := List.all_eq_true.mp e7 _ (mem_of_lookup (show env.scope.names.lookup x = some k from e))
    simp only [Bool.and_eq_true, bne_iff_ne, ne_eq] at this
    exact ⟨this.2, this.1⟩
  have rl : RelL hb s.heap (L.map V.int) vs := by
    clear hLi h63
    induction L generalizing vs with
    | nil => cases hI; exact .nil
    | cons i L ih => cases hI with | cons _ _ hI => exact .cons (.int _ _) (ih hI)
  have R : EnvR hb n_law env [some (.frz (L.map V.int)), none, none, none, none, none, none, none, none, none] s.heap := by
    refine ⟨e1, e2, e3, e4, ⟨m, hns, fun i x d h1 h2 hk => ?_⟩, fun x c e => (by rw [e5] at e; cases e), fun x hx => ?_, (by rw [e5]; exact .nil), fun x c e => (by rw [e5] at e; cases e), by decide⟩
    · match i with
      | 0 =>
        simp [lget] at h2
        subst h2
        have : x = "script" := by simp [n_law] at h1; exact h1.symm
        subst this
        exact ⟨_, hm, .frz hLi (by simpa using rl)⟩
      | 1 => simp [lget] at h2
      | 2 => simp [lget] at h2
      | 3 => simp [lget] at h2
      | 4 => simp [lget] at h2
      | 5 => simp [lget] at h2
      | 6 => simp [lget] at h2
      | 7 => simp [lget] at h2
      | 8 => simp [lget] at h2
      | 9 => simp [lget] at h2
      | i + 10 => simp [lget] at h2
    · rcases hx with hx | hx
      · exact absurd rfl (nk _ _ hx).1
      · exact absurd rfl (nk _ _ hx).2
  have F1 : FrOk hb [env] s.heap := fun e he => by
    have he : e = env := by simpa using he
    rw [he]
    obtain ⟨o, es, ep, ho, hd', _⟩ := hns
    exact ⟨by rw [e1]; decide, env.locals, o, es, ep, e6, e4, ho, hd'⟩
  have S : SS hb n_law [env] env (fun _ => none) [some (.frz (L.map V.int)), none, none, none, none, none, none, none, none, none] s.heap := by
    exact ⟨⟨keep, fun a l e => (by cases e)⟩, R, F1⟩
  refine m_law.ok (K := ctxOf prog w hb X T) (.inl noX) hA S hbody (law_ok rfl hD L h63 _) (fun f s' g => ?_) (fun e s' b => noBadS noX b)
  obtain ⟨h', tk, σ', ρ', fl, rfl, mv, S', hf, rfl⟩ := g
  obtain ⟨v, rfl, rv⟩ := hf
  cases rv
  obtain ⟨m', hn', _⟩ := S'.env.ns
  exact hQ h' tk m' hn' S'.inv.base
end
end Mine
namespace Mine
noncomputable def asgShape (fld : Str) : Stmt → Bool := onAsg fun ts v _ => on1 (fun t => onAtt (fun b i _ => onName (fun s _ => onName (fun y _ => ("self" : Str) == s && (fld == i && fld == y)) v) b) t) ts
theorem asg_inv {fld : Str} {s : Stmt} (h : asgShape fld s = true) : ∃ q1 q2 q3 q4, s = .Assign [.Attribute (.Name "self" q1) fld q2] (.Name fld q3) q4 :=
  ofAsg (P := fun s => ∃ q1 q2 q3 q4, s = .Assign [.Attribute (.Name "self" q1) fld q2] (.Name fld q3) q4) h fun ts v q4 h => of1 (P := fun ts => ∃ q1 q2 q3 q4, Stmt.Assign ts v _ = .Assign [.Attribute (.Name "self" q1) fld q2] (.Name fld q3) q4) h fun t h =>
  ofAtt (P := fun t => ∃ q1 q2 q3 q4, Stmt.Assign [t] v _ = .Assign [.Attribute (.Name "self" q1) fld q2] (.Name fld q3) q4) h fun b i q2 h => ofName (P := fun b => ∃ q1 q2 q3 q4, Stmt.Assign [.Attribute b i _] v _ = .Assign [.Attribute (.Name "self" q1) fld q2] (.Name fld q3) q4) h fun s q1 h =>
  ofName (P := fun v => ∃ q1 q2 q3 q4, Stmt.Assign [.Attribute (.Name s _) i _] v _ = .Assign [.Attribute (.Name "self" q1) fld q2] (.Name fld q3) q4) h fun y q3 h => by
    obtain rfl := eq_of_beq (andL h)
    obtain rfl := eq_of_beq (andL (andR h))
    obtain rfl := eq_of_beq (andR (andR h))
    exact ⟨_, _, _, _, rfl⟩
noncomputable def calShape (base : Str) (arg : PySem.Expr → Bool) : Stmt → Bool := onEx fun e _ => onCall (fun f xs ks q5 => onAtt (fun b i q2 => onName (fun p _ => on2 (fun a c => onName (fun s _ => base == p && (("__init__" : Str) == i && (("self" : Str) == s && (ks.isEmpty && (q2.endLine == q5.line && arg c))))) a) xs) b) f) e
theorem cal_inv {base : Str} {arg : PySem.Expr → Bool} {s : Stmt} (h : calShape base arg s = true) : ∃ c q1 q2 q3 q5 q6, (q2.endLine == q5.line) = true ∧ arg c = true ∧ s = .Expr (.Call (.Attribute (.Name base q1) "__init__" q2) [.Name "self" q3, c] [] q5) q6 :=
  ofEx (P := fun s => ∃ c q1 q2 q3 q5 q6, (q2.endLine == q5.line) = true ∧ arg c = true ∧ s = .Expr (.Call (.Attribute (.Name base q1) "__init__" q2) [.Name "self" q3, c] [] q5) q6) h fun e q6 h =>
  ofCall (P := fun e => ∃ c q1 q2 q3 q5 q6, (q2.endLine == q5.line) = true ∧ arg c = true ∧ Stmt.Expr e _ = .Expr (.Call (.Attribute (.Name base q1) "__init__" q2) [.Name "self" q3, c] [] q5) q6) h fun f xs ks q5 h =>
  ofAtt (P := fun f => ∃ c q1 q2 q3 q5 q6, (q2.endLine == q5.line) = true ∧ arg c = true ∧ Stmt.Expr (.Call f xs ks _) _ = .Expr (.Call (.Attribute (.Name base q1) "__init__" q2) [.Name "self" q3, c] [] q5) q6) h fun b i q2 h =>
  ofName (P := fun b => ∃ c q1 q2 q3 q5 q6, (q2.endLine == q5.line) = true ∧ arg c = true ∧ Stmt.Expr (.Call (.Attribute b i _) xs ks _) _ = .Expr (.Call (.Attribute (.Name base q1) "__init__" q2) [.Name "self" q3, c] [] q5) q6) h fun p q1 h =>
  of2 (P := fun xs => ∃ c q1 q2 q3 q5 q6, (q2.endLine == q5.line) = true ∧ arg c = true ∧ Stmt.Expr (.Call (.Attribute (.Name p _) i _) xs ks _) _ = .Expr (.Call (.Attribute (.Name base q1) "__init__" q2) [.Name "self" q3, c] [] q5) q6) h fun a c h =>
  ofName (P := fun a => ∃ c' q1 q2 q3 q5 q6, (q2.endLine == q5.line) = true ∧ arg c' = true ∧ Stmt.Expr (.Call (.Attribute (.Name p _) i _) [a, c] ks _) _ = .Expr (.Call (.Attribute (.Name base q1) "__init__" q2) [.Name "self" q3, c'] [] q5) q6) h fun s q3 h => by
    obtain rfl := eq_of_beq (andL h)
    obtain rfl := eq_of_beq (andL (andR h))
    obtain rfl := eq_of_beq (andL (andR (andR h)))
    have h := andR (andR (andR h))
    obtain rfl := nilT (andL h)
    exact ⟨c, _, _, _, _, _, andL (andR h), andR (andR h), rfl⟩
noncomputable def scOk (x : Str) (sc : Option Scope) : Bool := match sc with | some sc => sc.names.lookup x == some .globalImplicit | none => false
noncomputable def perlShape (sc : Option Scope) (l : List Stmt) : Bool := on2 (fun s t => calShape "Exception" (onName fun y _ => ("text" : Str) == y) s && (asgShape "text" t && scOk "Exception" sc)) l
theorem perl_inv {sc : Scope} {l : List Stmt} (h : perlShape (some sc) l = true) : sc.names.lookup ("Exception" : Str) = some .globalImplicit ∧ ∃ q1 q2 q3 q4 q5 q6 q7 q8 q9 q10, (q2.endLine == q5.line) = true ∧
    l = [.Expr (.Call (.Attribute (.Name "Exception" q1) "__init__" q2) [.Name "self" q3, .Name "text" q4] [] q5) q6, .Assign [.Attribute (.Name "self" q7) "text" q8] (.Name "text" q9) q10] := by
  refine of2 (P := fun l => sc.names.lookup ("Exception" : Str) = some .globalImplicit ∧ ∃ q1 q2 q3 q4 q5 q6 q7 q8 q9 q10, (q2.endLine == q5.line) = true ∧
    l = [.Expr (.Call (.Attribute (.Name "Exception" q1) "__init__" q2) [.Name "self" q3, .Name "text" q4] [] q5) q6, .Assign [.Attribute (.Name "self" q7) "text" q8] (.Name "text" q9) q10]) h fun s t h => ?_
  obtain ⟨c, q1, q2, q3, q5, q6, e, hc, rfl⟩ := cal_inv (andL h)
  obtain ⟨q7, q8, q9, q10, rfl⟩ := asg_inv (andL (andR h))
  obtain ⟨q4, rfl⟩ : ∃ q4, c = .Name "text" q4 := ofName (P := fun c => ∃ q4, c = .Name "text" q4) hc fun y q h => ⟨q, by rw [eq_of_beq h]⟩
  exact ⟨eq_of_beq (andR (andR h)), _, _, _, _, _, _, _, _, _, _, e, rfl⟩
noncomputable def dieShape (sc : Option Scope) (l : List Stmt) : Bool := on2 (fun s t => calShape "PerlError" (onCon fun k _ _ => onCS (fun _ => true) k) s && (asgShape "value" t && scOk "PerlError" sc)) l
theorem die_inv {sc : Scope} {l : List Stmt} (h : dieShape (some sc) l = true) : sc.names.lookup ("PerlError" : Str) = some .globalImplicit ∧ ∃ z k q1 q2 q3 q4 q5 q6 q7 q8 q9 q10, (q2.endLine == q5.line) = true ∧
    l = [.Expr (.Call (.Attribute (.Name "PerlError" q1) "__init__" q2) [.Name "self" q3, .Constant (.str z) k q4] [] q5) q6, .Assign [.Attribute (.Name "self" q7) "value" q8] (.Name "value" q9) q10] := by
  refine of2 (P := fun l => sc.names.lookup ("PerlError" : Str) = some .globalImplicit ∧ ∃ z k q1 q2 q3 q4 q5 q6 q7 q8 q9 q10, (q2.endLine == q5.line) = true ∧
    l = [.Expr (.Call (.Attribute (.Name "PerlError" q1) "__init__" q2) [.Name "self" q3, .Constant (.str z) k q4] [] q5) q6, .Assign [.Attribute (.Name "self" q7) "value" q8] (.Name "value" q9) q10]) h fun s t h => ?_
  obtain ⟨c, q1, q2, q3, q5, q6, e, hc, rfl⟩ := cal_inv (andL h)
  obtain ⟨q7, q8, q9, q10, rfl⟩ := asg_inv (andL (andR h))
  obtain ⟨z, k, q4, rfl⟩ : ∃ z k q4, c = .Constant (.str z) k q4 := ofCon (P := fun c => ∃ z k q4, c = .Constant (.str z) k q4) hc fun k kk q h => ofCS (P := fun k => ∃ z k' q4, PySem.Expr.Constant k _ _ = .Constant (.str z) k' q4) h fun z _ => ⟨z, _, _, rfl⟩
  exact ⟨eq_of_beq (andR (andR h)), _, _, _, _, _, _, _, _, _, _, _, _, e, rfl⟩
section
variable (P : Params)
theorem pf55 : plainFn (Hd.heapK P) 55 ["self", "value"] = true := by kernel_rfl
theorem pf35 : plainFn (Hd.heapK P) 35 ["self", "text"] = true := by kernel_rfl
theorem sh35 : perlShape (scopeOf (Hd.heapK P) 35) (bodyOf (Hd.heapK P) 35) = true := by kernel_rfl
theorem sh55 : dieShape (scopeOf (Hd.heapK P) 55) (bodyOf (Hd.heapK P) 55) = true := by kernel_rfl
noncomputable def cdDie : ClassData := { name := "Die", bases := [.ref 38], mro := .ref 58 :: dieBm, ns := 57, qualname := "Die" }
theorem cl58 : clsIn (Hd.heapK P) 58 = some cdDie := by kernel_rfl
theorem sa58 : findIn (Hd.heapK P) (.ref 58) "__setattr__" = some (some (.builtin "object.__setattr__")) := by kernel_rfl
theorem in58 : nsIn (Hd.heapK P) 57 "__init__" = some (some (.ref 55)) := by kernel_rfl
theorem tx58 : findIn (Hd.heapK P) (.ref 58) "text" = some none := by kernel_rfl
theorem vl58 : findIn (Hd.heapK P) (.ref 58) "value" = some none := by kernel_rfl
theorem rd38 : readsIn (Hd.heapK P) 38 (.type "type") = true := by kernel_rfl
theorem fc38 : (match findCls (Hd.heapK P) (.ref 38) (.type "type") "__init__" with | some (.val v) => v == .ref 35 | _ => false) = true := by kernel_rfl
theorem hi35 : handedIn (.ref 35) = true := by kernel_rfl
theorem sp38 : specialIn (Hd.heapK P) (.ref 38) "__getattribute__" = some (some (.builtin "type.__getattribute__")) := by kernel_rfl
theorem fcEx : (match findCls (Hd.heapK P) (.type "Exception") (.type "type") "__init__" with | some (.val v) => v == .builtin "Exception.__init__" | _ => false) = true := by kernel_rfl
theorem tyEx : typeOf (.type "Exception") = pure (.type "type") := by kernel_rfl
theorem gaEx : findIn (Hd.heapK P) (.type "type") "__getattribute__" = some (some (.builtin "type.__getattribute__")) := by kernel_rfl
theorem suEx : subIn (Hd.heapK P) (.type "type") (.type "type") = some true := by kernel_rfl
theorem opEx : opaqueClassAbove (.type "Exception") = pure none := by kernel_rfl
theorem hiEx : handedIn (.builtin "Exception.__init__") = true := by kernel_rfl
theorem mgPe : nsIn (Hd.heapK P) mainGlobals "PerlError" = some (some (.ref 38)) := by kernel_rfl
theorem mgEx : nsIn (Hd.heapK P) mainGlobals "Exception" = some none := by kernel_rfl
theorem bbEx : bootBuiltins "Exception" = some (.type "Exception") := by kernel_rfl
theorem dieLine : ExcLine dieBm := ⟨by decide, by decide, by decide, by decide⟩
end
section
variable {prog : Program} {w : World} {hb : Heap} {p : Program} {loose : List Str} {mg mb : Str → Option Value} {A : Around} {E : Value → Shared → Prop} {s : Shared}
theorem ns_of {h h' : Heap} {a x : Addr} {m : Str → Option Value} (hn : h.Ns a m) (n : a ≠ x) (k : ∀ b o, b ≠ x → h.get? b = some o → h'.get? b = some o) : h'.Ns a m := by
  obtain ⟨o, es, ep, e, r⟩ := hn; exact ⟨o, es, ep, k _ _ n e, r⟩
theorem getEx {pl : Sem Bool} {Q : Value × List Value → Shared → Prop} (X : (Hd.heapK w.params).In s.heap) (h : Q (.builtin "Exception.__init__", []) { s with toks := s.toks + 1 }) :
    wpAny (model prog w) A (getMethod (.type "Exception") "__init__" pl) Q E s := by
  have LT : Looks (model prog w) s.heap (typeOf (.type "Exception")) (.type "type") := Looks.of_pure tyEx
  have fc := fcEx w.params
  split at fc
  case h_2 => cases fc
  rename_i v hv
  have := beq_iff_eq.mp fc
  subst this
  refine methodVal (LT.andThen (looks_findIn X (gaEx _))) ?_
  refine cls_open X (Looks.of_pure opEx) LT (gaEx _) (looks_hook X (r := none) (by rw [if_neg (by decide)])) (suEx _) hv ?_
  exact wpAny_pure (by show wpAny _ _ (handedOut _) _ _ _; rw [handedOut_of hiEx]; exact wpAny_pure h)
theorem getPe {pl : Sem Bool} {Q : Value × List Value → Shared → Prop} (X : (Hd.heapK w.params).In s.heap) (h : Q (.ref 35, []) { s with toks := s.toks + 1 }) :
    wpAny (model prog w) A (getMethod (.ref 38) "__init__" pl) Q E s := by
  have fc := fc38 w.params
  split at fc
  case h_2 => cases fc
  rename_i v hv
  have := beq_iff_eq.mp fc
  subst this
  exact methodVal (looks_specialIn X (sp38 _)) (cls_value X (rd38 _) hv hi35 h)
/-- PerlError.__init__(x, v) -/
theorem perlInit (X : (Hd.heapK w.params).In hb) (T : TopRead p loose mg mb hb) (keep : hb.StaysIn s.heap) (hA : A.depth + 3 < recursionLimit) {x t0 : Addr} {v : Value} {Q : Value → Shared → Prop} (I : ExcAt s.heap x 58 (.ref t0) none fun _ => none) (nb : hb.get? x = none)
    (hq : ∀ h' tk' t1 D', ExcAt h' x 58 (.ref t1) (some D') (fun y => if y = ("text" : Str) then some v else none) → s.heap.get? D' = none → (∀ b o, b ≠ x → s.heap.get? b = some o → h'.get? b = some o) → Q .none { s with heap := h', toks := tk' }) :
    wpAny (model prog w) A (call (.ref 35) [.ref x, v]) Q E s := by
  refine callDef X T.nolimit keep (by lia) (pf35 _) rfl fun env h1 tk1 m esc ek eg eb ec up nl hn hm => ?_
  have sh := sh35 w.params
  rw [← esc] at sh
  obtain ⟨kx, q1, q2, q3, q4, q5, q6, q7, q8, q9, q10, hline, hbody⟩ := perl_inv sh
  rw [hbody]
  obtain ⟨ms, ks⟩ := hm 0 "self" (.ref x) rfl rfl
  obtain ⟨mt, kt⟩ := hm 1 "text" v rfl rfl
  have keep1 : hb.StaysIn h1 := fun b o e => up _ _ (keep _ _ e)
  have X1 : (Hd.heapK w.params).In h1 := X.keeps keep1
  have nx : env.locals ≠ x := fun z => by rw [z, I.obj] at nl; cases nl
  have nb' : ∀ b o, hb.get? b = some o → b ≠ x := fun b o e z => by rw [z, nb] at e; cases e
  refine wpAny_execs_cons (wpAny_Expr_any (callAttr (show attributeBase (.Name _ _) _ env (eval (.Name _ _) env) = eval (.Name _ _) env from rfl) rfl rfl hline (nameBuilt ek eg eb kx (T.g.keeps keep1) (mg_none_of X T.g (mgEx _)) (T.b.keeps keep1) (by rw [T.builtins _ (by decide)]; exact bbEx) (by decide) fun pl => getEx X1 ?_)) (by unfold interactive; rw [ek]; rfl) (swapsWith_no rfl))
  refine Calls.callWith_builtin rfl (args2 rfl rfl (nameLoc ek ks hn ms (by decide) (nameLoc ek kt hn mt (by decide) ?_)))
  refine excInit (h := h1) dieLine (X1 _ _ (die_at _)) (up _ _ I.obj) (by rw [sizeLine_eq]; simp) fun h2 t1 keep2 he2 => ?_
  have hn2 := ns_of hn nx keep2
  have keepb2 : hb.StaysIn h2 := fun b o e => keep2 _ _ (nb' _ _ e) (keep1 _ _ e)
  have X2 : (Hd.heapK w.params).In h2 := X.keeps keepb2
  refine wpAny_execs_cons (plainObj_wpAny_Assign_Attribute (nameLoc ek kt hn2 mt (by decide) (nameLoc ek ks hn2 ms (by decide) ?_)))
  refine setExc (D := none) (mA := fun _ => none) (ns := []) X2 (cl58 _) rfl rfl (sa58 _) (tx58 _) ⟨he2, fun _ => rfl⟩ Within.nil (by decide) fun h3 tk3 D' I3 f1 _ keep3 => ?_
  refine wpAny_execs_nil ?_
  refine hq h3 tk3 t1 D' I3 ?_ fun b o n e => ?_
  · have e2 := f1 rfl
    cases z : s.heap.get? D' with
    | none => rfl
    | some o =>
      by_cases zx : D' = x
      · rw [zx, he2] at e2; cases e2
      · rw [keep2 _ _ zx (up _ _ z)] at e2; cases e2
  · have nD : b ≠ D' := fun z => by
      have e2 := f1 rfl
      rw [← z, keep2 _ _ n (up _ _ e)] at e2; cases e2
    exact keep3 _ _ n nD (keep2 _ _ n (up _ _ e))
/-- Die.__init__(x, v) -/
theorem dieInit (X : (Hd.heapK w.params).In hb) (T : TopRead p loose mg mb hb) (keep : hb.StaysIn s.heap) (hA : A.depth + 5 < recursionLimit) {x t0 : Addr} {v : Value} {Q : Value → Shared → Prop} (I : ExcAt s.heap x 58 (.ref t0) none fun _ => none) (nb : hb.get? x = none)
    (hq : ∀ h' tk' t1 D' mA, ExcAt h' x 58 (.ref t1) (some D') mA → (∀ b o, b ≠ x → s.heap.get? b = some o → h'.get? b = some o) → Q .none { s with heap := h', toks := tk' }) :
    wpAny (model prog w) A (call (.ref 55) [.ref x, v]) Q E s := by
  refine callDef X T.nolimit keep (by lia) (pf55 _) rfl fun env h1 tk1 m esc ek eg eb ec up nl hn hm => ?_
  have sh := sh55 w.params
  rw [← esc] at sh
  obtain ⟨kx, z, k, q1, q2, q3, q4, q5, q6, q7, q8, q9, q10, hline, hbody⟩ := die_inv sh
  rw [hbody]
  obtain ⟨ms, ks⟩ := hm 0 "self" (.ref x) rfl rfl
  obtain ⟨mt, kt⟩ := hm 1 "value" v rfl rfl
  have keep1 : hb.StaysIn h1 := fun b o e => up _ _ (keep _ _ e)
  have X1 : (Hd.heapK w.params).In h1 := X.keeps keep1
  have nx : env.locals ≠ x := fun z => by rw [z, I.obj] at nl; cases nl
  have nb' : ∀ b o, hb.get? b = some o → b ≠ x := fun b o e z => by rw [z, nb] at e; cases e
  obtain ⟨o35, fd35, ho35, hd35⟩ : ∃ o fd, (Hd.heapK w.params).lookup 35 = some o ∧ o.data = .func fd := by
    have := pf35 w.params
    unfold plainFn at this
    split at this
    case h_2 => cases this
    rename_i o ho
    split at this
    case h_2 => cases this
    rename_i fd hd
    exact ⟨o, fd, ho, hd⟩
  refine wpAny_execs_cons (wpAny_Expr_any (callAttr (show attributeBase (.Name _ _) _ env (eval (.Name _ _) env) = eval (.Name _ _) env from rfl) rfl rfl hline (nameGlob ek eg kx (T.g.keeps keep1) (mg_of X T.g (mgPe _)) (by decide) fun pl => getPe X1 ?_)) (by unfold interactive; rw [ek]; rfl) (swapsWith_no rfl))
  refine Calls.callWith_function (o := o35) (fd := fd35) (args2 rfl rfl (nameLoc ek ks hn ms (by decide) (wpAny_Constant_str ⟨⟨X1 _ _ ho35, hd35⟩, ?_⟩)))
  refine perlInit X T (s := { s with heap := h1, toks := _ }) keep1 (by show A.depth + 1 + 3 < _; lia) ⟨up _ _ I.obj, fun _ => rfl⟩ nb fun h2 tk2 t1 D' I2 fD keep2 => ?_
  have hn2 := ns_of hn nx keep2
  have keepb2 : hb.StaysIn h2 := fun b o e => keep2 _ _ (nb' _ _ e) (keep1 _ _ e)
  have X2 : (Hd.heapK w.params).In h2 := X.keeps keepb2
  refine wpAny_execs_cons (plainObj_wpAny_Assign_Attribute (nameLoc ek kt hn2 mt (by decide) (nameLoc ek ks hn2 ms (by decide) ?_)))
  refine setExc (D := some D') X2 (cl58 _) rfl rfl (sa58 _) (vl58 _) I2 (Within.cons "text" _ Within.nil) (by decide) fun h3 tk3 D3 I3 _ f2 keep3 => ?_
  refine wpAny_execs_nil ?_
  have eD : D3 = D' := f2 _ rfl
  refine hq h3 tk3 t1 D3 _ I3 fun b o n e => ?_
  have nD : b ≠ D3 := fun z => by
    rw [← eD, ← z] at fD
    have e1 : h1.get? b = some o := up _ _ e
    have e2 : h1.get? b = none := fD
    rw [e1] at e2; cases e2
  exact keep3 _ _ n nD (keep2 _ _ n (up _ _ e))
theorem ns_some_of {K : Frag} {h : Heap} {N : Addr} {m : Str → Option Value} {n : Str} {v : Value} (X : K.In h) (G : h.Ns N m) (e : nsIn K N n = some (some v)) : m n = some v := by
  obtain ⟨o, es, ep, ho, hd, _, hf⟩ := G
  unfold nsIn at e
  split at e
  · rename_i q
    have := X _ _ q
    rw [ho] at this
    cases this
    cases hd
    split at e
    · rename_i en he
      rw [← hf]
      unfold nsFind findBy
      rw [← Array.find?_toList, he]
      cases e; rfl
    · split at e <;> cases e
  · cases e
theorem ok57 (P : Params) : nsOkIn (Hd.heapK P) 57 = true := by kernel_rfl
theorem fn55 (P : Params) : (match (Hd.heapK P).lookup 55 with | some o => o.cls == .type "function" | none => false) = true := by kernel_rfl
theorem die_raise (X : (Hd.heapK w.params).In hb) (T : TopRead p loose mg mb hb) : DieRaise (ctxOf prog w hb X T) 10 := by
  intro A fr env σ ρ nm s pos q x k p1 p2 QQ E hA S kg kE
  have keep := S.inv.base
  have Xs : (Hd.heapK w.params).In s.heap := X.keeps keep
  have kg1 := eq_of_beq (andL kg)
  have kg2 := nott (andL (andR kg))
  obtain ⟨o55, ho55, hc55⟩ : ∃ o, (Hd.heapK w.params).lookup 55 = some o ∧ o.cls = .type "function" := by
    have := fn55 w.params
    split at this
    · rename_i o ho; exact ⟨o, ho, by simpa using this⟩
    · cases this
  have hA1 := hA.depth
  refine raiseCallOwn (C := 58) (nm := "Die") (q := "Die") (N := 57) (bs := [.ref 38]) (hdct := true) (sn := []) (sub := []) (ab := false) (col := none) (dd := none) (k0 := some (.ref 42)) (k1 := none) (k2 := some (.str "Die" 227)) (k3 := some (.str "Die" 235)) (k5 := some (.bool true)) (newId := "Exception.__new__") dieLine hA.handled rfl (nameGlob S.env.kind S.env.gl kg1 (T.g.keeps keep) (mg_of X T.g (v := .ref 58) (by kernel_rfl)) kg2 ⟨rfl, ?_⟩)
  refine evalArgs_of rfl (wpAny_items_cons (wpAny_Constant_str (wpAny_items_nil ⟨rfl, Xs _ _ (die_at _), ?_⟩)) (starEach_cons rfl))
  have hN : s.heap.Ns 57 (s.heap.nsMap 57) := .of_isNs (isNs_of_in Xs (ok57 _))
  refine excMake dieLine (Xs _ _ (die_at _)) hN (ns_some_of Xs hN (in58 _)) (Xs _ _ ho55) hc55 (by rw [sizeLine_eq]; simp) ?_
  have up : ∀ b o, s.heap.get? b = some o → ((s.heap.push { cls := .type "tuple", data := .seq [Value.str x s.toks].toArray }).push { cls := .ref 58, data := .fields #[.ref s.heap.objs.size, .none, .none, .none, .bool false, .none] }).get? b = some o := fun b o e => Heap.get?_push_of_some _ (Heap.get?_push_of_some _ e)
  have fresh : s.heap.get? (s.heap.objs.size + 1) = none := Heap.get?_none_of_le (Nat.le_succ _)
  have nb : hb.get? (s.heap.objs.size + 1) = none := by
    cases z : hb.get? (s.heap.objs.size + 1) with
    | none => rfl
    | some o => rw [keep _ _ z] at fresh; cases fresh
  refine dieInit X T (fun b o e => up _ _ (keep _ _ e)) (by
    have hw : ∀ r : List Value, (Code.builtin "type.__call__" ⟨.ref 58 :: r, []⟩).weight = 1 := fun r => by kernel_rfl
    have hw1 := hw [.str x s.toks]
    show A.depth + (Code.builtin "type.__call__" ⟨.ref 58 :: [.str x s.toks], []⟩).weight + 5 < _
    rw [hw1]
    lia) (t0 := s.heap.objs.size) ⟨by heap_get, fun _ => rfl⟩ nb fun h' tk' t1 D' mA I' keep' => ⟨rfl, ?_⟩
  have ne : ∀ b o, s.heap.get? b = some o → b ≠ s.heap.objs.size + 1 := fun b o e z => by rw [z, fresh] at e; cases e
  have kk : ∀ b o, s.heap.get? b = some o → h'.get? b = some o := fun b o e => keep' _ _ (ne _ _ e) (up _ _ e)
  exact ⟨_, _, _, _, rfl, kk _ _ (Xs _ _ (die_at _)), I'.obj, kE _ _ ⟨s.heap, h', tk', σ, _, rfl, rfl, .refl _ _, S.inv, S.fr, ⟨fresh, kk, _, _, _, I'.obj, rfl, rfl, rfl, rfl⟩, rfl⟩⟩
end
end Mine
set_option maxRecDepth 100000 in
set_option maxHeartbeats 8000000 in
theorem PySem.Challenge.cw_rg0230_01_holds : PySem.Challenge.rw_rg0230_01.Holds := by
  refine Mine.Hd.hd ?_
  intro w s₀ s₁ mg mb G Y fa o pm cd doc dV kV ho hd hcd hD hmg hg args vals as hpre hlay hrd hwl hlo
  have KX := kIn_of Y
  refine Ground.open G ?_
  intro T B D TE TW
  try (refine guard_noD D (by decide +kernel) ?_; clear D)
  try (obtain ⟨_, _, he, B0⟩ := based_of_top T rfl hmg ho hd; have he' : cd = _ := he; subst he'; clear he)
  clear hmg
  wrow_args hpre hlay hrd hwl hlo
  all_goals (
    first | refine callC_kw (enter_call ?_) | refine enter_call ?_
    w_top on
    try refine codeAny_mono ?_ (fun _ _ g => GoodW.toG g)
    have K0 := below_caller (Top.heap T)
    w_call any ho hd hcd hD T F
    clear hd
    k_drop
    skip)
  rename_i a1 a2 L p1 p2 p3 p4 p5 p6 p7 vL ra w1 hLi hI2 hr hc1 hI p8 hlen p9 h1 N0
  refine Mine.law_walk KX (topRead_of T) (Mine.die_raise KX (topRead_of T)) hLi hI (by lia) ⟨rfl, rfl, rfl, (show callerA.depth + 1 + 20 < recursionLimit by decide +kernel), (show callerA.units + 3 + 8 * 20 + 100 < cLine by decide +kernel)⟩ rfl rfl rfl (Heap.get?_none_of_le (Nat.le_refl _)) rfl rfl (by kernel_rfl) F.ns rfl F.keep (by kernel_rfl) ?_
  intro h' tk m' hn' hk'
  refine goodW_bool (m := m') ⟨hn', hk', Nat.le_refl _⟩ hg (raisesW_false ?_) ?_
  · wrow_none_raised
  · wrow_post
