import PyProof.Rows.All
import Wide.All
import OpenK.AllK
import Wide.FinOn
import Lean
import PySem.Challenge.RW_nt0561_01
open PySem PySem.W PySem.Calls PyProof.Rows
set_option Elab.async false
set_option linter.all false
set_option maxRecDepth 100000
set_option maxHeartbeats 8000000

namespace Mine.H
noncomputable def fnOfSt : Stmt → Arguments × List Stmt × Scope
  | .FunctionDef _ a b _ _ _ sc _ _ _ => (a, b, sc)
  | _ => default
noncomputable def stOf (k : Nat) : Stmt := (PySem.Challenge.pw_nt0561_01.main.body[k]?).getD default
noncomputable def bodyOf : Stmt → List Stmt
  | .ClassDef _ _ _ b _ _ _ _ _ _ _ => b
  | _ => []
noncomputable def memOf (k j : Nat) : Stmt := ((bodyOf (stOf k))[j]?).getD default
noncomputable def K : Params → Frag := fun P =>
(nat_lit 2, ⟨.none, none, (.dict #[] 0), #[]⟩) ::
(nat_lit 3, ⟨(.type "dict"), none, (.dict #[⟨(PySem.PyData.keyHash P "__name__"), (.str "__name__" 165), (.str "law_nt0561_01" 1283)⟩, ⟨(PySem.PyData.keyHash P "__doc__"), (.str "__doc__" 166), .none⟩, ⟨(PySem.PyData.keyHash P "__package__"), (.str "__package__" 167), .none⟩, ⟨(PySem.PyData.keyHash P "__loader__"), (.str "__loader__" 168), (.builtin "__main__.__loader__#opaque")⟩, ⟨(PySem.PyData.keyHash P "__spec__"), (.str "__spec__" 169), .none⟩, ⟨(PySem.PyData.keyHash P "__annotations__"), (.str "__annotations__" 170), (.ref 6)⟩, ⟨(PySem.PyData.keyHash P "__builtins__"), (.str "__builtins__" 171), (.ref 4)⟩, ⟨(PySem.PyData.keyHash P "__file__"), (.str "__file__" 173), (.str "/claim/cut.py" 172)⟩, ⟨(PySem.PyData.keyHash P "__cached__"), (.str "__cached__" 174), .none⟩, ⟨(PySem.PyData.keyHash P "_wall"), (.str "_wall" 193), (.ref 21)⟩, ⟨(PySem.PyData.keyHash P "Grid"), (.str "Grid" 245), (.ref 50)⟩, ⟨(PySem.PyData.keyHash P "copied"), (.str "copied" 257), (.ref 61)⟩, ⟨(PySem.PyData.keyHash P "zigzag_places"), (.str "zigzag_places" 272), (.ref 68)⟩, ⟨(PySem.PyData.keyHash P "ORDER_8"), (.str "ORDER_8" 865), (.ref 286)⟩, ⟨(PySem.PyData.keyHash P "order"), (.str "order" 872), (.ref 293)⟩, ⟨(PySem.PyData.keyHash P "ranks"), (.str "ranks" 882), (.ref 300)⟩, ⟨(PySem.PyData.keyHash P "UNKNOWN"), (.str "UNKNOWN" 887), (.int (-1) 886)⟩, ⟨(PySem.PyData.keyHash P "PATTERNS"), (.str "PATTERNS" 959), (.ref 311)⟩, ⟨(PySem.PyData.keyHash P "known_bits"), (.str "known_bits" 971), (.ref 318)⟩, ⟨(PySem.PyData.keyHash P "guessed_ranks"), (.str "guessed_ranks" 985), (.ref 325)⟩, ⟨(PySem.PyData.keyHash P "is_worth"), (.str "is_worth" 994), (.ref 332)⟩, ⟨(PySem.PyData.keyHash P "guessed"), (.str "guessed" 1004), (.ref 339)⟩, ⟨(PySem.PyData.keyHash P "weighed"), (.str "weighed" 1010), (.ref 344)⟩, ⟨(PySem.PyData.keyHash P "smoothed_row"), (.str "smoothed_row" 1031), (.ref 351)⟩, ⟨(PySem.PyData.keyHash P "kept_in"), (.str "kept_in" 1039), (.ref 358)⟩, ⟨(PySem.PyData.keyHash P "nine_of"), (.str "nine_of" 1054), (.ref 365)⟩, ⟨(PySem.PyData.keyHash P "smooth_component"), (.str "smooth_component" 1073), (.ref 372)⟩, ⟨(PySem.PyData.keyHash P "smoothed_grid"), (.str "smoothed_grid" 1086), (.ref 379)⟩, ⟨(PySem.PyData.keyHash P "parts"), (.str "parts" 1096), (.ref 386)⟩, ⟨(PySem.PyData.keyHash P "Component"), (.str "Component" 1131), (.ref 403)⟩, ⟨(PySem.PyData.keyHash P "Frame"), (.str "Frame" 1225), (.ref 469)⟩, ⟨(PySem.PyData.keyHash P "Scan"), (.str "Scan" 1282), (.ref 504)⟩, ⟨(PySem.PyData.keyHash P "_law_pool"), (.str "_law_pool" 1295), (.ref 515)⟩, ⟨(PySem.PyData.keyHash P "_law_take"), (.str "_law_take" 1304), (.ref 522)⟩, ⟨(PySem.PyData.keyHash P "_law_scans"), (.str "_law_scans" 1310), (.ref 527)⟩, ⟨(PySem.PyData.keyHash P "_law_places"), (.str "_law_places" 1319), (.ref 534)⟩, ⟨(PySem.PyData.keyHash P "_law_rank"), (.str "_law_rank" 1325), (.ref 539)⟩, ⟨(PySem.PyData.keyHash P "_law_row_right"), (.str "_law_row_right" 1331), (.ref 544)⟩, ⟨(PySem.PyData.keyHash P "_law_worth_right"), (.str "_law_worth_right" 1337), (.ref 549)⟩, ⟨(PySem.PyData.keyHash P "_law_field"), (.str "_law_field" 1343), (.ref 554)⟩, ⟨(PySem.PyData.keyHash P "_law_grid_right"), (.str "_law_grid_right" 1349), (.ref 559)⟩, ⟨(PySem.PyData.keyHash P "law"), (.str "law" 1355), (.ref 564)⟩] 42), #[]⟩) ::
(nat_lit 15, ⟨(.type "tuple"), none, (.seq #[] 0), #[]⟩) ::
(nat_lit 17, ⟨(.type "tuple"), none, (.seq #[(.str "k" 190)] 0), #[]⟩) ::
(nat_lit 18, ⟨(.type "tuple"), none, (.seq #[] 0), #[]⟩) ::
(nat_lit 20, ⟨(.type "code"), none, (.fields #[(.str "_wall" 187), (.str "_wall" 188), (.str "/claim/cut.py" 189), (.int 1 0), (.int 1 0), (.int 0 0), (.int 0 0), (.int 3 0), (.ref 15), (.bool true), (.int 181 0), (.ref 16), .none, (.ref 17), (.ref 18), (.ref 19), (.int 191 0), (.int 1 0), (.str "/claim/cut.py" 192)]), #[]⟩) ::
(nat_lit 21, ⟨(.type "function"), none, (.func ⟨"_wall", "_wall", (fnOfSt (stOf 0)).1, (.stmts (fnOfSt (stOf 0)).2.1), (fnOfSt (stOf 0)).2.2, 3, [], .none, .none, .none, (.str "__main__" 164), none, (.ref 20), .none, 0⟩), #[]⟩) ::
(nat_lit 29, ⟨(.type "tuple"), none, (.seq #[] 0), #[]⟩) ::
(nat_lit 32, ⟨(.type "code"), none, (.fields #[(.str "__init__" 208), (.str "Grid.__init__" 209), (.str "/claim/cut.py" 210), (.int 7 0), (.int 2 0), (.int 0 0), (.int 0 0), (.int 3 0), (.ref 29), (.bool true), (.int 181 0), (.ref 30), .none, .none, .none, (.ref 31), (.int 211 0), (.int 7 0), (.str "/claim/cut.py" 212)]), #[]⟩) ::
(nat_lit 33, ⟨(.type "function"), none, (.func ⟨"__init__", "Grid.__init__", (fnOfSt (memOf 2 0)).1, (.stmts (fnOfSt (memOf 2 0)).2.1), (fnOfSt (memOf 2 0)).2.2, 3, [], .none, .none, .none, (.str "pixelpress.grid" 194), none, (.ref 32), .none, 0⟩), #[]⟩) ::
(nat_lit 34, ⟨(.type "tuple"), none, (.seq #[] 0), #[]⟩) ::
(nat_lit 36, ⟨(.type "tuple"), none, (.seq #[(.str "self" 217), (.str "place" 218), (.str "x" 219), (.str "y" 220), (.str "row" 221)] 0), #[]⟩) ::
(nat_lit 37, ⟨(.type "tuple"), none, (.seq #[] 0), #[]⟩) ::
(nat_lit 39, ⟨(.type "code"), none, (.fields #[(.str "get" 214), (.str "Grid.get" 215), (.str "/claim/cut.py" 216), (.int 14 0), (.int 4 0), (.int 0 0), (.int 0 0), (.int 3 0), (.ref 34), (.bool true), (.int 181 0), (.ref 35), .none, (.ref 36), (.ref 37), (.ref 38), (.int 222 0), (.int 14 0), (.str "/claim/cut.py" 223)]), #[]⟩) ::
(nat_lit 40, ⟨(.type "function"), none, (.func ⟨"get", "Grid.get", (fnOfSt (memOf 2 1)).1, (.stmts (fnOfSt (memOf 2 1)).2.1), (fnOfSt (memOf 2 1)).2.2, 3, [], .none, .none, .none, (.str "pixelpress.grid" 194), none, (.ref 39), .none, 0⟩), #[]⟩) ::
(nat_lit 41, ⟨(.type "tuple"), none, (.seq #[] 0), #[]⟩) ::
(nat_lit 43, ⟨(.type "tuple"), none, (.seq #[(.str "self" 228), (.str "place" 229), (.str "x" 230), (.str "y" 231), (.str "row" 232)] 0), #[]⟩) ::
(nat_lit 44, ⟨(.type "tuple"), none, (.seq #[] 0), #[]⟩) ::
(nat_lit 46, ⟨(.type "code"), none, (.fields #[(.str "put" 225), (.str "Grid.put" 226), (.str "/claim/cut.py" 227), (.int 18 0), (.int 5 0), (.int 0 0), (.int 0 0), (.int 3 0), (.ref 41), (.bool true), (.int 181 0), (.ref 42), .none, (.ref 43), (.ref 44), (.ref 45), (.int 233 0), (.int 18 0), (.str "/claim/cut.py" 234)]), #[]⟩) ::
(nat_lit 47, ⟨(.type "function"), none, (.func ⟨"put", "Grid.put", (fnOfSt (memOf 2 2)).1, (.stmts (fnOfSt (memOf 2 2)).2.1), (fnOfSt (memOf 2 2)).2.2, 3, [], .none, .none, .none, (.str "pixelpress.grid" 194), none, (.ref 46), .none, 0⟩), #[]⟩) ::
(nat_lit 48, ⟨(.type "tuple"), none, (.seq #[(.str "many" 236), (.str "planes" 237)] 0), #[]⟩) ::
(nat_lit 49, ⟨(.type "dict"), none, (.dict #[⟨(PySem.PyData.keyHash P "__module__"), (.str "__module__" 203), (.str "pixelpress.grid" 194)⟩, ⟨(PySem.PyData.keyHash P "__firstlineno__"), (.str "__firstlineno__" 207), (.int 5 206)⟩, ⟨(PySem.PyData.keyHash P "__init__"), (.str "__init__" 213), (.ref 33)⟩, ⟨(PySem.PyData.keyHash P "get"), (.str "get" 224), (.ref 40)⟩, ⟨(PySem.PyData.keyHash P "put"), (.str "put" 235), (.ref 47)⟩, ⟨(PySem.PyData.keyHash P "__static_attributes__"), (.str "__static_attributes__" 238), (.ref 48)⟩, ⟨(PySem.PyData.keyHash P "__dict__"), (.str "__dict__" 240), (.ref 51)⟩, ⟨(PySem.PyData.keyHash P "__weakref__"), (.str "__weakref__" 242), (.ref 52)⟩, ⟨(PySem.PyData.keyHash P "__doc__"), (.str "__doc__" 243), .none⟩] 4), #[]⟩) ::
(nat_lit 50, ⟨(.type "type"), none, (.cls ⟨"Grid", [(.type "object")], [(.ref 50), (.type "object")], 49, "Grid", true, [], [], false, none, false⟩), #[none, none, (some (.str "Grid" 196)), (some (.str "Grid" 204)), (some (.builtin "object.__new__")), (some (.bool true))]⟩) ::
(nat_lit 51, ⟨(.type "getset_descriptor"), none, (.fields #[(.str "__dict__" 239), (.ref 50), (.builtin "function.__dict__"), (.builtin "function.__dict__#set")]), #[]⟩) ::
(nat_lit 52, ⟨(.type "getset_descriptor"), none, (.fields #[(.str "__weakref__" 241), (.ref 50), (.builtin "ExceptionGroup.__weakref__"), .none]), #[]⟩) ::
(nat_lit 55, ⟨(.type "tuple"), none, (.seq #[] 0), #[]⟩) ::
(nat_lit 57, ⟨(.type "tuple"), none, (.seq #[(.str "grid" 249), (.str "frame" 250), (.str "found" 251), (.str "place" 252), (.str "y" 253), (.str "x" 254)] 0), #[]⟩) ::
(nat_lit 58, ⟨(.type "tuple"), none, (.seq #[] 0), #[]⟩) ::
(nat_lit 60, ⟨(.type "code"), none, (.fields #[(.str "copied" 246), (.str "copied" 247), (.str "/claim/cut.py" 248), (.int 20 0), (.int 2 0), (.int 0 0), (.int 0 0), (.int 3 0), (.ref 55), (.bool true), (.int 181 0), (.ref 56), .none, (.ref 57), (.ref 58), (.ref 59), (.int 255 0), (.int 20 0), (.str "/claim/cut.py" 256)]), #[]⟩) ::
(nat_lit 61, ⟨(.type "function"), none, (.func ⟨"copied", "copied", (fnOfSt (stOf 3)).1, (.stmts (fnOfSt (stOf 3)).2.1), (fnOfSt (stOf 3)).2.2, 3, [], .none, .none, .none, (.str "pixelpress.grid" 194), none, (.ref 60), .none, 0⟩), #[]⟩) ::
(nat_lit 62, ⟨(.type "tuple"), none, (.seq #[] 0), #[]⟩) ::
(nat_lit 64, ⟨(.type "tuple"), none, (.seq #[(.str "n" 263), (.str "found" 264), (.str "total" 265), (.str "low" 266), (.str "high" 267), (.str "rows" 268), (.str "y" 269)] 0), #[]⟩) ::
(nat_lit 65, ⟨(.type "tuple"), none, (.seq #[] 0), #[]⟩) ::
(nat_lit 67, ⟨(.type "code"), none, (.fields #[(.str "zigzag_places" 260), (.str "zigzag_places" 261), (.str "/claim/cut.py" 262), (.int 29 0), (.int 1 0), (.int 0 0), (.int 0 0), (.int 3 0), (.ref 62), (.bool true), (.int 181 0), (.ref 63), .none, (.ref 64), (.ref 65), (.ref 66), (.int 270 0), (.int 29 0), (.str "/claim/cut.py" 271)]), #[]⟩) ::
(nat_lit 68, ⟨(.type "function"), none, (.func ⟨"zigzag_places", "zigzag_places", (fnOfSt (stOf 5)).1, (.stmts (fnOfSt (stOf 5)).2.1), (fnOfSt (stOf 5)).2.2, 3, [], .none, .none, .none, (.str "pixelpress.zigzag" 258), none, (.ref 67), .none, 0⟩), #[]⟩) ::
(nat_lit 286, ⟨(.type "tuple"), none, (.seq #[(.int 0 304), (.int 1 326), (.int 8 331), (.int 16 354), (.int 9 359), (.int 2 364), (.int 3 386), (.int 10 391), (.int 17 396), (.int 24 401), (.int 32 424), (.int 25 429), (.int 18 434), (.int 11 439), (.int 4 444), (.int 5 466), (.int 12 471), (.int 19 476), (.int 26 481), (.int 33 486), (.int 40 491), (.int 48 514), (.int 41 519), (.int 34 524), (.int 27 529), (.int 20 534), (.int 13 539), (.int 6 544), (.int 7 566), (.int 14 571), (.int 21 576), (.int 28 581), (.int 35 586), (.int 42 591), (.int 49 596), (.int 56 601), (.int 57 624), (.int 50 629), (.int 43 634), (.int 36 639), (.int 29 644), (.int 22 649), (.int 15 654), (.int 23 676), (.int 30 681), (.int 37 686), (.int 44 691), (.int 51 696), (.int 58 701), (.int 59 724), (.int 52 729), (.int 45 734), (.int 38 739), (.int 31 744), (.int 39 766), (.int 46 771), (.int 53 776), (.int 60 781), (.int 61 804), (.int 54 809), (.int 47 814), (.int 55 836), (.int 62 841), (.int 63 864)] 0), #[]⟩) ::
(nat_lit 287, ⟨(.type "tuple"), none, (.seq #[] 0), #[]⟩) ::
(nat_lit 289, ⟨(.type "tuple"), none, (.seq #[(.str "n" 869)] 0), #[]⟩) ::
(nat_lit 290, ⟨(.type "tuple"), none, (.seq #[] 0), #[]⟩) ::
(nat_lit 292, ⟨(.type "code"), none, (.fields #[(.str "order" 866), (.str "order" 867), (.str "/claim/cut.py" 868), (.int 39 0), (.int 1 0), (.int 0 0), (.int 0 0), (.int 3 0), (.ref 287), (.bool true), (.int 181 0), (.ref 288), .none, (.ref 289), (.ref 290), (.ref 291), (.int 870 0), (.int 39 0), (.str "/claim/cut.py" 871)]), #[]⟩) ::
(nat_lit 293, ⟨(.type "function"), none, (.func ⟨"order", "order", (fnOfSt (stOf 7)).1, (.stmts (fnOfSt (stOf 7)).2.1), (fnOfSt (stOf 7)).2.2, 3, [], .none, .none, .none, (.str "pixelpress.zigzag" 258), none, (.ref 292), .none, 0⟩), #[]⟩) ::
(nat_lit 294, ⟨(.type "tuple"), none, (.seq #[] 0), #[]⟩) ::
(nat_lit 296, ⟨(.type "tuple"), none, (.seq #[(.str "n" 876), (.str "found" 877), (.str "rank" 878), (.str "place" 879)] 0), #[]⟩) ::
(nat_lit 297, ⟨(.type "tuple"), none, (.seq #[] 0), #[]⟩) ::
(nat_lit 299, ⟨(.type "code"), none, (.fields #[(.str "ranks" 873), (.str "ranks" 874), (.str "/claim/cut.py" 875), (.int 41 0), (.int 1 0), (.int 0 0), (.int 0 0), (.int 3 0), (.ref 294), (.bool true), (.int 181 0), (.ref 295), .none, (.ref 296), (.ref 297), (.ref 298), (.int 880 0), (.int 41 0), (.str "/claim/cut.py" 881)]), #[]⟩) ::
(nat_lit 300, ⟨(.type "function"), none, (.func ⟨"ranks", "ranks", (fnOfSt (stOf 8)).1, (.stmts (fnOfSt (stOf 8)).2.1), (fnOfSt (stOf 8)).2.2, 3, [], .none, .none, .none, (.str "pixelpress.zigzag" 258), none, (.ref 299), .none, 0⟩), #[]⟩) ::
(nat_lit 301, ⟨(.type "tuple"), none, (.seq #[(.int 0 892), (.int 0 893), (.int 0 894), (.int 1 895), (.int 0 896), (.int (-1) 898), (.int 0 899), (.int 0 900), (.int 0 901)] 0), #[]⟩) ::
(nat_lit 302, ⟨(.type "tuple"), none, (.seq #[(.int 1 888), (.int 0 889), (.int 32 890), (.int 36 891), (.ref 301)] 0), #[]⟩) ::
(nat_lit 303, ⟨(.type "tuple"), none, (.seq #[(.int 0 906), (.int 1 907), (.int 0 908), (.int 0 909), (.int 0 910), (.int 0 911), (.int 0 912), (.int (-1) 914), (.int 0 915)] 0), #[]⟩) ::
(nat_lit 304, ⟨(.type "tuple"), none, (.seq #[(.int 0 902), (.int 1 903), (.int 32 904), (.int 36 905), (.ref 303)] 0), #[]⟩) ::
(nat_lit 305, ⟨(.type "tuple"), none, (.seq #[(.int 0 920), (.int 1 921), (.int 0 922), (.int 0 923), (.int (-2) 925), (.int 0 926), (.int 0 927), (.int 1 928), (.int 0 929)] 0), #[]⟩) ::
(nat_lit 306, ⟨(.type "tuple"), none, (.seq #[(.int 0 916), (.int 2 917), (.int 0 918), (.int 9 919), (.ref 305)] 0), #[]⟩) ::
(nat_lit 307, ⟨(.type "tuple"), none, (.seq #[(.int 1 934), (.int 0 935), (.int (-1) 937), (.int 0 938), (.int 0 939), (.int 0 940), (.int (-1) 942), (.int 0 943), (.int 1 944)] 0), #[]⟩) ::
(nat_lit 308, ⟨(.type "tuple"), none, (.seq #[(.int 1 930), (.int 1 931), (.int 4 932), (.int 5 933), (.ref 307)] 0), #[]⟩) ::
(nat_lit 309, ⟨(.type "tuple"), none, (.seq #[(.int 0 949), (.int 0 950), (.int 0 951), (.int 1 952), (.int (-2) 954), (.int 1 955), (.int 0 956), (.int 0 957), (.int 0 958)] 0), #[]⟩) ::
(nat_lit 310, ⟨(.type "tuple"), none, (.seq #[(.int 2 945), (.int 0 946), (.int 0 947), (.int 9 948), (.ref 309)] 0), #[]⟩) ::
(nat_lit 311, ⟨(.type "tuple"), none, (.seq #[(.ref 302), (.ref 304), (.ref 306), (.ref 308), (.ref 310)] 0), #[]⟩) ::
(nat_lit 312, ⟨(.type "tuple"), none, (.seq #[] 0), #[]⟩) ::
(nat_lit 314, ⟨(.type "tuple"), none, (.seq #[(.str "scans" 963), (.str "place" 964), (.str "many" 965), (.str "known" 966), (.str "scan" 967), (.str "rank" 968)] 0), #[]⟩) ::
(nat_lit 315, ⟨(.type "tuple"), none, (.seq #[] 0), #[]⟩) ::
(nat_lit 317, ⟨(.type "code"), none, (.fields #[(.str "known_bits" 960), (.str "known_bits" 961), (.str "/claim/cut.py" 962), (.int 51 0), (.int 3 0), (.int 0 0), (.int 0 0), (.int 3 0), (.ref 312), (.bool true), (.int 181 0), (.ref 313), .none, (.ref 314), (.ref 315), (.ref 316), (.int 969 0), (.int 51 0), (.str "/claim/cut.py" 970)]), #[]⟩) ::
(nat_lit 318, ⟨(.type "function"), none, (.func ⟨"known_bits", "known_bits", (fnOfSt (stOf 12)).1, (.stmts (fnOfSt (stOf 12)).2.1), (fnOfSt (stOf 12)).2.2, 3, [], .none, .none, .none, (.str "pixelpress.smoothing" 883), none, (.ref 317), .none, 0⟩), #[]⟩) ::
(nat_lit 319, ⟨(.type "tuple"), none, (.seq #[] 0), #[]⟩) ::
(nat_lit 321, ⟨(.type "tuple"), none, (.seq #[(.str "n" 975), (.str "told" 976), (.str "found" 977), (.str "across" 978), (.str "down" 979), (.str "few" 980), (.str "many" 981), (.str "weights" 982)] 0), #[]⟩) ::
(nat_lit 322, ⟨(.type "tuple"), none, (.seq #[] 0), #[]⟩) ::
(nat_lit 324, ⟨(.type "code"), none, (.fields #[(.str "guessed_ranks" 972), (.str "guessed_ranks" 973), (.str "/claim/cut.py" 974), (.int 58 0), (.int 1 0), (.int 0 0), (.int 0 0), (.int 3 0), (.ref 319), (.bool true), (.int 181 0), (.ref 320), .none, (.ref 321), (.ref 322), (.ref 323), (.int 983 0), (.int 58 0), (.str "/claim/cut.py" 984)]), #[]⟩) ::
(nat_lit 325, ⟨(.type "function"), none, (.func ⟨"guessed_ranks", "guessed_ranks", (fnOfSt (stOf 13)).1, (.stmts (fnOfSt (stOf 13)).2.1), (fnOfSt (stOf 13)).2.2, 3, [], .none, .none, .none, (.str "pixelpress.smoothing" 883), none, (.ref 324), .none, 0⟩), #[]⟩) ::
(nat_lit 326, ⟨(.type "tuple"), none, (.seq #[] 0), #[]⟩) ::
(nat_lit 328, ⟨(.type "tuple"), none, (.seq #[(.str "known" 989), (.str "n" 990), (.str "rank" 991)] 0), #[]⟩) ::
(nat_lit 329, ⟨(.type "tuple"), none, (.seq #[] 0), #[]⟩) ::
(nat_lit 331, ⟨(.type "code"), none, (.fields #[(.str "is_worth" 986), (.str "is_worth" 987), (.str "/claim/cut.py" 988), (.int 64 0), (.int 2 0), (.int 0 0), (.int 0 0), (.int 3 0), (.ref 326), (.bool true), (.int 181 0), (.ref 327), .none, (.ref 328), (.ref 329), (.ref 330), (.int 992 0), (.int 64 0), (.str "/claim/cut.py" 993)]), #[]⟩) ::
(nat_lit 332, ⟨(.type "function"), none, (.func ⟨"is_worth", "is_worth", (fnOfSt (stOf 14)).1, (.stmts (fnOfSt (stOf 14)).2.1), (fnOfSt (stOf 14)).2.2, 3, [], .none, .none, .none, (.str "pixelpress.smoothing" 883), none, (.ref 331), .none, 0⟩), #[]⟩) ::
(nat_lit 333, ⟨(.type "tuple"), none, (.seq #[] 0), #[]⟩) ::
(nat_lit 335, ⟨(.type "tuple"), none, (.seq #[(.str "number" 998), (.str "divisor" 999), (.str "known" 1000), (.str "found" 1001)] 0), #[]⟩) ::
(nat_lit 336, ⟨(.type "tuple"), none, (.seq #[] 0), #[]⟩) ::
(nat_lit 338, ⟨(.type "code"), none, (.fields #[(.str "guessed" 995), (.str "guessed" 996), (.str "/claim/cut.py" 997), (.int 71 0), (.int 3 0), (.int 0 0), (.int 0 0), (.int 3 0), (.ref 333), (.bool true), (.int 181 0), (.ref 334), .none, (.ref 335), (.ref 336), (.ref 337), (.int 1002 0), (.int 71 0), (.str "/claim/cut.py" 1003)]), #[]⟩) ::
(nat_lit 339, ⟨(.type "function"), none, (.func ⟨"guessed", "guessed", (fnOfSt (stOf 15)).1, (.stmts (fnOfSt (stOf 15)).2.1), (fnOfSt (stOf 15)).2.2, 3, [], .none, .none, .none, (.str "pixelpress.smoothing" 883), none, (.ref 338), .none, 0⟩), #[]⟩) ::
(nat_lit 340, ⟨(.type "tuple"), none, (.seq #[] 0), #[]⟩) ::
(nat_lit 343, ⟨(.type "code"), none, (.fields #[(.str "weighed" 1005), (.str "weighed" 1006), (.str "/claim/cut.py" 1007), (.int 76 0), (.int 2 0), (.int 0 0), (.int 0 0), (.int 3 0), (.ref 340), (.bool true), (.int 181 0), (.ref 341), .none, .none, .none, (.ref 342), (.int 1008 0), (.int 76 0), (.str "/claim/cut.py" 1009)]), #[]⟩) ::
(nat_lit 344, ⟨(.type "function"), none, (.func ⟨"weighed", "weighed", (fnOfSt (stOf 16)).1, (.stmts (fnOfSt (stOf 16)).2.1), (fnOfSt (stOf 16)).2.2, 3, [], .none, .none, .none, (.str "pixelpress.smoothing" 883), none, (.ref 343), .none, 0⟩), #[]⟩) ::
(nat_lit 345, ⟨(.type "tuple"), none, (.seq #[] 0), #[]⟩) ::
(nat_lit 347, ⟨(.type "tuple"), none, (.seq #[(.str "row" 1014), (.str "nine" 1015), (.str "qtable" 1016), (.str "known" 1017), (.str "n" 1018), (.str "found" 1019), (.str "places" 1020), (.str "at" 1021), (.str "across" 1022), (.str "down" 1023), (.str "few" 1024), (.str "many" 1025), (.str "weights" 1026), (.str "rank" 1027), (.str "number" 1028)] 0), #[]⟩) ::
(nat_lit 348, ⟨(.type "tuple"), none, (.seq #[] 0), #[]⟩) ::
(nat_lit 350, ⟨(.type "code"), none, (.fields #[(.str "smoothed_row" 1011), (.str "smoothed_row" 1012), (.str "/claim/cut.py" 1013), (.int 78 0), (.int 5 0), (.int 0 0), (.int 0 0), (.int 3 0), (.ref 345), (.bool true), (.int 181 0), (.ref 346), .none, (.ref 347), (.ref 348), (.ref 349), (.int 1029 0), (.int 78 0), (.str "/claim/cut.py" 1030)]), #[]⟩) ::
(nat_lit 351, ⟨(.type "function"), none, (.func ⟨"smoothed_row", "smoothed_row", (fnOfSt (stOf 17)).1, (.stmts (fnOfSt (stOf 17)).2.1), (fnOfSt (stOf 17)).2.2, 3, [], .none, .none, .none, (.str "pixelpress.smoothing" 883), none, (.ref 350), .none, 0⟩), #[]⟩) ::
(nat_lit 352, ⟨(.type "tuple"), none, (.seq #[] 0), #[]⟩) ::
(nat_lit 354, ⟨(.type "tuple"), none, (.seq #[(.str "place" 1035), (.str "size" 1036)] 0), #[]⟩) ::
(nat_lit 355, ⟨(.type "tuple"), none, (.seq #[] 0), #[]⟩) ::
(nat_lit 357, ⟨(.type "code"), none, (.fields #[(.str "kept_in" 1032), (.str "kept_in" 1033), (.str "/claim/cut.py" 1034), (.int 88 0), (.int 2 0), (.int 0 0), (.int 0 0), (.int 3 0), (.ref 352), (.bool true), (.int 181 0), (.ref 353), .none, (.ref 354), (.ref 355), (.ref 356), (.int 1037 0), (.int 88 0), (.str "/claim/cut.py" 1038)]), #[]⟩) ::
(nat_lit 358, ⟨(.type "function"), none, (.func ⟨"kept_in", "kept_in", (fnOfSt (stOf 18)).1, (.stmts (fnOfSt (stOf 18)).2.1), (fnOfSt (stOf 18)).2.2, 3, [], .none, .none, .none, (.str "pixelpress.smoothing" 883), none, (.ref 357), .none, 0⟩), #[]⟩) ::
(nat_lit 359, ⟨(.type "tuple"), none, (.seq #[] 0), #[]⟩) ::
(nat_lit 361, ⟨(.type "tuple"), none, (.seq #[(.str "grid" 1043), (.str "place" 1044), (.str "x" 1045), (.str "y" 1046), (.str "across" 1047), (.str "down" 1048), (.str "found" 1049), (.str "step" 1050), (.str "turn" 1051)] 0), #[]⟩) ::
(nat_lit 362, ⟨(.type "tuple"), none, (.seq #[] 0), #[]⟩) ::
(nat_lit 364, ⟨(.type "code"), none, (.fields #[(.str "nine_of" 1040), (.str "nine_of" 1041), (.str "/claim/cut.py" 1042), (.int 90 0), (.int 6 0), (.int 0 0), (.int 0 0), (.int 3 0), (.ref 359), (.bool true), (.int 181 0), (.ref 360), .none, (.ref 361), (.ref 362), (.ref 363), (.int 1052 0), (.int 90 0), (.str "/claim/cut.py" 1053)]), #[]⟩) ::
(nat_lit 365, ⟨(.type "function"), none, (.func ⟨"nine_of", "nine_of", (fnOfSt (stOf 19)).1, (.stmts (fnOfSt (stOf 19)).2.1), (fnOfSt (stOf 19)).2.2, 3, [], .none, .none, .none, (.str "pixelpress.smoothing" 883), none, (.ref 364), .none, 0⟩), #[]⟩) ::
(nat_lit 366, ⟨(.type "tuple"), none, (.seq #[] 0), #[]⟩) ::
(nat_lit 368, ⟨(.type "tuple"), none, (.seq #[(.str "grid" 1058), (.str "found" 1059), (.str "place" 1060), (.str "size" 1061), (.str "qtable" 1062), (.str "known" 1063), (.str "n" 1064), (.str "across" 1065), (.str "down" 1066), (.str "y" 1067), (.str "x" 1068), (.str "row" 1069), (.str "nine" 1070)] 0), #[]⟩) ::
(nat_lit 369, ⟨(.type "tuple"), none, (.seq #[] 0), #[]⟩) ::
(nat_lit 371, ⟨(.type "code"), none, (.fields #[(.str "smooth_component" 1055), (.str "smooth_component" 1056), (.str "/claim/cut.py" 1057), (.int 96 0), (.int 7 0), (.int 0 0), (.int 0 0), (.int 3 0), (.ref 366), (.bool true), (.int 181 0), (.ref 367), .none, (.ref 368), (.ref 369), (.ref 370), (.int 1071 0), (.int 96 0), (.str "/claim/cut.py" 1072)]), #[]⟩) ::
(nat_lit 372, ⟨(.type "function"), none, (.func ⟨"smooth_component", "smooth_component", (fnOfSt (stOf 20)).1, (.stmts (fnOfSt (stOf 20)).2.1), (fnOfSt (stOf 20)).2.2, 3, [], .none, .none, .none, (.str "pixelpress.smoothing" 883), none, (.ref 371), .none, 0⟩), #[]⟩) ::
(nat_lit 373, ⟨(.type "tuple"), none, (.seq #[] 0), #[]⟩) ::
(nat_lit 375, ⟨(.type "tuple"), none, (.seq #[(.str "grid" 1077), (.str "frame" 1078), (.str "qtables" 1079), (.str "scans" 1080), (.str "found" 1081), (.str "place" 1082), (.str "known" 1083)] 0), #[]⟩) ::
(nat_lit 376, ⟨(.type "tuple"), none, (.seq #[] 0), #[]⟩) ::
(nat_lit 378, ⟨(.type "code"), none, (.fields #[(.str "smoothed_grid" 1074), (.str "smoothed_grid" 1075), (.str "/claim/cut.py" 1076), (.int 103 0), (.int 4 0), (.int 0 0), (.int 0 0), (.int 3 0), (.ref 373), (.bool true), (.int 181 0), (.ref 374), .none, (.ref 375), (.ref 376), (.ref 377), (.int 1084 0), (.int 103 0), (.str "/claim/cut.py" 1085)]), #[]⟩) ::
(nat_lit 379, ⟨(.type "function"), none, (.func ⟨"smoothed_grid", "smoothed_grid", (fnOfSt (stOf 21)).1, (.stmts (fnOfSt (stOf 21)).2.1), (fnOfSt (stOf 21)).2.2, 3, [], .none, .none, .none, (.str "pixelpress.smoothing" 883), none, (.ref 378), .none, 0⟩), #[]⟩) ::
(nat_lit 380, ⟨(.type "tuple"), none, (.seq #[] 0), #[]⟩) ::
(nat_lit 382, ⟨(.type "tuple"), none, (.seq #[(.str "many" 1092), (.str "size" 1093)] 0), #[]⟩) ::
(nat_lit 383, ⟨(.type "tuple"), none, (.seq #[] 0), #[]⟩) ::
(nat_lit 385, ⟨(.type "code"), none, (.fields #[(.str "parts" 1089), (.str "parts" 1090), (.str "/claim/cut.py" 1091), (.int 111 0), (.int 2 0), (.int 0 0), (.int 0 0), (.int 3 0), (.ref 380), (.bool true), (.int 181 0), (.ref 381), .none, (.ref 382), (.ref 383), (.ref 384), (.int 1094 0), (.int 111 0), (.str "/claim/cut.py" 1095)]), #[]⟩) ::
(nat_lit 386, ⟨(.type "function"), none, (.func ⟨"parts", "parts", (fnOfSt (stOf 23)).1, (.stmts (fnOfSt (stOf 23)).2.1), (fnOfSt (stOf 23)).2.2, 3, [], .none, .none, .none, (.str "pixelpress.frames" 1087), none, (.ref 385), .none, 0⟩), #[]⟩) ::
(nat_lit 394, ⟨(.type "tuple"), none, (.seq #[] 0), #[]⟩) ::
(nat_lit 396, ⟨(.type "tuple"), none, (.seq #[(.str "self" 1112), (.str "ident" 1113), (.str "across" 1114), (.str "down" 1115), (.str "quant" 1116)] 0), #[]⟩) ::
(nat_lit 397, ⟨(.type "tuple"), none, (.seq #[] 0), #[]⟩) ::
(nat_lit 399, ⟨(.type "code"), none, (.fields #[(.str "__init__" 1109), (.str "Component.__init__" 1110), (.str "/claim/cut.py" 1111), (.int 115 0), (.int 5 0), (.int 0 0), (.int 0 0), (.int 3 0), (.ref 394), (.bool true), (.int 181 0), (.ref 395), .none, (.ref 396), (.ref 397), (.ref 398), (.int 1117 0), (.int 115 0), (.str "/claim/cut.py" 1118)]), #[]⟩) ::
(nat_lit 400, ⟨(.type "function"), none, (.func ⟨"__init__", "Component.__init__", (fnOfSt (memOf 24 0)).1, (.stmts (fnOfSt (memOf 24 0)).2.1), (fnOfSt (memOf 24 0)).2.2, 3, [], .none, .none, .none, (.str "pixelpress.frames" 1087), none, (.ref 399), .none, 0⟩), #[]⟩) ::
(nat_lit 401, ⟨(.type "tuple"), none, (.seq #[(.str "across" 1120), (.str "down" 1121), (.str "ident" 1122), (.str "quant" 1123)] 0), #[]⟩) ::
(nat_lit 402, ⟨(.type "dict"), none, (.dict #[⟨(PySem.PyData.keyHash P "__module__"), (.str "__module__" 1104), (.str "pixelpress.frames" 1087)⟩, ⟨(PySem.PyData.keyHash P "__firstlineno__"), (.str "__firstlineno__" 1108), (.int 113 1107)⟩, ⟨(PySem.PyData.keyHash P "__init__"), (.str "__init__" 1119), (.ref 400)⟩, ⟨(PySem.PyData.keyHash P "__static_attributes__"), (.str "__static_attributes__" 1124), (.ref 401)⟩, ⟨(PySem.PyData.keyHash P "__dict__"), (.str "__dict__" 1126), (.ref 404)⟩, ⟨(PySem.PyData.keyHash P "__weakref__"), (.str "__weakref__" 1128), (.ref 405)⟩, ⟨(PySem.PyData.keyHash P "__doc__"), (.str "__doc__" 1129), .none⟩] 4), #[]⟩) ::
(nat_lit 403, ⟨(.type "type"), none, (.cls ⟨"Component", [(.type "object")], [(.ref 403), (.type "object")], 402, "Component", true, [], [], false, none, false⟩), #[none, none, (some (.str "Component" 1097)), (some (.str "Component" 1105)), (some (.builtin "object.__new__")), (some (.bool true))]⟩) ::
(nat_lit 404, ⟨(.type "getset_descriptor"), none, (.fields #[(.str "__dict__" 1125), (.ref 403), (.builtin "function.__dict__"), (.builtin "function.__dict__#set")]), #[]⟩) ::
(nat_lit 405, ⟨(.type "getset_descriptor"), none, (.fields #[(.str "__weakref__" 1127), (.ref 403), (.builtin "ExceptionGroup.__weakref__"), .none]), #[]⟩) ::
(nat_lit 415, ⟨(.type "tuple"), none, (.seq #[] 0), #[]⟩) ::
(nat_lit 417, ⟨(.type "tuple"), none, (.seq #[(.str "self" 1147), (.str "kind" 1148), (.str "precision" 1149), (.str "height" 1150), (.str "width" 1151), (.str "components" 1152), (.str "n" 1153)] 0), #[]⟩) ::
(nat_lit 418, ⟨(.type "tuple"), none, (.seq #[] 0), #[]⟩) ::
(nat_lit 420, ⟨(.type "code"), none, (.fields #[(.str "__init__" 1144), (.str "Frame.__init__" 1145), (.str "/claim/cut.py" 1146), (.int 122 0), (.int 7 0), (.int 0 0), (.int 0 0), (.int 3 0), (.ref 415), (.bool true), (.int 181 0), (.ref 416), .none, (.ref 417), (.ref 418), (.ref 419), (.int 1154 0), (.int 122 0), (.str "/claim/cut.py" 1155)]), #[]⟩) ::
(nat_lit 421, ⟨(.type "function"), none, (.func ⟨"__init__", "Frame.__init__", (fnOfSt (memOf 25 0)).1, (.stmts (fnOfSt (memOf 25 0)).2.1), (fnOfSt (memOf 25 0)).2.2, 3, [], .none, .none, .none, (.str "pixelpress.frames" 1087), none, (.ref 420), .none, 0⟩), #[]⟩) ::
(nat_lit 422, ⟨(.type "tuple"), none, (.seq #[] 0), #[]⟩) ::
(nat_lit 425, ⟨(.type "code"), none, (.fields #[(.str "most_across" 1157), (.str "Frame.most_across" 1158), (.str "/claim/cut.py" 1159), (.int 130 0), (.int 1 0), (.int 0 0), (.int 0 0), (.int 3 0), (.ref 422), (.bool true), (.int 181 0), (.ref 423), .none, .none, .none, (.ref 424), (.int 1160 0), (.int 130 0), (.str "/claim/cut.py" 1161)]), #[]⟩) ::
(nat_lit 426, ⟨(.type "function"), none, (.func ⟨"most_across", "Frame.most_across", (fnOfSt (memOf 25 1)).1, (.stmts (fnOfSt (memOf 25 1)).2.1), (fnOfSt (memOf 25 1)).2.2, 3, [], .none, .none, .none, (.str "pixelpress.frames" 1087), none, (.ref 425), .none, 0⟩), #[]⟩) ::
(nat_lit 427, ⟨(.type "tuple"), none, (.seq #[] 0), #[]⟩) ::
(nat_lit 430, ⟨(.type "code"), none, (.fields #[(.str "most_down" 1163), (.str "Frame.most_down" 1164), (.str "/claim/cut.py" 1165), (.int 133 0), (.int 1 0), (.int 0 0), (.int 0 0), (.int 3 0), (.ref 427), (.bool true), (.int 181 0), (.ref 428), .none, .none, .none, (.ref 429), (.int 1166 0), (.int 133 0), (.str "/claim/cut.py" 1167)]), #[]⟩) ::
(nat_lit 431, ⟨(.type "function"), none, (.func ⟨"most_down", "Frame.most_down", (fnOfSt (memOf 25 2)).1, (.stmts (fnOfSt (memOf 25 2)).2.1), (fnOfSt (memOf 25 2)).2.2, 3, [], .none, .none, .none, (.str "pixelpress.frames" 1087), none, (.ref 430), .none, 0⟩), #[]⟩) ::
(nat_lit 432, ⟨(.type "tuple"), none, (.seq #[] 0), #[]⟩) ::
(nat_lit 434, ⟨(.type "tuple"), none, (.seq #[(.str "self" 1172)] 0), #[]⟩) ::
(nat_lit 435, ⟨(.type "tuple"), none, (.seq #[] 0), #[]⟩) ::
(nat_lit 437, ⟨(.type "code"), none, (.fields #[(.str "mcus_across" 1169), (.str "Frame.mcus_across" 1170), (.str "/claim/cut.py" 1171), (.int 136 0), (.int 1 0), (.int 0 0), (.int 0 0), (.int 3 0), (.ref 432), (.bool true), (.int 181 0), (.ref 433), .none, (.ref 434), (.ref 435), (.ref 436), (.int 1173 0), (.int 136 0), (.str "/claim/cut.py" 1174)]), #[]⟩) ::
(nat_lit 438, ⟨(.type "function"), none, (.func ⟨"mcus_across", "Frame.mcus_across", (fnOfSt (memOf 25 3)).1, (.stmts (fnOfSt (memOf 25 3)).2.1), (fnOfSt (memOf 25 3)).2.2, 3, [], .none, .none, .none, (.str "pixelpress.frames" 1087), none, (.ref 437), .none, 0⟩), #[]⟩) ::
(nat_lit 439, ⟨(.type "tuple"), none, (.seq #[] 0), #[]⟩) ::
(nat_lit 441, ⟨(.type "tuple"), none, (.seq #[(.str "self" 1179)] 0), #[]⟩) ::
(nat_lit 442, ⟨(.type "tuple"), none, (.seq #[] 0), #[]⟩) ::
(nat_lit 444, ⟨(.type "code"), none, (.fields #[(.str "mcus_down" 1176), (.str "Frame.mcus_down" 1177), (.str "/claim/cut.py" 1178), (.int 139 0), (.int 1 0), (.int 0 0), (.int 0 0), (.int 3 0), (.ref 439), (.bool true), (.int 181 0), (.ref 440), .none, (.ref 441), (.ref 442), (.ref 443), (.int 1180 0), (.int 139 0), (.str "/claim/cut.py" 1181)]), #[]⟩) ::
(nat_lit 445, ⟨(.type "function"), none, (.func ⟨"mcus_down", "Frame.mcus_down", (fnOfSt (memOf 25 4)).1, (.stmts (fnOfSt (memOf 25 4)).2.1), (fnOfSt (memOf 25 4)).2.2, 3, [], .none, .none, .none, (.str "pixelpress.frames" 1087), none, (.ref 444), .none, 0⟩), #[]⟩) ::
(nat_lit 446, ⟨(.type "tuple"), none, (.seq #[] 0), #[]⟩) ::
(nat_lit 448, ⟨(.type "tuple"), none, (.seq #[(.str "self" 1186), (.str "place" 1187), (.str "component" 1188), (.str "width" 1189)] 0), #[]⟩) ::
(nat_lit 449, ⟨(.type "tuple"), none, (.seq #[] 0), #[]⟩) ::
(nat_lit 451, ⟨(.type "code"), none, (.fields #[(.str "plane_size" 1183), (.str "Frame.plane_size" 1184), (.str "/claim/cut.py" 1185), (.int 142 0), (.int 2 0), (.int 0 0), (.int 0 0), (.int 3 0), (.ref 446), (.bool true), (.int 181 0), (.ref 447), .none, (.ref 448), (.ref 449), (.ref 450), (.int 1190 0), (.int 142 0), (.str "/claim/cut.py" 1191)]), #[]⟩) ::
(nat_lit 452, ⟨(.type "function"), none, (.func ⟨"plane_size", "Frame.plane_size", (fnOfSt (memOf 25 5)).1, (.stmts (fnOfSt (memOf 25 5)).2.1), (fnOfSt (memOf 25 5)).2.2, 3, [], .none, .none, .none, (.str "pixelpress.frames" 1087), none, (.ref 451), .none, 0⟩), #[]⟩) ::
(nat_lit 453, ⟨(.type "tuple"), none, (.seq #[] 0), #[]⟩) ::
(nat_lit 455, ⟨(.type "tuple"), none, (.seq #[(.str "self" 1196), (.str "place" 1197), (.str "width" 1198), (.str "height" 1199)] 0), #[]⟩) ::
(nat_lit 456, ⟨(.type "tuple"), none, (.seq #[] 0), #[]⟩) ::
(nat_lit 458, ⟨(.type "code"), none, (.fields #[(.str "blocks" 1193), (.str "Frame.blocks" 1194), (.str "/claim/cut.py" 1195), (.int 147 0), (.int 2 0), (.int 0 0), (.int 0 0), (.int 3 0), (.ref 453), (.bool true), (.int 181 0), (.ref 454), .none, (.ref 455), (.ref 456), (.ref 457), (.int 1200 0), (.int 147 0), (.str "/claim/cut.py" 1201)]), #[]⟩) ::
(nat_lit 459, ⟨(.type "function"), none, (.func ⟨"blocks", "Frame.blocks", (fnOfSt (memOf 25 6)).1, (.stmts (fnOfSt (memOf 25 6)).2.1), (fnOfSt (memOf 25 6)).2.2, 3, [], .none, .none, .none, (.str "pixelpress.frames" 1087), none, (.ref 458), .none, 0⟩), #[]⟩) ::
(nat_lit 460, ⟨(.type "tuple"), none, (.seq #[] 0), #[]⟩) ::
(nat_lit 462, ⟨(.type "tuple"), none, (.seq #[(.str "self" 1206), (.str "place" 1207), (.str "component" 1208)] 0), #[]⟩) ::
(nat_lit 463, ⟨(.type "tuple"), none, (.seq #[] 0), #[]⟩) ::
(nat_lit 465, ⟨(.type "code"), none, (.fields #[(.str "padded" 1203), (.str "Frame.padded" 1204), (.str "/claim/cut.py" 1205), (.int 151 0), (.int 2 0), (.int 0 0), (.int 0 0), (.int 3 0), (.ref 460), (.bool true), (.int 181 0), (.ref 461), .none, (.ref 462), (.ref 463), (.ref 464), (.int 1209 0), (.int 151 0), (.str "/claim/cut.py" 1210)]), #[]⟩) ::
(nat_lit 466, ⟨(.type "function"), none, (.func ⟨"padded", "Frame.padded", (fnOfSt (memOf 25 7)).1, (.stmts (fnOfSt (memOf 25 7)).2.1), (fnOfSt (memOf 25 7)).2.2, 3, [], .none, .none, .none, (.str "pixelpress.frames" 1087), none, (.ref 465), .none, 0⟩), #[]⟩) ::
(nat_lit 467, ⟨(.type "tuple"), none, (.seq #[(.str "components" 1212), (.str "height" 1213), (.str "kind" 1214), (.str "n" 1215), (.str "precision" 1216), (.str "width" 1217)] 0), #[]⟩) ::
(nat_lit 468, ⟨(.type "dict"), none, (.dict #[⟨(PySem.PyData.keyHash P "__module__"), (.str "__module__" 1139), (.str "pixelpress.frames" 1087)⟩, ⟨(PySem.PyData.keyHash P "__firstlineno__"), (.str "__firstlineno__" 1143), (.int 120 1142)⟩, ⟨(PySem.PyData.keyHash P "__init__"), (.str "__init__" 1156), (.ref 421)⟩, ⟨(PySem.PyData.keyHash P "most_across"), (.str "most_across" 1162), (.ref 426)⟩, ⟨(PySem.PyData.keyHash P "most_down"), (.str "most_down" 1168), (.ref 431)⟩, ⟨(PySem.PyData.keyHash P "mcus_across"), (.str "mcus_across" 1175), (.ref 438)⟩, ⟨(PySem.PyData.keyHash P "mcus_down"), (.str "mcus_down" 1182), (.ref 445)⟩, ⟨(PySem.PyData.keyHash P "plane_size"), (.str "plane_size" 1192), (.ref 452)⟩, ⟨(PySem.PyData.keyHash P "blocks"), (.str "blocks" 1202), (.ref 459)⟩, ⟨(PySem.PyData.keyHash P "padded"), (.str "padded" 1211), (.ref 466)⟩, ⟨(PySem.PyData.keyHash P "__static_attributes__"), (.str "__static_attributes__" 1218), (.ref 467)⟩, ⟨(PySem.PyData.keyHash P "__dict__"), (.str "__dict__" 1220), (.ref 470)⟩, ⟨(PySem.PyData.keyHash P "__weakref__"), (.str "__weakref__" 1222), (.ref 471)⟩, ⟨(PySem.PyData.keyHash P "__doc__"), (.str "__doc__" 1223), .none⟩] 4), #[]⟩) ::
(nat_lit 469, ⟨(.type "type"), none, (.cls ⟨"Frame", [(.type "object")], [(.ref 469), (.type "object")], 468, "Frame", true, [], [], false, none, false⟩), #[none, none, (some (.str "Frame" 1132)), (some (.str "Frame" 1140)), (some (.builtin "object.__new__")), (some (.bool true))]⟩) ::
(nat_lit 470, ⟨(.type "getset_descriptor"), none, (.fields #[(.str "__dict__" 1219), (.ref 469), (.builtin "function.__dict__"), (.builtin "function.__dict__#set")]), #[]⟩) ::
(nat_lit 471, ⟨(.type "getset_descriptor"), none, (.fields #[(.str "__weakref__" 1221), (.ref 469), (.builtin "ExceptionGroup.__weakref__"), .none]), #[]⟩) ::
(nat_lit 481, ⟨(.type "tuple"), none, (.seq #[] 0), #[]⟩) ::
(nat_lit 483, ⟨(.type "tuple"), none, (.seq #[(.str "self" 1243), (.str "places" 1244), (.str "dc_slots" 1245), (.str "ac_slots" 1246), (.str "start" 1247), (.str "end" 1248), (.str "high" 1249), (.str "low" 1250)] 0), #[]⟩) ::
(nat_lit 484, ⟨(.type "tuple"), none, (.seq #[] 0), #[]⟩) ::
(nat_lit 486, ⟨(.type "code"), none, (.fields #[(.str "__init__" 1240), (.str "Scan.__init__" 1241), (.str "/claim/cut.py" 1242), (.int 157 0), (.int 8 0), (.int 0 0), (.int 0 0), (.int 3 0), (.ref 481), (.bool true), (.int 181 0), (.ref 482), .none, (.ref 483), (.ref 484), (.ref 485), (.int 1251 0), (.int 157 0), (.str "/claim/cut.py" 1252)]), #[]⟩) ::
(nat_lit 487, ⟨(.type "function"), none, (.func ⟨"__init__", "Scan.__init__", (fnOfSt (memOf 27 0)).1, (.stmts (fnOfSt (memOf 27 0)).2.1), (fnOfSt (memOf 27 0)).2.2, 3, [], .none, .none, .none, (.str "pixelpress.scans" 1226), none, (.ref 486), .none, 0⟩), #[]⟩) ::
(nat_lit 488, ⟨(.type "tuple"), none, (.seq #[] 0), #[]⟩) ::
(nat_lit 490, ⟨(.type "tuple"), none, (.seq #[(.str "self" 1257)] 0), #[]⟩) ::
(nat_lit 491, ⟨(.type "tuple"), none, (.seq #[] 0), #[]⟩) ::
(nat_lit 493, ⟨(.type "code"), none, (.fields #[(.str "is_alone" 1254), (.str "Scan.is_alone" 1255), (.str "/claim/cut.py" 1256), (.int 166 0), (.int 1 0), (.int 0 0), (.int 0 0), (.int 3 0), (.ref 488), (.bool true), (.int 181 0), (.ref 489), .none, (.ref 490), (.ref 491), (.ref 492), (.int 1258 0), (.int 166 0), (.str "/claim/cut.py" 1259)]), #[]⟩) ::
(nat_lit 494, ⟨(.type "function"), none, (.func ⟨"is_alone", "Scan.is_alone", (fnOfSt (memOf 27 1)).1, (.stmts (fnOfSt (memOf 27 1)).2.1), (fnOfSt (memOf 27 1)).2.2, 3, [], .none, .none, .none, (.str "pixelpress.scans" 1226), none, (.ref 493), .none, 0⟩), #[]⟩) ::
(nat_lit 495, ⟨(.type "tuple"), none, (.seq #[] 0), #[]⟩) ::
(nat_lit 497, ⟨(.type "tuple"), none, (.seq #[(.str "self" 1264)] 0), #[]⟩) ::
(nat_lit 498, ⟨(.type "tuple"), none, (.seq #[] 0), #[]⟩) ::
(nat_lit 500, ⟨(.type "code"), none, (.fields #[(.str "is_finer" 1261), (.str "Scan.is_finer" 1262), (.str "/claim/cut.py" 1263), (.int 169 0), (.int 1 0), (.int 0 0), (.int 0 0), (.int 3 0), (.ref 495), (.bool true), (.int 181 0), (.ref 496), .none, (.ref 497), (.ref 498), (.ref 499), (.int 1265 0), (.int 169 0), (.str "/claim/cut.py" 1266)]), #[]⟩) ::
(nat_lit 501, ⟨(.type "function"), none, (.func ⟨"is_finer", "Scan.is_finer", (fnOfSt (memOf 27 2)).1, (.stmts (fnOfSt (memOf 27 2)).2.1), (fnOfSt (memOf 27 2)).2.2, 3, [], .none, .none, .none, (.str "pixelpress.scans" 1226), none, (.ref 500), .none, 0⟩), #[]⟩) ::
(nat_lit 502, ⟨(.type "tuple"), none, (.seq #[(.str "ac_slots" 1268), (.str "dc_slots" 1269), (.str "end" 1270), (.str "high" 1271), (.str "low" 1272), (.str "places" 1273), (.str "start" 1274)] 0), #[]⟩) ::
(nat_lit 503, ⟨(.type "dict"), none, (.dict #[⟨(PySem.PyData.keyHash P "__module__"), (.str "__module__" 1235), (.str "pixelpress.scans" 1226)⟩, ⟨(PySem.PyData.keyHash P "__firstlineno__"), (.str "__firstlineno__" 1239), (.int 155 1238)⟩, ⟨(PySem.PyData.keyHash P "__init__"), (.str "__init__" 1253), (.ref 487)⟩, ⟨(PySem.PyData.keyHash P "is_alone"), (.str "is_alone" 1260), (.ref 494)⟩, ⟨(PySem.PyData.keyHash P "is_finer"), (.str "is_finer" 1267), (.ref 501)⟩, ⟨(PySem.PyData.keyHash P "__static_attributes__"), (.str "__static_attributes__" 1275), (.ref 502)⟩, ⟨(PySem.PyData.keyHash P "__dict__"), (.str "__dict__" 1277), (.ref 505)⟩, ⟨(PySem.PyData.keyHash P "__weakref__"), (.str "__weakref__" 1279), (.ref 506)⟩, ⟨(PySem.PyData.keyHash P "__doc__"), (.str "__doc__" 1280), .none⟩] 4), #[]⟩) ::
(nat_lit 504, ⟨(.type "type"), none, (.cls ⟨"Scan", [(.type "object")], [(.ref 504), (.type "object")], 503, "Scan", true, [], [], false, none, false⟩), #[none, none, (some (.str "Scan" 1228)), (some (.str "Scan" 1236)), (some (.builtin "object.__new__")), (some (.bool true))]⟩) ::
(nat_lit 505, ⟨(.type "getset_descriptor"), none, (.fields #[(.str "__dict__" 1276), (.ref 504), (.builtin "function.__dict__"), (.builtin "function.__dict__#set")]), #[]⟩) ::
(nat_lit 506, ⟨(.type "getset_descriptor"), none, (.fields #[(.str "__weakref__" 1278), (.ref 504), (.builtin "ExceptionGroup.__weakref__"), .none]), #[]⟩) ::
(nat_lit 509, ⟨(.type "tuple"), none, (.seq #[] 0), #[]⟩) ::
(nat_lit 511, ⟨(.type "tuple"), none, (.seq #[(.str "script" 1288), (.str "k" 1289), (.str "cell" 1290), (.str "big" 1291), (.str "mixed" 1292)] 0), #[]⟩) ::
(nat_lit 512, ⟨(.type "tuple"), none, (.seq #[] 0), #[]⟩) ::
(nat_lit 514, ⟨(.type "code"), none, (.fields #[(.str "_law_pool" 1285), (.str "_law_pool" 1286), (.str "/claim/cut.py" 1287), (.int 172 0), (.int 2 0), (.int 0 0), (.int 0 0), (.int 3 0), (.ref 509), (.bool true), (.int 181 0), (.ref 510), .none, (.ref 511), (.ref 512), (.ref 513), (.int 1293 0), (.int 172 0), (.str "/claim/cut.py" 1294)]), #[]⟩) ::
(nat_lit 515, ⟨(.type "function"), none, (.func ⟨"_law_pool", "_law_pool", (fnOfSt (stOf 29)).1, (.stmts (fnOfSt (stOf 29)).2.1), (fnOfSt (stOf 29)).2.2, 3, [], .none, .none, .none, (.str "law_nt0561_01" 1283), none, (.ref 514), .none, 0⟩), #[]⟩) ::
(nat_lit 516, ⟨(.type "tuple"), none, (.seq #[] 0), #[]⟩) ::
(nat_lit 518, ⟨(.type "tuple"), none, (.seq #[(.str "source" 1299), (.str "top" 1300), (.str "drawn" 1301)] 0), #[]⟩) ::
(nat_lit 519, ⟨(.type "tuple"), none, (.seq #[] 0), #[]⟩) ::
(nat_lit 521, ⟨(.type "code"), none, (.fields #[(.str "_law_take" 1296), (.str "_law_take" 1297), (.str "/claim/cut.py" 1298), (.int 177 0), (.int 2 0), (.int 0 0), (.int 0 0), (.int 3 0), (.ref 516), (.bool true), (.int 181 0), (.ref 517), .none, (.ref 518), (.ref 519), (.ref 520), (.int 1302 0), (.int 177 0), (.str "/claim/cut.py" 1303)]), #[]⟩) ::
(nat_lit 522, ⟨(.type "function"), none, (.func ⟨"_law_take", "_law_take", (fnOfSt (stOf 30)).1, (.stmts (fnOfSt (stOf 30)).2.1), (fnOfSt (stOf 30)).2.2, 3, [], .none, .none, .none, (.str "law_nt0561_01" 1283), none, (.ref 521), .none, 0⟩), #[]⟩) ::
(nat_lit 523, ⟨(.type "tuple"), none, (.seq #[] 0), #[]⟩) ::
(nat_lit 526, ⟨(.type "code"), none, (.fields #[(.str "_law_scans" 1305), (.str "_law_scans" 1306), (.str "/claim/cut.py" 1307), (.int 184 0), (.int 2 0), (.int 0 0), (.int 0 0), (.int 3 0), (.ref 523), (.bool true), (.int 181 0), (.ref 524), .none, .none, .none, (.ref 525), (.int 1308 0), (.int 184 0), (.str "/claim/cut.py" 1309)]), #[]⟩) ::
(nat_lit 527, ⟨(.type "function"), none, (.func ⟨"_law_scans", "_law_scans", (fnOfSt (stOf 31)).1, (.stmts (fnOfSt (stOf 31)).2.1), (fnOfSt (stOf 31)).2.2, 3, [], .none, .none, .none, (.str "law_nt0561_01" 1283), none, (.ref 526), .none, 0⟩), #[]⟩) ::
(nat_lit 528, ⟨(.type "tuple"), none, (.seq #[] 0), #[]⟩) ::
(nat_lit 530, ⟨(.type "tuple"), none, (.seq #[(.str "n" 1314), (.str "shares" 1315), (.str "found" 1316)] 0), #[]⟩) ::
(nat_lit 531, ⟨(.type "tuple"), none, (.seq #[] 0), #[]⟩) ::
(nat_lit 533, ⟨(.type "code"), none, (.fields #[(.str "_law_places" 1311), (.str "_law_places" 1312), (.str "/claim/cut.py" 1313), (.int 194 0), (.int 1 0), (.int 0 0), (.int 0 0), (.int 3 0), (.ref 528), (.bool true), (.int 181 0), (.ref 529), .none, (.ref 530), (.ref 531), (.ref 532), (.int 1317 0), (.int 194 0), (.str "/claim/cut.py" 1318)]), #[]⟩) ::
(nat_lit 534, ⟨(.type "function"), none, (.func ⟨"_law_places", "_law_places", (fnOfSt (stOf 32)).1, (.stmts (fnOfSt (stOf 32)).2.1), (fnOfSt (stOf 32)).2.2, 3, [], .none, .none, .none, (.str "law_nt0561_01" 1283), none, (.ref 533), .none, 0⟩), #[]⟩) ::
(nat_lit 535, ⟨(.type "tuple"), none, (.seq #[] 0), #[]⟩) ::
(nat_lit 538, ⟨(.type "code"), none, (.fields #[(.str "_law_rank" 1320), (.str "_law_rank" 1321), (.str "/claim/cut.py" 1322), (.int 202 0), (.int 3 0), (.int 0 0), (.int 0 0), (.int 3 0), (.ref 535), (.bool true), (.int 181 0), (.ref 536), .none, .none, .none, (.ref 537), (.int 1323 0), (.int 202 0), (.str "/claim/cut.py" 1324)]), #[]⟩) ::
(nat_lit 539, ⟨(.type "function"), none, (.func ⟨"_law_rank", "_law_rank", (fnOfSt (stOf 33)).1, (.stmts (fnOfSt (stOf 33)).2.1), (fnOfSt (stOf 33)).2.2, 3, [], .none, .none, .none, (.str "law_nt0561_01" 1283), none, (.ref 538), .none, 0⟩), #[]⟩) ::
(nat_lit 540, ⟨(.type "tuple"), none, (.seq #[] 0), #[]⟩) ::
(nat_lit 543, ⟨(.type "code"), none, (.fields #[(.str "_law_row_right" 1326), (.str "_law_row_right" 1327), (.str "/claim/cut.py" 1328), (.int 205 0), (.int 4 0), (.int 0 0), (.int 0 0), (.int 3 0), (.ref 540), (.bool true), (.int 181 0), (.ref 541), .none, .none, .none, (.ref 542), (.int 1329 0), (.int 205 0), (.str "/claim/cut.py" 1330)]), #[]⟩) ::
(nat_lit 544, ⟨(.type "function"), none, (.func ⟨"_law_row_right", "_law_row_right", (fnOfSt (stOf 34)).1, (.stmts (fnOfSt (stOf 34)).2.1), (fnOfSt (stOf 34)).2.2, 3, [], .none, .none, .none, (.str "law_nt0561_01" 1283), none, (.ref 543), .none, 0⟩), #[]⟩) ::
(nat_lit 545, ⟨(.type "tuple"), none, (.seq #[] 0), #[]⟩) ::
(nat_lit 548, ⟨(.type "code"), none, (.fields #[(.str "_law_worth_right" 1332), (.str "_law_worth_right" 1333), (.str "/claim/cut.py" 1334), (.int 222 0), (.int 2 0), (.int 0 0), (.int 0 0), (.int 3 0), (.ref 545), (.bool true), (.int 181 0), (.ref 546), .none, .none, .none, (.ref 547), (.int 1335 0), (.int 222 0), (.str "/claim/cut.py" 1336)]), #[]⟩) ::
(nat_lit 549, ⟨(.type "function"), none, (.func ⟨"_law_worth_right", "_law_worth_right", (fnOfSt (stOf 35)).1, (.stmts (fnOfSt (stOf 35)).2.1), (fnOfSt (stOf 35)).2.2, 3, [], .none, .none, .none, (.str "law_nt0561_01" 1283), none, (.ref 548), .none, 0⟩), #[]⟩) ::
(nat_lit 550, ⟨(.type "tuple"), none, (.seq #[] 0), #[]⟩) ::
(nat_lit 553, ⟨(.type "code"), none, (.fields #[(.str "_law_field" 1338), (.str "_law_field" 1339), (.str "/claim/cut.py" 1340), (.int 226 0), (.int 6 0), (.int 0 0), (.int 0 0), (.int 3 0), (.ref 550), (.bool true), (.int 181 0), (.ref 551), .none, .none, .none, (.ref 552), (.int 1341 0), (.int 226 0), (.str "/claim/cut.py" 1342)]), #[]⟩) ::
(nat_lit 554, ⟨(.type "function"), none, (.func ⟨"_law_field", "_law_field", (fnOfSt (stOf 36)).1, (.stmts (fnOfSt (stOf 36)).2.1), (fnOfSt (stOf 36)).2.2, 3, [], .none, .none, .none, (.str "law_nt0561_01" 1283), none, (.ref 553), .none, 0⟩), #[]⟩) ::
(nat_lit 555, ⟨(.type "tuple"), none, (.seq #[] 0), #[]⟩) ::
(nat_lit 558, ⟨(.type "code"), none, (.fields #[(.str "_law_grid_right" 1344), (.str "_law_grid_right" 1345), (.str "/claim/cut.py" 1346), (.int 233 0), (.int 5 0), (.int 0 0), (.int 0 0), (.int 3 0), (.ref 555), (.bool true), (.int 181 0), (.ref 556), .none, .none, .none, (.ref 557), (.int 1347 0), (.int 233 0), (.str "/claim/cut.py" 1348)]), #[]⟩) ::
(nat_lit 559, ⟨(.type "function"), none, (.func ⟨"_law_grid_right", "_law_grid_right", (fnOfSt (stOf 37)).1, (.stmts (fnOfSt (stOf 37)).2.1), (fnOfSt (stOf 37)).2.2, 3, [], .none, .none, .none, (.str "law_nt0561_01" 1283), none, (.ref 558), .none, 0⟩), #[]⟩) ::
(nat_lit 560, ⟨(.type "tuple"), none, (.seq #[] 0), #[]⟩) ::
(nat_lit 563, ⟨(.type "code"), none, (.fields #[(.str "law" 1350), (.str "law" 1351), (.str "/claim/cut.py" 1352), (.int 252 0), (.int 1 0), (.int 0 0), (.int 0 0), (.int 3 0), (.ref 560), (.bool true), (.int 181 0), (.ref 561), .none, .none, .none, (.ref 562), (.int 1353 0), (.int 252 0), (.str "/claim/cut.py" 1354)]), #[]⟩) ::
(nat_lit 564, ⟨(.type "function"), none, (.func ⟨"law", "law", (fnOfSt (stOf 38)).1, (.stmts (fnOfSt (stOf 38)).2.1), (fnOfSt (stOf 38)).2.2, 3, [], .none, .none, .none, (.str "law_nt0561_01" 1283), none, (.ref 563), .none, 0⟩), #[]⟩) :: []
end Mine.H

namespace Mine.H
theorem leftO_of {p q : Program} {loose : List Str} {Xt : Shared → Bool} {α : Type} {Yf : Shared → α} {Ya : World → α} {N : Nat} {g0 : Bool} {H₀ : Params → Heap} {gs₀ : Array GenState} {d₀ : Drawn}
    {k₀ : Nat} {m₀ : Nat} {ann : Option Value} {M : Nat}
    (open_ : ∀ w : World, (fencedOpening treeTable p w N).map (fun s => (s.heap, s.gens, s.drawn, s.toks)) = some (H₀ w.params, gs₀, d₀, k₀))
    (size : ∀ w : World, ((H₀ w.params).isNs mainGlobals && gs₀.size == 0, (H₀ w.params).objs.size, (H₀ w.params).nsMap mainGlobals "__annotations__") = (true, m₀, ann))
    (run : ∀ (w : World) (os : OsState), ∃ s₁, topRun treeTable p w m₀ ann M ⟨H₀ w.params, gs₀, d₀, k₀, os⟩ (topStub p) = some s₁ ∧
      (staticsOk (importedModules p.main.body) (H₀ w.params) s₁.heap && namesBound p s₁.heap && gensDone s₁ && laidKept (H₀ w.params) s₁.heap) = true ∧ openSeen q loose (importedModules p.main.body) Xt g0 s₁ = openGood q loose ∧ Yf s₁ = Ya w)
    (le : Nat.ble M N = true) : LeftO p q loose Xt Yf Ya N g0 := fun w => by
  obtain ⟨⟨h, gs, d, k, os⟩, e, e'⟩ := Option.map_eq_some_iff.mp (open_ w)
  obtain ⟨rfl, rfl, rfl, rfl⟩ : h = H₀ w.params ∧ gs = gs₀ ∧ d = d₀ ∧ k = k₀ := by simpa using e'
  obtain ⟨z1, z2, z3⟩ : _ ∧ _ ∧ _ := by simpa only [Prod.mk.injEq] using size w
  obtain ⟨s₁, r, l1, l2, l3⟩ := run w os
  replace r := topRun_mono (N - M) _ _ _ _ r
  rw [show M + (N - M) = N by have := Nat.le_of_ble_eq_true le; omega] at r
  have t : topFrom treeTable p w N ⟨H₀ w.params, gs, d, k, os⟩ = some s₁ := by
    unfold topFrom
    dsimp only
    rw [z1, z2, z3, r]
    show (match staticsOk (importedModules p.main.body) (H₀ w.params) s₁.heap && namesBound p s₁.heap && gensDone s₁ && laidKept (H₀ w.params) s₁.heap with | true => _ | false => _) = _
    rw [l1]
  unfold openEnds
  rw [e]
  show (topFrom treeTable p w N _).map _ = _
  rw [t]
  exact congrArg some (Prod.ext l2 l3)
theorem run_of7 {p : Program} {w : World} {n₀ : Nat} {ann : Option Value} {L₁ L₂ L₃ : List Stmt} {env : Env} {pos p5 p6 q : Pos} {s0 sa : Shared} {sb s5 s6 : SharedT} {a b nA nB c d : Nat} {s7 : SharedT} {s₁ : Shared} {p7 : Pos}
    (parts : behindTheImports p = L₁ ++ (L₂ ++ L₃))
    (pre : topGo treeTable p w n₀ ann a s0 (topStub p) = some (sa, ⟨denote treeTable (.body (behindTheImports p) env), .body (behindTheImports p) env, pos, [topFrame q]⟩))
    (block : segRun treeTable p w n₀ ann 1 b sa (blockOf (behindTheImports p) env (.body (behindTheImports p) env) pos [topFrame q]) = some (.next, sb.abs, .body (behindTheImports p) env, pos))
    (partA : segRunT treeTable p w n₀ ann 1 nA sb (piecesOf L₁ env (.body (behindTheImports p) env) pos [topFrame q]) = some (.next, s5, .body (behindTheImports p) env, p5))
    (long : segRun treeTable p w n₀ ann 1 nB s5.abs (piecesOf L₂ env (.body (behindTheImports p) env) p5 [topFrame q]) = some (.next, s6.abs, .body (behindTheImports p) env, p6))
    (rest : segRunT treeTable p w n₀ ann 1 c s6 (piecesOf L₃ env (.body (behindTheImports p) env) p6 [topFrame q]) = some (.next, s7, .body (behindTheImports p) env, p7))
    (last : topRun treeTable p w n₀ ann d s7.abs ⟨doneF .next, .body (behindTheImports p) env, p7, [topFrame q]⟩ = some s₁) :
    topRun treeTable p w n₀ ann (a + (b + (nA + (nB + (c + d))))) s0 (topStub p) = some s₁ := by
  have k := piece_app (rest := []) (segRun_of rest) (piece_nil last)
  rw [List.append_nil] at k
  have k2 := piece_app (segRun_of partA) (piece_app long k)
  rw [← parts] at k2
  exact go_top pre (piece_block block k2)
theorem look {t : BT} {n : Nat} {l : Life} : ∀ {as : List Nat} {os : List Obj}, (as.all fun a => Nat.blt a n) = true → as.map t.get = os.map some → as.map (absHeap t n l).get? = os.map alive
  | [], [], _, _ => rfl
  | [], _ :: _, _, e => nomatch e
  | _ :: _, [], _, e => nomatch e
  | a :: as, o :: os, h, e => by
    obtain ⟨h1, h2⟩ := Bool.and_eq_true_iff.mp h
    obtain ⟨e1, e2⟩ := List.cons.inj e
    rw [List.map_cons, List.map_cons, abs_get (Nat.le_of_ble_eq_true h1) e1, look h2 e2]
theorem lookS (s : SharedT) {as : List Nat} {os : List Obj} {r : List (Option Obj)} (h : (as.all fun a => Nat.blt a s.n) = true) (e : as.map s.tree.get = os.map some) (k : os.map alive = r) : as.map s.abs.heap.get? = r :=
  (look (t := s.tree) (n := s.n) (l := s.life) h e).trans k
end Mine.H

namespace Mine.H
noncomputable abbrev pw : Program := PySem.Challenge.pw_nt0561_01
noncomputable abbrev p0 : Pos := ⟨0, 0, 0, 0⟩
noncomputable abbrev envB : Env := { scope := pw.main.scope, locals := mainNs, globals := mainNs, cells := [], code := .ref 13, frame := some 14 }
noncomputable abbrev codeB : Code := .body (behindTheImports pw) envB
noncomputable abbrev annB : Option Value := some (.ref 6)
noncomputable abbrev frB : List Frame := [topFrame p0]
noncomputable def o11 : Obj := { cls := .type "tuple", dict := none, data := .seq #[] 0, slots := #[] }
noncomputable def o12 : Obj := { cls := .none, dict := none, data := .fields #[], slots := #[] }
noncomputable def o13 : Obj := { cls := .type "code", dict := none, data := .fields #[.str "<module>" 182, .str "<module>" 183, .str "/claim/cut.py" 184, .int 1 0, .int 0 0, .int 0 0, .int 0 0, .int 0 0, .ref 11, .bool false, .int 181 0, .ref 12, .none, .none, .none, .none, .int 185 0, .int 1 0, .str "/claim/cut.py" 186], slots := #[] }
noncomputable def o14 : Obj := { cls := .type "frame", dict := none, slots := #[some (.ref 13), some (.ref 3), some (.ref 3), none, some (.str "__main__" 164), none, some (.ref 0)] }
noncomputable def heapA (P : Params) : Heap := { objs := ⟨[boot_o_0 P, boot_o_1 P, boot_o_2 P, boot_o_3 P, boot_o_4 P, boot_o_5 P, boot_o_6 P, boot_o_7 P, boot_o_8 P, boot_o_9 P, boot_o_10 P, o11, o12, o13, o14]⟩ }
theorem pre (w : World) : (fun os => topGo treeTable pw w 11 annB 12 ⟨boot_heap w.params, #[], boot_drawn, boot_toks, os⟩ (topStub pw)) = fun os => some (⟨heapA w.params, #[], {}, 187, os⟩, ⟨denote treeTable codeB, codeB, p0, frB⟩) := by
  rw [PySem.W.Fast.te15667345088766844465, PySem.W.Fast.te14364793385576792824, PySem.W.Fast.te11892475500146522536]
  kernel_rfl
noncomputable def treeB (P : Params) : BT := (.node (boot_o_0 P) (.node (boot_o_1 P) (.node (boot_o_3 P) (.node (boot_o_7 P) .nil .nil) (.node (o11) .nil .nil)) (.node (boot_o_5 P) (.node (boot_o_9 P) .nil .nil) (.node (o13) .nil .nil))) (.node (boot_o_2 P) (.node (boot_o_4 P) (.node (boot_o_8 P) .nil .nil) (.node (o12) .nil .nil)) (.node (boot_o_6 P) (.node (boot_o_10 P) .nil .nil) (.node (o14) .nil .nil))))
noncomputable abbrev as : List Addr := [2, 3, 15, 17, 18, 20, 21, 29, 32, 33, 34, 36, 37, 39, 40, 41, 43, 44, 46, 47, 48, 49, 50, 51, 52, 55, 57, 58, 60, 61, 62, 64, 65, 67, 68, 286, 287, 289, 290, 292, 293, 294, 296, 297, 299, 300, 301, 302, 303, 304, 305, 306, 307, 308, 309, 310, 311, 312, 314, 315, 317, 318, 319, 321, 322, 324, 325, 326, 328, 329, 331, 332, 333, 335, 336, 338, 339, 340, 343, 344, 345, 347, 348, 350, 351, 352, 354, 355, 357, 358, 359, 361, 362, 364, 365, 366, 368, 369, 371, 372, 373, 375, 376, 378, 379, 380, 382, 383, 385, 386, 394, 396, 397, 399, 400, 401, 402, 403, 404, 405, 415, 417, 418, 420, 421, 422, 425, 426, 427, 430, 431, 432, 434, 435, 437, 438, 439, 441, 442, 444, 445, 446, 448, 449, 451, 452, 453, 455, 456, 458, 459, 460, 462, 463, 465, 466, 467, 468, 469, 470, 471, 481, 483, 484, 486, 487, 488, 490, 491, 493, 494, 495, 497, 498, 500, 501, 502, 503, 504, 505, 506, 509, 511, 512, 514, 515, 516, 518, 519, 521, 522, 523, 526, 527, 528, 530, 531, 533, 534, 535, 538, 539, 540, 543, 544, 545, 548, 549, 550, 553, 554, 555, 558, 559, 560, 563, 564]
theorem block (w : World) : (fun os => segRun treeTable pw w 11 annB 1 1 ⟨heapA w.params, #[], {}, 187, os⟩ (blockOf (behindTheImports pw) envB codeB p0 frB)) = fun os => some (.next, (⟨treeB w.params, 15, {}, #[], {}, 187, os⟩ : SharedT).abs, codeB, p0) := by
  rw [PySem.W.Fast.te14374325043358763698, PySem.W.Fast.te14364793385576792824]
  kernel_rfl
noncomputable abbrev keepB : List Nat := [0, 2, 3, 5, 6, 7, 8, 10, 11, 12, 13, 14, 15, 16, 17, 18, 19, 20, 21, 23, 24, 25, 27, 29, 30, 31, 32, 33, 34, 35, 36, 37, 38]
noncomputable abbrev qB : Program := view pw keepB
noncomputable abbrev looseB : List Str := ["ORDER_8"]
noncomputable abbrev XtB (s : Shared) : Bool := xlAt qB [] s && recOk [] s
noncomputable abbrev chk (w : World) (s : Shared) : Bool := staticsOk (importedModules pw.main.body) (boot_heap w.params) s.heap && namesBound pw s.heap && gensDone s && laidKept (boot_heap w.params) s.heap
noncomputable abbrev L1 : List Stmt := (behindTheImports pw).take 6
noncomputable abbrev L2 : List Stmt := ((behindTheImports pw).drop 6).take 1
noncomputable abbrev L3 : List Stmt := (behindTheImports pw).drop 7
noncomputable abbrev pos5 : Pos := ⟨29, 0, 37, 23⟩
noncomputable abbrev pos6 : Pos := ⟨38, 0, 38, 7⟩
noncomputable def upd (t : BT) (U : List (Nat × Obj)) : BT := U.foldl (fun t p => t.ins p.1 p.2) t
noncomputable def T5 (w : World) (os : OsState) : BT := match PySem.W.Fast.tw10110043849684766642 PySem.W.Fast.tw14364793385576792824 pw w 11 annB 1 406 ⟨treeB w.params, 15, {}, #[], {}, 187, os⟩ ⟨(PySem.W.Fast.tw12563942051412417395 L1 envB).wrap doneF deadEnd id id, codeB, p0, frB⟩ with
  | some r => r.2.1.tree
  | none => .nil
noncomputable abbrev S5 (w : World) (os : OsState) : SharedT := ⟨T5 w os, 69, {}, #[], {}, 273, os⟩
theorem partA (w : World) : (fun os => segRunT treeTable pw w 11 annB 1 406 ⟨treeB w.params, 15, {}, #[], {}, 187, os⟩ (piecesOf L1 envB codeB p0 frB)) = fun os => some (.next, S5 w os, codeB, pos5) := by
  delta piecesOf
  rw [PySem.W.Fast.te10110043849684766642, PySem.W.Fast.te14364793385576792824, PySem.W.Fast.te12563942051412417395]
  kernel_rfl
noncomputable abbrev whole6 : Thread := piecesOf L2 envB codeB pos5 frB
noncomputable def thr (w : World) (os : OsState) : Thread := match PySem.W.Fast.tw10295753902157049106 PySem.W.Fast.tw14364793385576792824 pw w 11 annB 1 79 (S5 w os) ⟨(PySem.W.Fast.tw12563942051412417395 L2 envB).wrap doneF deadEnd id id, codeB, pos5, frB⟩ with
  | some r => ⟨r.2.cur, r.2.code, ⟨35, 17, 35, 21⟩, r.2.stack⟩
  | none => whole6
noncomputable def U0 (P : Params) : List (Nat × Obj) := [(69, ⟨(.type "frame"), none, (.dict #[⟨(PySem.PyData.keyHash P "n"), (.str "n" 274), (.int 8 273)⟩, ⟨(PySem.PyData.keyHash P "found"), (.str "found" 275), (.ref 70)⟩, ⟨(PySem.PyData.keyHash P "total"), (.str "total" 283), (.int 3 365)⟩, ⟨(PySem.PyData.keyHash P "low"), (.str "low" 288), (.int 0 367)⟩, ⟨(PySem.PyData.keyHash P "high"), (.str "high" 291), (.int 3 365)⟩, ⟨(PySem.PyData.keyHash P "rows"), (.str "rows" 299), (.ref 125)⟩, ⟨(PySem.PyData.keyHash P "y"), (.str "y" 301), (.int 3 397)⟩] 7), #[]⟩), (70, ⟨(.type "list"), none, (.seq #[(.int 0 304), (.int 1 326), (.int 8 331), (.int 16 354), (.int 9 359), (.int 2 364), (.int 3 386), (.int 10 391), (.int 17 396), (.int 24 401)] 10), #[]⟩), (71, ⟨(.type "range"), none, (.fields #[(.int 0 280), (.int 15 279), (.int 1 281)]), #[]⟩), (72, ⟨(.type "range_iterator"), none, (.fields #[(.int 4 0), (.int 11 0), (.int 1 0)]), #[]⟩), (73, ⟨(.type "tuple"), none, (.seq #[(.int 0 284), (.int (-7) 287)] 0), #[]⟩), (74, ⟨(.type "tuple_iterator"), none, (.fields #[.none, (.int 2 0)]), #[]⟩), (75, ⟨(.type "list"), none, (.seq #[] 2), #[]⟩), (76, ⟨(.type "tuple"), none, (.seq #[] 0), #[]⟩), (77, ⟨(.type "StopIteration"), none, (.fields #[(.ref 76), .none, .none, .none, (.bool false), .none]), #[]⟩), (78, ⟨(.type "tuple"), none, (.seq #[(.int 0 282), (.int 7 290)] 0), #[]⟩), (79, ⟨(.type "tuple_iterator"), none, (.fields #[.none, (.int 2 0)]), #[]⟩), (80, ⟨(.type "list"), none, (.seq #[] 2), #[]⟩), (81, ⟨(.type "tuple"), none, (.seq #[] 0), #[]⟩), (82, ⟨(.type "StopIteration"), none, (.fields #[(.ref 81), .none, .none, .none, (.bool false), .none]), #[]⟩), (83, ⟨(.type "range"), none, (.fields #[(.int 0 282), (.int (-1) 296), (.int (-1) 298)]), #[]⟩), (84, ⟨(.type "range_iterator"), none, (.fields #[(.int (-1) 0), (.int 0 0), (.int (-1) 0)]), #[]⟩), (85, ⟨(.type "tuple"), none, (.seq #[] 0), #[]⟩), (86, ⟨(.type "StopIteration"), none, (.fields #[(.ref 85), .none, .none, .none, (.bool false), .none]), #[]⟩), (87, ⟨(.type "tuple"), none, (.seq #[(.int 0 307), (.int (-6) 310)] 0), #[]⟩), (88, ⟨(.type "tuple_iterator"), none, (.fields #[.none, (.int 2 0)]), #[]⟩), (89, ⟨(.type "list"), none, (.seq #[] 2), #[]⟩), (90, ⟨(.type "tuple"), none, (.seq #[] 0), #[]⟩), (91, ⟨(.type "StopIteration"), none, (.fields #[(.ref 90), .none, .none, .none, (.bool false), .none]), #[]⟩), (92, ⟨(.type "tuple"), none, (.seq #[(.int 1 305), (.int 7 313)] 0), #[]⟩), (93, ⟨(.type "tuple_iterator"), none, (.fields #[.none, (.int 2 0)]), #[]⟩), (94, ⟨(.type "list"), none, (.seq #[] 2), #[]⟩), (95, ⟨(.type "tuple"), none, (.seq #[] 0), #[]⟩), (96, ⟨(.type "StopIteration"), none, (.fields #[(.ref 95), .none, .none, .none, (.bool false), .none]), #[]⟩), (97, ⟨(.type "range"), none, (.fields #[(.int 0 307), (.int 2 319), (.int 1 320)]), #[]⟩), (98, ⟨(.type "range_iterator"), none, (.fields #[(.int 2 0), (.int 0 0), (.int 1 0)]), #[]⟩), (99, ⟨(.type "tuple"), none, (.seq #[] 0), #[]⟩), (100, ⟨(.type "StopIteration"), none, (.fields #[(.ref 99), .none, .none, .none, (.bool false), .none]), #[]⟩), (101, ⟨(.type "tuple"), none, (.seq #[(.int 0 334), (.int (-5) 337)] 0), #[]⟩), (102, ⟨(.type "tuple_iterator"), none, (.fields #[.none, (.int 2 0)]), #[]⟩), (103, ⟨(.type "list"), none, (.seq #[] 2), #[]⟩), (104, ⟨(.type "tuple"), none, (.seq #[] 0), #[]⟩), (105, ⟨(.type "StopIteration"), none, (.fields #[(.ref 104), .none, .none, .none, (.bool false), .none]), #[]⟩), (106, ⟨(.type "tuple"), none, (.seq #[(.int 2 332), (.int 7 340)] 0), #[]⟩), (107, ⟨(.type "tuple_iterator"), none, (.fields #[.none, (.int 2 0)]), #[]⟩), (108, ⟨(.type "list"), none, (.seq #[] 2), #[]⟩), (109, ⟨(.type "tuple"), none, (.seq #[] 0), #[]⟩), (110, ⟨(.type "StopIteration"), none, (.fields #[(.ref 109), .none, .none, .none, (.bool false), .none]), #[]⟩), (111, ⟨(.type "range"), none, (.fields #[(.int 2 332), (.int (-1) 346), (.int (-1) 348)]), #[]⟩), (112, ⟨(.type "range_iterator"), none, (.fields #[(.int (-1) 0), (.int 0 0), (.int (-1) 0)]), #[]⟩), (113, ⟨(.type "tuple"), none, (.seq #[] 0), #[]⟩), (114, ⟨(.type "StopIteration"), none, (.fields #[(.ref 113), .none, .none, .none, (.bool false), .none]), #[]⟩), (115, ⟨(.type "tuple"), none, (.seq #[(.int 0 367), (.int (-4) 370)] 0), #[]⟩), (116, ⟨(.type "tuple_iterator"), none, (.fields #[.none, (.int 2 0)]), #[]⟩), (117, ⟨(.type "list"), none, (.seq #[] 2), #[]⟩), (118, ⟨(.type "tuple"), none, (.seq #[] 0), #[]⟩), (119, ⟨(.type "StopIteration"), none, (.fields #[(.ref 118), .none, .none, .none, (.bool false), .none]), #[]⟩), (120, ⟨(.type "tuple"), none, (.seq #[(.int 3 365), (.int 7 373)] 0), #[]⟩), (121, ⟨(.type "tuple_iterator"), none, (.fields #[.none, (.int 2 0)]), #[]⟩), (122, ⟨(.type "list"), none, (.seq #[] 2), #[]⟩), (123, ⟨(.type "tuple"), none, (.seq #[] 0), #[]⟩), (124, ⟨(.type "StopIteration"), none, (.fields #[(.ref 123), .none, .none, .none, (.bool false), .none]), #[]⟩), (125, ⟨(.type "range"), none, (.fields #[(.int 0 367), (.int 4 379), (.int 1 380)]), #[]⟩), (126, ⟨(.type "range_iterator"), none, (.fields #[(.int 4 0), (.int 0 0), (.int 1 0)]), #[]⟩), (127, ⟨(.type "tuple"), none, (.seq #[] 0), #[]⟩), (128, ⟨(.type "StopIteration"), none, (.fields #[(.ref 127), .none, .none, .none, (.bool false), .none]), #[]⟩)]
noncomputable abbrev C0 (w : World) (os : OsState) : SharedT := ⟨upd (T5 w os) (U0 w.params), 129, {}, #[], {}, 402, os⟩
noncomputable def U1 (P : Params) : List (Nat × Obj) := U0 P ++ [(69, ⟨(.type "frame"), none, (.dict #[⟨(PySem.PyData.keyHash P "n"), (.str "n" 274), (.int 8 273)⟩, ⟨(PySem.PyData.keyHash P "found"), (.str "found" 275), (.ref 70)⟩, ⟨(PySem.PyData.keyHash P "total"), (.str "total" 283), (.int 5 445)⟩, ⟨(PySem.PyData.keyHash P "low"), (.str "low" 288), (.int 0 447)⟩, ⟨(PySem.PyData.keyHash P "high"), (.str "high" 291), (.int 5 445)⟩, ⟨(PySem.PyData.keyHash P "rows"), (.str "rows" 299), (.ref 153)⟩, ⟨(PySem.PyData.keyHash P "y"), (.str "y" 301), (.int 5 487)⟩] 7), #[]⟩), (70, ⟨(.type "list"), none, (.seq #[(.int 0 304), (.int 1 326), (.int 8 331), (.int 16 354), (.int 9 359), (.int 2 364), (.int 3 386), (.int 10 391), (.int 17 396), (.int 24 401), (.int 32 424), (.int 25 429), (.int 18 434), (.int 11 439), (.int 4 444), (.int 5 466), (.int 12 471), (.int 19 476), (.int 26 481), (.int 33 486), (.int 40 491)] 21), #[]⟩), (72, ⟨(.type "range_iterator"), none, (.fields #[(.int 6 0), (.int 9 0), (.int 1 0)]), #[]⟩), (129, ⟨(.type "tuple"), none, (.seq #[(.int 0 404), (.int (-3) 407)] 0), #[]⟩), (130, ⟨(.type "tuple_iterator"), none, (.fields #[.none, (.int 2 0)]), #[]⟩), (131, ⟨(.type "list"), none, (.seq #[] 2), #[]⟩), (132, ⟨(.type "tuple"), none, (.seq #[] 0), #[]⟩), (133, ⟨(.type "StopIteration"), none, (.fields #[(.ref 132), .none, .none, .none, (.bool false), .none]), #[]⟩), (134, ⟨(.type "tuple"), none, (.seq #[(.int 4 402), (.int 7 410)] 0), #[]⟩), (135, ⟨(.type "tuple_iterator"), none, (.fields #[.none, (.int 2 0)]), #[]⟩), (136, ⟨(.type "list"), none, (.seq #[] 2), #[]⟩), (137, ⟨(.type "tuple"), none, (.seq #[] 0), #[]⟩), (138, ⟨(.type "StopIteration"), none, (.fields #[(.ref 137), .none, .none, .none, (.bool false), .none]), #[]⟩), (139, ⟨(.type "range"), none, (.fields #[(.int 4 402), (.int (-1) 416), (.int (-1) 418)]), #[]⟩), (140, ⟨(.type "range_iterator"), none, (.fields #[(.int (-1) 0), (.int 0 0), (.int (-1) 0)]), #[]⟩), (141, ⟨(.type "tuple"), none, (.seq #[] 0), #[]⟩), (142, ⟨(.type "StopIteration"), none, (.fields #[(.ref 141), .none, .none, .none, (.bool false), .none]), #[]⟩), (143, ⟨(.type "tuple"), none, (.seq #[(.int 0 447), (.int (-2) 450)] 0), #[]⟩), (144, ⟨(.type "tuple_iterator"), none, (.fields #[.none, (.int 2 0)]), #[]⟩), (145, ⟨(.type "list"), none, (.seq #[] 2), #[]⟩), (146, ⟨(.type "tuple"), none, (.seq #[] 0), #[]⟩), (147, ⟨(.type "StopIteration"), none, (.fields #[(.ref 146), .none, .none, .none, (.bool false), .none]), #[]⟩), (148, ⟨(.type "tuple"), none, (.seq #[(.int 5 445), (.int 7 453)] 0), #[]⟩), (149, ⟨(.type "tuple_iterator"), none, (.fields #[.none, (.int 2 0)]), #[]⟩), (150, ⟨(.type "list"), none, (.seq #[] 2), #[]⟩), (151, ⟨(.type "tuple"), none, (.seq #[] 0), #[]⟩), (152, ⟨(.type "StopIteration"), none, (.fields #[(.ref 151), .none, .none, .none, (.bool false), .none]), #[]⟩), (153, ⟨(.type "range"), none, (.fields #[(.int 0 447), (.int 6 459), (.int 1 460)]), #[]⟩), (154, ⟨(.type "range_iterator"), none, (.fields #[(.int 6 0), (.int 0 0), (.int 1 0)]), #[]⟩), (155, ⟨(.type "tuple"), none, (.seq #[] 0), #[]⟩), (156, ⟨(.type "StopIteration"), none, (.fields #[(.ref 155), .none, .none, .none, (.bool false), .none]), #[]⟩)]
noncomputable abbrev C1 (w : World) (os : OsState) : SharedT := ⟨upd (T5 w os) (U1 w.params), 157, {}, #[], {}, 492, os⟩
noncomputable def U2 (P : Params) : List (Nat × Obj) := U1 P ++ [(69, ⟨(.type "frame"), none, (.dict #[⟨(PySem.PyData.keyHash P "n"), (.str "n" 274), (.int 8 273)⟩, ⟨(PySem.PyData.keyHash P "found"), (.str "found" 275), (.ref 70)⟩, ⟨(PySem.PyData.keyHash P "total"), (.str "total" 283), (.int 7 545)⟩, ⟨(PySem.PyData.keyHash P "low"), (.str "low" 288), (.int 0 547)⟩, ⟨(PySem.PyData.keyHash P "high"), (.str "high" 291), (.int 7 545)⟩, ⟨(PySem.PyData.keyHash P "rows"), (.str "rows" 299), (.ref 181)⟩, ⟨(PySem.PyData.keyHash P "y"), (.str "y" 301), (.int 7 597)⟩] 7), #[]⟩), (70, ⟨(.type "list"), none, (.seq #[(.int 0 304), (.int 1 326), (.int 8 331), (.int 16 354), (.int 9 359), (.int 2 364), (.int 3 386), (.int 10 391), (.int 17 396), (.int 24 401), (.int 32 424), (.int 25 429), (.int 18 434), (.int 11 439), (.int 4 444), (.int 5 466), (.int 12 471), (.int 19 476), (.int 26 481), (.int 33 486), (.int 40 491), (.int 48 514), (.int 41 519), (.int 34 524), (.int 27 529), (.int 20 534), (.int 13 539), (.int 6 544), (.int 7 566), (.int 14 571), (.int 21 576), (.int 28 581), (.int 35 586), (.int 42 591), (.int 49 596), (.int 56 601)] 36), #[]⟩), (72, ⟨(.type "range_iterator"), none, (.fields #[(.int 8 0), (.int 7 0), (.int 1 0)]), #[]⟩), (157, ⟨(.type "tuple"), none, (.seq #[(.int 0 494), (.int (-1) 497)] 0), #[]⟩), (158, ⟨(.type "tuple_iterator"), none, (.fields #[.none, (.int 2 0)]), #[]⟩), (159, ⟨(.type "list"), none, (.seq #[] 2), #[]⟩), (160, ⟨(.type "tuple"), none, (.seq #[] 0), #[]⟩), (161, ⟨(.type "StopIteration"), none, (.fields #[(.ref 160), .none, .none, .none, (.bool false), .none]), #[]⟩), (162, ⟨(.type "tuple"), none, (.seq #[(.int 6 492), (.int 7 500)] 0), #[]⟩), (163, ⟨(.type "tuple_iterator"), none, (.fields #[.none, (.int 2 0)]), #[]⟩), (164, ⟨(.type "list"), none, (.seq #[] 2), #[]⟩), (165, ⟨(.type "tuple"), none, (.seq #[] 0), #[]⟩), (166, ⟨(.type "StopIteration"), none, (.fields #[(.ref 165), .none, .none, .none, (.bool false), .none]), #[]⟩), (167, ⟨(.type "range"), none, (.fields #[(.int 6 492), (.int (-1) 506), (.int (-1) 508)]), #[]⟩), (168, ⟨(.type "range_iterator"), none, (.fields #[(.int (-1) 0), (.int 0 0), (.int (-1) 0)]), #[]⟩), (169, ⟨(.type "tuple"), none, (.seq #[] 0), #[]⟩), (170, ⟨(.type "StopIteration"), none, (.fields #[(.ref 169), .none, .none, .none, (.bool false), .none]), #[]⟩), (171, ⟨(.type "tuple"), none, (.seq #[(.int 0 547), (.int 0 550)] 0), #[]⟩), (172, ⟨(.type "tuple_iterator"), none, (.fields #[.none, (.int 2 0)]), #[]⟩), (173, ⟨(.type "list"), none, (.seq #[] 2), #[]⟩), (174, ⟨(.type "tuple"), none, (.seq #[] 0), #[]⟩), (175, ⟨(.type "StopIteration"), none, (.fields #[(.ref 174), .none, .none, .none, (.bool false), .none]), #[]⟩), (176, ⟨(.type "tuple"), none, (.seq #[(.int 7 545), (.int 7 553)] 0), #[]⟩), (177, ⟨(.type "tuple_iterator"), none, (.fields #[.none, (.int 2 0)]), #[]⟩), (178, ⟨(.type "list"), none, (.seq #[] 2), #[]⟩), (179, ⟨(.type "tuple"), none, (.seq #[] 0), #[]⟩), (180, ⟨(.type "StopIteration"), none, (.fields #[(.ref 179), .none, .none, .none, (.bool false), .none]), #[]⟩), (181, ⟨(.type "range"), none, (.fields #[(.int 0 547), (.int 8 559), (.int 1 560)]), #[]⟩), (182, ⟨(.type "range_iterator"), none, (.fields #[(.int 8 0), (.int 0 0), (.int 1 0)]), #[]⟩), (183, ⟨(.type "tuple"), none, (.seq #[] 0), #[]⟩), (184, ⟨(.type "StopIteration"), none, (.fields #[(.ref 183), .none, .none, .none, (.bool false), .none]), #[]⟩)]
noncomputable abbrev C2 (w : World) (os : OsState) : SharedT := ⟨upd (T5 w os) (U2 w.params), 185, {}, #[], {}, 602, os⟩
noncomputable def U3 (P : Params) : List (Nat × Obj) := U2 P ++ [(69, ⟨(.type "frame"), none, (.dict #[⟨(PySem.PyData.keyHash P "n"), (.str "n" 274), (.int 8 273)⟩, ⟨(PySem.PyData.keyHash P "found"), (.str "found" 275), (.ref 70)⟩, ⟨(PySem.PyData.keyHash P "total"), (.str "total" 283), (.int 9 655)⟩, ⟨(PySem.PyData.keyHash P "low"), (.str "low" 288), (.int 2 660)⟩, ⟨(PySem.PyData.keyHash P "high"), (.str "high" 291), (.int 7 663)⟩, ⟨(PySem.PyData.keyHash P "rows"), (.str "rows" 299), (.ref 209)⟩, ⟨(PySem.PyData.keyHash P "y"), (.str "y" 301), (.int 7 697)⟩] 7), #[]⟩), (70, ⟨(.type "list"), none, (.seq #[(.int 0 304), (.int 1 326), (.int 8 331), (.int 16 354), (.int 9 359), (.int 2 364), (.int 3 386), (.int 10 391), (.int 17 396), (.int 24 401), (.int 32 424), (.int 25 429), (.int 18 434), (.int 11 439), (.int 4 444), (.int 5 466), (.int 12 471), (.int 19 476), (.int 26 481), (.int 33 486), (.int 40 491), (.int 48 514), (.int 41 519), (.int 34 524), (.int 27 529), (.int 20 534), (.int 13 539), (.int 6 544), (.int 7 566), (.int 14 571), (.int 21 576), (.int 28 581), (.int 35 586), (.int 42 591), (.int 49 596), (.int 56 601), (.int 57 624), (.int 50 629), (.int 43 634), (.int 36 639), (.int 29 644), (.int 22 649), (.int 15 654), (.int 23 676), (.int 30 681), (.int 37 686), (.int 44 691), (.int 51 696), (.int 58 701)] 49), #[]⟩), (72, ⟨(.type "range_iterator"), none, (.fields #[(.int 10 0), (.int 5 0), (.int 1 0)]), #[]⟩), (185, ⟨(.type "tuple"), none, (.seq #[(.int 0 604), (.int 1 607)] 0), #[]⟩), (186, ⟨(.type "tuple_iterator"), none, (.fields #[.none, (.int 2 0)]), #[]⟩), (187, ⟨(.type "list"), none, (.seq #[] 2), #[]⟩), (188, ⟨(.type "tuple"), none, (.seq #[] 0), #[]⟩), (189, ⟨(.type "StopIteration"), none, (.fields #[(.ref 188), .none, .none, .none, (.bool false), .none]), #[]⟩), (190, ⟨(.type "tuple"), none, (.seq #[(.int 8 602), (.int 7 610)] 0), #[]⟩), (191, ⟨(.type "tuple_iterator"), none, (.fields #[.none, (.int 2 0)]), #[]⟩), (192, ⟨(.type "list"), none, (.seq #[] 2), #[]⟩), (193, ⟨(.type "tuple"), none, (.seq #[] 0), #[]⟩), (194, ⟨(.type "StopIteration"), none, (.fields #[(.ref 193), .none, .none, .none, (.bool false), .none]), #[]⟩), (195, ⟨(.type "range"), none, (.fields #[(.int 7 610), (.int 0 616), (.int (-1) 618)]), #[]⟩), (196, ⟨(.type "range_iterator"), none, (.fields #[(.int 0 0), (.int 0 0), (.int (-1) 0)]), #[]⟩), (197, ⟨(.type "tuple"), none, (.seq #[] 0), #[]⟩), (198, ⟨(.type "StopIteration"), none, (.fields #[(.ref 197), .none, .none, .none, (.bool false), .none]), #[]⟩), (199, ⟨(.type "tuple"), none, (.seq #[(.int 0 657), (.int 2 660)] 0), #[]⟩), (200, ⟨(.type "tuple_iterator"), none, (.fields #[.none, (.int 2 0)]), #[]⟩), (201, ⟨(.type "list"), none, (.seq #[] 2), #[]⟩), (202, ⟨(.type "tuple"), none, (.seq #[] 0), #[]⟩), (203, ⟨(.type "StopIteration"), none, (.fields #[(.ref 202), .none, .none, .none, (.bool false), .none]), #[]⟩), (204, ⟨(.type "tuple"), none, (.seq #[(.int 9 655), (.int 7 663)] 0), #[]⟩), (205, ⟨(.type "tuple_iterator"), none, (.fields #[.none, (.int 2 0)]), #[]⟩), (206, ⟨(.type "list"), none, (.seq #[] 2), #[]⟩), (207, ⟨(.type "tuple"), none, (.seq #[] 0), #[]⟩), (208, ⟨(.type "StopIteration"), none, (.fields #[(.ref 207), .none, .none, .none, (.bool false), .none]), #[]⟩), (209, ⟨(.type "range"), none, (.fields #[(.int 2 660), (.int 8 669), (.int 1 670)]), #[]⟩), (210, ⟨(.type "range_iterator"), none, (.fields #[(.int 8 0), (.int 0 0), (.int 1 0)]), #[]⟩), (211, ⟨(.type "tuple"), none, (.seq #[] 0), #[]⟩), (212, ⟨(.type "StopIteration"), none, (.fields #[(.ref 211), .none, .none, .none, (.bool false), .none]), #[]⟩)]
noncomputable abbrev C3 (w : World) (os : OsState) : SharedT := ⟨upd (T5 w os) (U3 w.params), 213, {}, #[], {}, 702, os⟩
noncomputable def U4 (P : Params) : List (Nat × Obj) := U3 P ++ [(69, ⟨(.type "frame"), none, (.dict #[⟨(PySem.PyData.keyHash P "n"), (.str "n" 274), (.int 8 273)⟩, ⟨(PySem.PyData.keyHash P "found"), (.str "found" 275), (.ref 70)⟩, ⟨(PySem.PyData.keyHash P "total"), (.str "total" 283), (.int 11 745)⟩, ⟨(PySem.PyData.keyHash P "low"), (.str "low" 288), (.int 4 750)⟩, ⟨(PySem.PyData.keyHash P "high"), (.str "high" 291), (.int 7 753)⟩, ⟨(PySem.PyData.keyHash P "rows"), (.str "rows" 299), (.ref 237)⟩, ⟨(PySem.PyData.keyHash P "y"), (.str "y" 301), (.int 7 777)⟩] 7), #[]⟩), (70, ⟨(.type "list"), none, (.seq #[(.int 0 304), (.int 1 326), (.int 8 331), (.int 16 354), (.int 9 359), (.int 2 364), (.int 3 386), (.int 10 391), (.int 17 396), (.int 24 401), (.int 32 424), (.int 25 429), (.int 18 434), (.int 11 439), (.int 4 444), (.int 5 466), (.int 12 471), (.int 19 476), (.int 26 481), (.int 33 486), (.int 40 491), (.int 48 514), (.int 41 519), (.int 34 524), (.int 27 529), (.int 20 534), (.int 13 539), (.int 6 544), (.int 7 566), (.int 14 571), (.int 21 576), (.int 28 581), (.int 35 586), (.int 42 591), (.int 49 596), (.int 56 601), (.int 57 624), (.int 50 629), (.int 43 634), (.int 36 639), (.int 29 644), (.int 22 649), (.int 15 654), (.int 23 676), (.int 30 681), (.int 37 686), (.int 44 691), (.int 51 696), (.int 58 701), (.int 59 724), (.int 52 729), (.int 45 734), (.int 38 739), (.int 31 744), (.int 39 766), (.int 46 771), (.int 53 776), (.int 60 781)] 58), #[]⟩), (72, ⟨(.type "range_iterator"), none, (.fields #[(.int 12 0), (.int 3 0), (.int 1 0)]), #[]⟩), (213, ⟨(.type "tuple"), none, (.seq #[(.int 0 704), (.int 3 707)] 0), #[]⟩), (214, ⟨(.type "tuple_iterator"), none, (.fields #[.none, (.int 2 0)]), #[]⟩), (215, ⟨(.type "list"), none, (.seq #[] 2), #[]⟩), (216, ⟨(.type "tuple"), none, (.seq #[] 0), #[]⟩), (217, ⟨(.type "StopIteration"), none, (.fields #[(.ref 216), .none, .none, .none, (.bool false), .none]), #[]⟩), (218, ⟨(.type "tuple"), none, (.seq #[(.int 10 702), (.int 7 710)] 0), #[]⟩), (219, ⟨(.type "tuple_iterator"), none, (.fields #[.none, (.int 2 0)]), #[]⟩), (220, ⟨(.type "list"), none, (.seq #[] 2), #[]⟩), (221, ⟨(.type "tuple"), none, (.seq #[] 0), #[]⟩), (222, ⟨(.type "StopIteration"), none, (.fields #[(.ref 221), .none, .none, .none, (.bool false), .none]), #[]⟩), (223, ⟨(.type "range"), none, (.fields #[(.int 7 710), (.int 2 716), (.int (-1) 718)]), #[]⟩), (224, ⟨(.type "range_iterator"), none, (.fields #[(.int 2 0), (.int 0 0), (.int (-1) 0)]), #[]⟩), (225, ⟨(.type "tuple"), none, (.seq #[] 0), #[]⟩), (226, ⟨(.type "StopIteration"), none, (.fields #[(.ref 225), .none, .none, .none, (.bool false), .none]), #[]⟩), (227, ⟨(.type "tuple"), none, (.seq #[(.int 0 747), (.int 4 750)] 0), #[]⟩), (228, ⟨(.type "tuple_iterator"), none, (.fields #[.none, (.int 2 0)]), #[]⟩), (229, ⟨(.type "list"), none, (.seq #[] 2), #[]⟩), (230, ⟨(.type "tuple"), none, (.seq #[] 0), #[]⟩), (231, ⟨(.type "StopIteration"), none, (.fields #[(.ref 230), .none, .none, .none, (.bool false), .none]), #[]⟩), (232, ⟨(.type "tuple"), none, (.seq #[(.int 11 745), (.int 7 753)] 0), #[]⟩), (233, ⟨(.type "tuple_iterator"), none, (.fields #[.none, (.int 2 0)]), #[]⟩), (234, ⟨(.type "list"), none, (.seq #[] 2), #[]⟩), (235, ⟨(.type "tuple"), none, (.seq #[] 0), #[]⟩), (236, ⟨(.type "StopIteration"), none, (.fields #[(.ref 235), .none, .none, .none, (.bool false), .none]), #[]⟩), (237, ⟨(.type "range"), none, (.fields #[(.int 4 750), (.int 8 759), (.int 1 760)]), #[]⟩), (238, ⟨(.type "range_iterator"), none, (.fields #[(.int 8 0), (.int 0 0), (.int 1 0)]), #[]⟩), (239, ⟨(.type "tuple"), none, (.seq #[] 0), #[]⟩), (240, ⟨(.type "StopIteration"), none, (.fields #[(.ref 239), .none, .none, .none, (.bool false), .none]), #[]⟩)]
noncomputable abbrev C4 (w : World) (os : OsState) : SharedT := ⟨upd (T5 w os) (U4 w.params), 241, {}, #[], {}, 782, os⟩
noncomputable def U5 (P : Params) : List (Nat × Obj) := U4 P ++ [(3, ⟨(.type "dict"), none, (.dict #[⟨(PySem.PyData.keyHash P "__name__"), (.str "__name__" 165), (.str "pixelpress.zigzag" 258)⟩, ⟨(PySem.PyData.keyHash P "__doc__"), (.str "__doc__" 166), .none⟩, ⟨(PySem.PyData.keyHash P "__package__"), (.str "__package__" 167), .none⟩, ⟨(PySem.PyData.keyHash P "__loader__"), (.str "__loader__" 168), (.builtin "__main__.__loader__#opaque")⟩, ⟨(PySem.PyData.keyHash P "__spec__"), (.str "__spec__" 169), .none⟩, ⟨(PySem.PyData.keyHash P "__annotations__"), (.str "__annotations__" 170), (.ref 6)⟩, ⟨(PySem.PyData.keyHash P "__builtins__"), (.str "__builtins__" 171), (.ref 4)⟩, ⟨(PySem.PyData.keyHash P "__file__"), (.str "__file__" 173), (.str "/claim/cut.py" 172)⟩, ⟨(PySem.PyData.keyHash P "__cached__"), (.str "__cached__" 174), .none⟩, ⟨(PySem.PyData.keyHash P "_wall"), (.str "_wall" 193), (.ref 21)⟩, ⟨(PySem.PyData.keyHash P "Grid"), (.str "Grid" 245), (.ref 50)⟩, ⟨(PySem.PyData.keyHash P "copied"), (.str "copied" 257), (.ref 61)⟩, ⟨(PySem.PyData.keyHash P "zigzag_places"), (.str "zigzag_places" 272), (.ref 68)⟩, ⟨(PySem.PyData.keyHash P "ORDER_8"), (.str "ORDER_8" 865), (.ref 286)⟩] 14), #[]⟩), (69, ⟨(.type "frame"), none, (.dict #[⟨(PySem.PyData.keyHash P "n"), (.str "n" 274), (.int 8 273)⟩, ⟨(PySem.PyData.keyHash P "found"), (.str "found" 275), (.ref 70)⟩, ⟨(PySem.PyData.keyHash P "total"), (.str "total" 283), (.int 14 842)⟩, ⟨(PySem.PyData.keyHash P "low"), (.str "low" 288), (.int 7 847)⟩, ⟨(PySem.PyData.keyHash P "high"), (.str "high" 291), (.int 7 850)⟩, ⟨(PySem.PyData.keyHash P "rows"), (.str "rows" 299), (.ref 279)⟩, ⟨(PySem.PyData.keyHash P "y"), (.str "y" 301), (.int 7 860)⟩] 7), #[]⟩), (70, ⟨(.type "list"), none, (.seq #[(.int 0 304), (.int 1 326), (.int 8 331), (.int 16 354), (.int 9 359), (.int 2 364), (.int 3 386), (.int 10 391), (.int 17 396), (.int 24 401), (.int 32 424), (.int 25 429), (.int 18 434), (.int 11 439), (.int 4 444), (.int 5 466), (.int 12 471), (.int 19 476), (.int 26 481), (.int 33 486), (.int 40 491), (.int 48 514), (.int 41 519), (.int 34 524), (.int 27 529), (.int 20 534), (.int 13 539), (.int 6 544), (.int 7 566), (.int 14 571), (.int 21 576), (.int 28 581), (.int 35 586), (.int 42 591), (.int 49 596), (.int 56 601), (.int 57 624), (.int 50 629), (.int 43 634), (.int 36 639), (.int 29 644), (.int 22 649), (.int 15 654), (.int 23 676), (.int 30 681), (.int 37 686), (.int 44 691), (.int 51 696), (.int 58 701), (.int 59 724), (.int 52 729), (.int 45 734), (.int 38 739), (.int 31 744), (.int 39 766), (.int 46 771), (.int 53 776), (.int 60 781), (.int 61 804), (.int 54 809), (.int 47 814), (.int 55 836), (.int 62 841), (.int 63 864)] 64), #[]⟩), (72, ⟨(.type "range_iterator"), none, (.fields #[(.int 15 0), (.int 0 0), (.int 1 0)]), #[]⟩), (241, ⟨(.type "tuple"), none, (.seq #[(.int 0 784), (.int 5 787)] 0), #[]⟩), (242, ⟨(.type "tuple_iterator"), none, (.fields #[.none, (.int 2 0)]), #[]⟩), (243, ⟨(.type "list"), none, (.seq #[] 2), #[]⟩), (244, ⟨(.type "tuple"), none, (.seq #[] 0), #[]⟩), (245, ⟨(.type "StopIteration"), none, (.fields #[(.ref 244), .none, .none, .none, (.bool false), .none]), #[]⟩), (246, ⟨(.type "tuple"), none, (.seq #[(.int 12 782), (.int 7 790)] 0), #[]⟩), (247, ⟨(.type "tuple_iterator"), none, (.fields #[.none, (.int 2 0)]), #[]⟩), (248, ⟨(.type "list"), none, (.seq #[] 2), #[]⟩), (249, ⟨(.type "tuple"), none, (.seq #[] 0), #[]⟩), (250, ⟨(.type "StopIteration"), none, (.fields #[(.ref 249), .none, .none, .none, (.bool false), .none]), #[]⟩), (251, ⟨(.type "range"), none, (.fields #[(.int 7 790), (.int 4 796), (.int (-1) 798)]), #[]⟩), (252, ⟨(.type "range_iterator"), none, (.fields #[(.int 4 0), (.int 0 0), (.int (-1) 0)]), #[]⟩), (253, ⟨(.type "tuple"), none, (.seq #[] 0), #[]⟩), (254, ⟨(.type "StopIteration"), none, (.fields #[(.ref 253), .none, .none, .none, (.bool false), .none]), #[]⟩), (255, ⟨(.type "tuple"), none, (.seq #[(.int 0 817), (.int 6 820)] 0), #[]⟩), (256, ⟨(.type "tuple_iterator"), none, (.fields #[.none, (.int 2 0)]), #[]⟩), (257, ⟨(.type "list"), none, (.seq #[] 2), #[]⟩), (258, ⟨(.type "tuple"), none, (.seq #[] 0), #[]⟩), (259, ⟨(.type "StopIteration"), none, (.fields #[(.ref 258), .none, .none, .none, (.bool false), .none]), #[]⟩), (260, ⟨(.type "tuple"), none, (.seq #[(.int 13 815), (.int 7 823)] 0), #[]⟩), (261, ⟨(.type "tuple_iterator"), none, (.fields #[.none, (.int 2 0)]), #[]⟩), (262, ⟨(.type "list"), none, (.seq #[] 2), #[]⟩), (263, ⟨(.type "tuple"), none, (.seq #[] 0), #[]⟩), (264, ⟨(.type "StopIteration"), none, (.fields #[(.ref 263), .none, .none, .none, (.bool false), .none]), #[]⟩), (265, ⟨(.type "range"), none, (.fields #[(.int 6 820), (.int 8 829), (.int 1 830)]), #[]⟩), (266, ⟨(.type "range_iterator"), none, (.fields #[(.int 8 0), (.int 0 0), (.int 1 0)]), #[]⟩), (267, ⟨(.type "tuple"), none, (.seq #[] 0), #[]⟩), (268, ⟨(.type "StopIteration"), none, (.fields #[(.ref 267), .none, .none, .none, (.bool false), .none]), #[]⟩), (269, ⟨(.type "tuple"), none, (.seq #[(.int 0 844), (.int 7 847)] 0), #[]⟩), (270, ⟨(.type "tuple_iterator"), none, (.fields #[.none, (.int 2 0)]), #[]⟩), (271, ⟨(.type "list"), none, (.seq #[] 2), #[]⟩), (272, ⟨(.type "tuple"), none, (.seq #[] 0), #[]⟩), (273, ⟨(.type "StopIteration"), none, (.fields #[(.ref 272), .none, .none, .none, (.bool false), .none]), #[]⟩), (274, ⟨(.type "tuple"), none, (.seq #[(.int 14 842), (.int 7 850)] 0), #[]⟩), (275, ⟨(.type "tuple_iterator"), none, (.fields #[.none, (.int 2 0)]), #[]⟩), (276, ⟨(.type "list"), none, (.seq #[] 2), #[]⟩), (277, ⟨(.type "tuple"), none, (.seq #[] 0), #[]⟩), (278, ⟨(.type "StopIteration"), none, (.fields #[(.ref 277), .none, .none, .none, (.bool false), .none]), #[]⟩), (279, ⟨(.type "range"), none, (.fields #[(.int 7 850), (.int 6 856), (.int (-1) 858)]), #[]⟩), (280, ⟨(.type "range_iterator"), none, (.fields #[(.int 6 0), (.int 0 0), (.int (-1) 0)]), #[]⟩), (281, ⟨(.type "tuple"), none, (.seq #[] 0), #[]⟩), (282, ⟨(.type "StopIteration"), none, (.fields #[(.ref 281), .none, .none, .none, (.bool false), .none]), #[]⟩), (283, ⟨(.type "tuple"), none, (.seq #[] 0), #[]⟩), (284, ⟨(.type "StopIteration"), none, (.fields #[(.ref 283), .none, .none, .none, (.bool false), .none]), #[]⟩), (285, ⟨(.type "list"), none, (.seq #[(.int 0 304), (.int 1 326), (.int 8 331), (.int 16 354), (.int 9 359), (.int 2 364), (.int 3 386), (.int 10 391), (.int 17 396), (.int 24 401), (.int 32 424), (.int 25 429), (.int 18 434), (.int 11 439), (.int 4 444), (.int 5 466), (.int 12 471), (.int 19 476), (.int 26 481), (.int 33 486), (.int 40 491), (.int 48 514), (.int 41 519), (.int 34 524), (.int 27 529), (.int 20 534), (.int 13 539), (.int 6 544), (.int 7 566), (.int 14 571), (.int 21 576), (.int 28 581), (.int 35 586), (.int 42 591), (.int 49 596), (.int 56 601), (.int 57 624), (.int 50 629), (.int 43 634), (.int 36 639), (.int 29 644), (.int 22 649), (.int 15 654), (.int 23 676), (.int 30 681), (.int 37 686), (.int 44 691), (.int 51 696), (.int 58 701), (.int 59 724), (.int 52 729), (.int 45 734), (.int 38 739), (.int 31 744), (.int 39 766), (.int 46 771), (.int 53 776), (.int 60 781), (.int 61 804), (.int 54 809), (.int 47 814), (.int 55 836), (.int 62 841), (.int 63 864)] 1), #[]⟩), (286, ⟨(.type "tuple"), none, (.seq #[(.int 0 304), (.int 1 326), (.int 8 331), (.int 16 354), (.int 9 359), (.int 2 364), (.int 3 386), (.int 10 391), (.int 17 396), (.int 24 401), (.int 32 424), (.int 25 429), (.int 18 434), (.int 11 439), (.int 4 444), (.int 5 466), (.int 12 471), (.int 19 476), (.int 26 481), (.int 33 486), (.int 40 491), (.int 48 514), (.int 41 519), (.int 34 524), (.int 27 529), (.int 20 534), (.int 13 539), (.int 6 544), (.int 7 566), (.int 14 571), (.int 21 576), (.int 28 581), (.int 35 586), (.int 42 591), (.int 49 596), (.int 56 601), (.int 57 624), (.int 50 629), (.int 43 634), (.int 36 639), (.int 29 644), (.int 22 649), (.int 15 654), (.int 23 676), (.int 30 681), (.int 37 686), (.int 44 691), (.int 51 696), (.int 58 701), (.int 59 724), (.int 52 729), (.int 45 734), (.int 38 739), (.int 31 744), (.int 39 766), (.int 46 771), (.int 53 776), (.int 60 781), (.int 61 804), (.int 54 809), (.int 47 814), (.int 55 836), (.int 62 841), (.int 63 864)] 0), #[]⟩)]
noncomputable abbrev C5 (w : World) (os : OsState) : SharedT := ⟨upd (T5 w os) (U5 w.params), 287, {}, #[], {}, 866, os⟩
noncomputable abbrev step0 (w : World) : Prop := (fun os => segGoT treeTable pw w 11 annB 1 1907 (S5 w os) whole6) = fun os => some (C0 w os, thr w os)
noncomputable abbrev step1 (w : World) : Prop := (fun os => segGoT treeTable pw w 11 annB 1 1292 (C0 w os) (thr w os)) = fun os => some (C1 w os, thr w os)
noncomputable abbrev step2 (w : World) : Prop := (fun os => segGoT treeTable pw w 11 annB 1 1544 (C1 w os) (thr w os)) = fun os => some (C2 w os, thr w os)
noncomputable abbrev step3 (w : World) : Prop := (fun os => segGoT treeTable pw w 11 annB 1 1430 (C2 w os) (thr w os)) = fun os => some (C3 w os, thr w os)
noncomputable abbrev step4 (w : World) : Prop := (fun os => segGoT treeTable pw w 11 annB 1 1178 (C3 w os) (thr w os)) = fun os => some (C4 w os, thr w os)
noncomputable abbrev step5 (w : World) : Prop := (fun os => segRunT treeTable pw w 11 annB 1 1357 (C4 w os) (thr w os)) = fun os => some (.next, C5 w os, codeB, pos6)
theorem step0_f (w : World) : step0 (w.withFollow "special-get-raises" false) := by
  delta step0 whole6 piecesOf
  rw [PySem.W.Fast.te10295753902157049106, PySem.W.Fast.te14364793385576792824, PySem.W.Fast.te12563942051412417395]
  kernel_rfl
theorem step0_t (w : World) : step0 (w.withFollow "special-get-raises" true) := by
  delta step0 whole6 piecesOf
  rw [PySem.W.Fast.te10295753902157049106, PySem.W.Fast.te14364793385576792824, PySem.W.Fast.te12563942051412417395]
  kernel_rfl
theorem go0 (w : World) : step0 w := byRow2 "special-get-raises" step0_f step0_t w
theorem step1_f (w : World) : step1 (w.withFollow "special-get-raises" false) := by
  delta step1
  rw [PySem.W.Fast.te10295753902157049106, PySem.W.Fast.te14364793385576792824]
  kernel_rfl
theorem step1_t (w : World) : step1 (w.withFollow "special-get-raises" true) := by
  delta step1
  rw [PySem.W.Fast.te10295753902157049106, PySem.W.Fast.te14364793385576792824]
  kernel_rfl
theorem go1 (w : World) : step1 w := byRow2 "special-get-raises" step1_f step1_t w
theorem step2_f (w : World) : step2 (w.withFollow "special-get-raises" false) := by
  delta step2
  rw [PySem.W.Fast.te10295753902157049106, PySem.W.Fast.te14364793385576792824]
  kernel_rfl
theorem step2_t (w : World) : step2 (w.withFollow "special-get-raises" true) := by
  delta step2
  rw [PySem.W.Fast.te10295753902157049106, PySem.W.Fast.te14364793385576792824]
  kernel_rfl
theorem go2 (w : World) : step2 w := byRow2 "special-get-raises" step2_f step2_t w
theorem step3_f (w : World) : step3 (w.withFollow "special-get-raises" false) := by
  delta step3
  rw [PySem.W.Fast.te10295753902157049106, PySem.W.Fast.te14364793385576792824]
  kernel_rfl
theorem step3_t (w : World) : step3 (w.withFollow "special-get-raises" true) := by
  delta step3
  rw [PySem.W.Fast.te10295753902157049106, PySem.W.Fast.te14364793385576792824]
  kernel_rfl
theorem go3 (w : World) : step3 w := byRow2 "special-get-raises" step3_f step3_t w
theorem step4_f (w : World) : step4 (w.withFollow "special-get-raises" false) := by
  delta step4
  rw [PySem.W.Fast.te10295753902157049106, PySem.W.Fast.te14364793385576792824]
  kernel_rfl
theorem step4_t (w : World) : step4 (w.withFollow "special-get-raises" true) := by
  delta step4
  rw [PySem.W.Fast.te10295753902157049106, PySem.W.Fast.te14364793385576792824]
  kernel_rfl
theorem go4 (w : World) : step4 w := byRow2 "special-get-raises" step4_f step4_t w
theorem step5_f (w : World) : step5 (w.withFollow "special-get-raises" false) := by
  delta step5
  rw [PySem.W.Fast.te10110043849684766642, PySem.W.Fast.te14364793385576792824]
  kernel_rfl
theorem step5_t (w : World) : step5 (w.withFollow "special-get-raises" true) := by
  delta step5
  rw [PySem.W.Fast.te10110043849684766642, PySem.W.Fast.te14364793385576792824]
  kernel_rfl
theorem go5 (w : World) : step5 w := byRow2 "special-get-raises" step5_f step5_t w
noncomputable def M7 (P : Params) : List (Nat × Obj) := [
(12, ⟨.none, none, (.fields #[(.int 1 0), (.int 0 0), (.ref 20), (.int 5 0), (.int 0 0), (.ref 27), (.int 20 0), (.int 0 0), (.ref 60), (.int 29 0), (.int 0 0), (.ref 67), (.int 39 0), (.int 0 0), (.ref 292), (.int 41 0), (.int 0 0), (.ref 299), (.int 51 0), (.int 0 0), (.ref 317), (.int 58 0), (.int 0 0), (.ref 324), (.int 64 0), (.int 0 0), (.ref 331), (.int 71 0), (.int 0 0), (.ref 338), (.int 76 0), (.int 0 0), (.ref 343), (.int 78 0), (.int 0 0), (.ref 350), (.int 88 0), (.int 0 0), (.ref 357), (.int 90 0), (.int 0 0), (.ref 364), (.int 96 0), (.int 0 0), (.ref 371), (.int 103 0), (.int 0 0), (.ref 378), (.int 111 0), (.int 0 0), (.ref 385), (.int 113 0), (.int 0 0), (.ref 392), (.int 120 0), (.int 0 0), (.ref 413), (.int 155 0), (.int 0 0), (.ref 479), (.int 172 0), (.int 0 0), (.ref 514), (.int 177 0), (.int 0 0), (.ref 521), (.int 184 0), (.int 0 0), (.ref 526), (.int 194 0), (.int 0 0), (.ref 533), (.int 202 0), (.int 0 0), (.ref 538), (.int 205 0), (.int 0 0), (.ref 543), (.int 222 0), (.int 0 0), (.ref 548), (.int 226 0), (.int 0 0), (.ref 553), (.int 233 0), (.int 0 0), (.ref 558), (.int 252 0), (.int 0 0), (.ref 563)]), #[]⟩),
(291, ⟨.none, none, (.func ⟨"order", "order", (fnOfSt (stOf 7)).1, (.stmts (fnOfSt (stOf 7)).2.1), (fnOfSt (stOf 7)).2.2, 0, [], .none, .none, .none, .none, none, .none, .none, 0⟩), #[]⟩),
(298, ⟨.none, none, (.func ⟨"ranks", "ranks", (fnOfSt (stOf 8)).1, (.stmts (fnOfSt (stOf 8)).2.1), (fnOfSt (stOf 8)).2.2, 0, [], .none, .none, .none, .none, none, .none, .none, 0⟩), #[]⟩),
(316, ⟨.none, none, (.func ⟨"known_bits", "known_bits", (fnOfSt (stOf 12)).1, (.stmts (fnOfSt (stOf 12)).2.1), (fnOfSt (stOf 12)).2.2, 0, [], .none, .none, .none, .none, none, .none, .none, 0⟩), #[]⟩),
(323, ⟨.none, none, (.func ⟨"guessed_ranks", "guessed_ranks", (fnOfSt (stOf 13)).1, (.stmts (fnOfSt (stOf 13)).2.1), (fnOfSt (stOf 13)).2.2, 0, [], .none, .none, .none, .none, none, .none, .none, 0⟩), #[]⟩),
(330, ⟨.none, none, (.func ⟨"is_worth", "is_worth", (fnOfSt (stOf 14)).1, (.stmts (fnOfSt (stOf 14)).2.1), (fnOfSt (stOf 14)).2.2, 0, [], .none, .none, .none, .none, none, .none, .none, 0⟩), #[]⟩),
(337, ⟨.none, none, (.func ⟨"guessed", "guessed", (fnOfSt (stOf 15)).1, (.stmts (fnOfSt (stOf 15)).2.1), (fnOfSt (stOf 15)).2.2, 0, [], .none, .none, .none, .none, none, .none, .none, 0⟩), #[]⟩),
(342, ⟨.none, none, (.func ⟨"weighed", "weighed", (fnOfSt (stOf 16)).1, (.stmts (fnOfSt (stOf 16)).2.1), (fnOfSt (stOf 16)).2.2, 0, [], .none, .none, .none, .none, none, .none, .none, 0⟩), #[]⟩),
(349, ⟨.none, none, (.func ⟨"smoothed_row", "smoothed_row", (fnOfSt (stOf 17)).1, (.stmts (fnOfSt (stOf 17)).2.1), (fnOfSt (stOf 17)).2.2, 0, [], .none, .none, .none, .none, none, .none, .none, 0⟩), #[]⟩),
(356, ⟨.none, none, (.func ⟨"kept_in", "kept_in", (fnOfSt (stOf 18)).1, (.stmts (fnOfSt (stOf 18)).2.1), (fnOfSt (stOf 18)).2.2, 0, [], .none, .none, .none, .none, none, .none, .none, 0⟩), #[]⟩),
(363, ⟨.none, none, (.func ⟨"nine_of", "nine_of", (fnOfSt (stOf 19)).1, (.stmts (fnOfSt (stOf 19)).2.1), (fnOfSt (stOf 19)).2.2, 0, [], .none, .none, .none, .none, none, .none, .none, 0⟩), #[]⟩),
(370, ⟨.none, none, (.func ⟨"smooth_component", "smooth_component", (fnOfSt (stOf 20)).1, (.stmts (fnOfSt (stOf 20)).2.1), (fnOfSt (stOf 20)).2.2, 0, [], .none, .none, .none, .none, none, .none, .none, 0⟩), #[]⟩),
(377, ⟨.none, none, (.func ⟨"smoothed_grid", "smoothed_grid", (fnOfSt (stOf 21)).1, (.stmts (fnOfSt (stOf 21)).2.1), (fnOfSt (stOf 21)).2.2, 0, [], .none, .none, .none, .none, none, .none, .none, 0⟩), #[]⟩),
(384, ⟨.none, none, (.func ⟨"parts", "parts", (fnOfSt (stOf 23)).1, (.stmts (fnOfSt (stOf 23)).2.1), (fnOfSt (stOf 23)).2.2, 0, [], .none, .none, .none, .none, none, .none, .none, 0⟩), #[]⟩),
(387, ⟨(.type "tuple"), none, (.seq #[] 0), #[]⟩),
(388, ⟨(.type "builtin_function_or_method"), none, (.fields #[(.builtin "type.__prepare__"), (.type "type")]), #[]⟩),
(389, ⟨(.type "dict"), none, (.dict #[⟨(PySem.PyData.keyHash P "__module__"), (.str "__module__" 1104), (.str "pixelpress.frames" 1087)⟩, ⟨(PySem.PyData.keyHash P "__qualname__"), (.str "__qualname__" 1106), (.str "Component" 1105)⟩, ⟨(PySem.PyData.keyHash P "__firstlineno__"), (.str "__firstlineno__" 1108), (.int 113 1107)⟩, ⟨(PySem.PyData.keyHash P "__init__"), (.str "__init__" 1119), (.ref 400)⟩, ⟨(PySem.PyData.keyHash P "__static_attributes__"), (.str "__static_attributes__" 1124), (.ref 401)⟩] 5), #[]⟩),
(390, ⟨(.type "tuple"), none, (.seq #[] 0), #[]⟩),
(391, ⟨.none, none, (.fields #[(.int 115 0), (.int 4 0), (.ref 399)]), #[]⟩),
(392, ⟨(.type "code"), none, (.fields #[(.str "Component" 1099), (.str "Component" 1100), (.str "/claim/cut.py" 1101), (.int 113 0), (.int 0 0), (.int 0 0), (.int 0 0), (.int 0 0), (.ref 390), (.bool false), (.int 181 0), (.ref 391), .none, .none, .none, .none, (.int 1102 0), (.int 113 0), (.str "/claim/cut.py" 1103)]), #[]⟩),
(393, ⟨(.type "frame"), none, .plain, #[(some (.ref 392)), (some (.ref 3)), (some (.ref 389)), none, (some (.str "pixelpress.frames" 1087)), none, (some (.ref 0))]⟩),
(398, ⟨.none, none, (.func ⟨"__init__", "Component.__init__", (fnOfSt (memOf 24 0)).1, (.stmts (fnOfSt (memOf 24 0)).2.1), (fnOfSt (memOf 24 0)).2.2, 0, [], .none, .none, .none, .none, none, .none, .none, 0⟩), #[]⟩),
(406, ⟨(.type "super"), none, (.fields #[(.ref 403), (.ref 403), (.ref 403)]), #[]⟩),
(407, ⟨(.type "builtin_function_or_method"), none, (.fields #[(.builtin "object.__init_subclass__"), (.ref 403)]), #[]⟩),
(408, ⟨(.type "tuple"), none, (.seq #[] 0), #[]⟩),
(409, ⟨(.type "builtin_function_or_method"), none, (.fields #[(.builtin "type.__prepare__"), (.type "type")]), #[]⟩),
(410, ⟨(.type "dict"), none, (.dict #[⟨(PySem.PyData.keyHash P "__module__"), (.str "__module__" 1139), (.str "pixelpress.frames" 1087)⟩, ⟨(PySem.PyData.keyHash P "__qualname__"), (.str "__qualname__" 1141), (.str "Frame" 1140)⟩, ⟨(PySem.PyData.keyHash P "__firstlineno__"), (.str "__firstlineno__" 1143), (.int 120 1142)⟩, ⟨(PySem.PyData.keyHash P "__init__"), (.str "__init__" 1156), (.ref 421)⟩, ⟨(PySem.PyData.keyHash P "most_across"), (.str "most_across" 1162), (.ref 426)⟩, ⟨(PySem.PyData.keyHash P "most_down"), (.str "most_down" 1168), (.ref 431)⟩, ⟨(PySem.PyData.keyHash P "mcus_across"), (.str "mcus_across" 1175), (.ref 438)⟩, ⟨(PySem.PyData.keyHash P "mcus_down"), (.str "mcus_down" 1182), (.ref 445)⟩, ⟨(PySem.PyData.keyHash P "plane_size"), (.str "plane_size" 1192), (.ref 452)⟩, ⟨(PySem.PyData.keyHash P "blocks"), (.str "blocks" 1202), (.ref 459)⟩, ⟨(PySem.PyData.keyHash P "padded"), (.str "padded" 1211), (.ref 466)⟩, ⟨(PySem.PyData.keyHash P "__static_attributes__"), (.str "__static_attributes__" 1218), (.ref 467)⟩] 12), #[]⟩),
(411, ⟨(.type "tuple"), none, (.seq #[] 0), #[]⟩),
(412, ⟨.none, none, (.fields #[(.int 122 0), (.int 4 0), (.ref 420), (.int 130 0), (.int 4 0), (.ref 425), (.int 133 0), (.int 4 0), (.ref 430), (.int 136 0), (.int 4 0), (.ref 437), (.int 139 0), (.int 4 0), (.ref 444), (.int 142 0), (.int 4 0), (.ref 451), (.int 147 0), (.int 4 0), (.ref 458), (.int 151 0), (.int 4 0), (.ref 465)]), #[]⟩),
(413, ⟨(.type "code"), none, (.fields #[(.str "Frame" 1134), (.str "Frame" 1135), (.str "/claim/cut.py" 1136), (.int 120 0), (.int 0 0), (.int 0 0), (.int 0 0), (.int 0 0), (.ref 411), (.bool false), (.int 181 0), (.ref 412), .none, .none, .none, .none, (.int 1137 0), (.int 120 0), (.str "/claim/cut.py" 1138)]), #[]⟩),
(414, ⟨(.type "frame"), none, .plain, #[(some (.ref 413)), (some (.ref 3)), (some (.ref 410)), none, (some (.str "pixelpress.frames" 1087)), none, (some (.ref 0))]⟩),
(419, ⟨.none, none, (.func ⟨"__init__", "Frame.__init__", (fnOfSt (memOf 25 0)).1, (.stmts (fnOfSt (memOf 25 0)).2.1), (fnOfSt (memOf 25 0)).2.2, 0, [], .none, .none, .none, .none, none, .none, .none, 0⟩), #[]⟩),
(424, ⟨.none, none, (.func ⟨"most_across", "Frame.most_across", (fnOfSt (memOf 25 1)).1, (.stmts (fnOfSt (memOf 25 1)).2.1), (fnOfSt (memOf 25 1)).2.2, 0, [], .none, .none, .none, .none, none, .none, .none, 0⟩), #[]⟩),
(429, ⟨.none, none, (.func ⟨"most_down", "Frame.most_down", (fnOfSt (memOf 25 2)).1, (.stmts (fnOfSt (memOf 25 2)).2.1), (fnOfSt (memOf 25 2)).2.2, 0, [], .none, .none, .none, .none, none, .none, .none, 0⟩), #[]⟩),
(436, ⟨.none, none, (.func ⟨"mcus_across", "Frame.mcus_across", (fnOfSt (memOf 25 3)).1, (.stmts (fnOfSt (memOf 25 3)).2.1), (fnOfSt (memOf 25 3)).2.2, 0, [], .none, .none, .none, .none, none, .none, .none, 0⟩), #[]⟩),
(443, ⟨.none, none, (.func ⟨"mcus_down", "Frame.mcus_down", (fnOfSt (memOf 25 4)).1, (.stmts (fnOfSt (memOf 25 4)).2.1), (fnOfSt (memOf 25 4)).2.2, 0, [], .none, .none, .none, .none, none, .none, .none, 0⟩), #[]⟩),
(450, ⟨.none, none, (.func ⟨"plane_size", "Frame.plane_size", (fnOfSt (memOf 25 5)).1, (.stmts (fnOfSt (memOf 25 5)).2.1), (fnOfSt (memOf 25 5)).2.2, 0, [], .none, .none, .none, .none, none, .none, .none, 0⟩), #[]⟩),
(457, ⟨.none, none, (.func ⟨"blocks", "Frame.blocks", (fnOfSt (memOf 25 6)).1, (.stmts (fnOfSt (memOf 25 6)).2.1), (fnOfSt (memOf 25 6)).2.2, 0, [], .none, .none, .none, .none, none, .none, .none, 0⟩), #[]⟩),
(464, ⟨.none, none, (.func ⟨"padded", "Frame.padded", (fnOfSt (memOf 25 7)).1, (.stmts (fnOfSt (memOf 25 7)).2.1), (fnOfSt (memOf 25 7)).2.2, 0, [], .none, .none, .none, .none, none, .none, .none, 0⟩), #[]⟩),
(472, ⟨(.type "super"), none, (.fields #[(.ref 469), (.ref 469), (.ref 469)]), #[]⟩),
(473, ⟨(.type "builtin_function_or_method"), none, (.fields #[(.builtin "object.__init_subclass__"), (.ref 469)]), #[]⟩),
(474, ⟨(.type "tuple"), none, (.seq #[] 0), #[]⟩),
(475, ⟨(.type "builtin_function_or_method"), none, (.fields #[(.builtin "type.__prepare__"), (.type "type")]), #[]⟩),
(476, ⟨(.type "dict"), none, (.dict #[⟨(PySem.PyData.keyHash P "__module__"), (.str "__module__" 1235), (.str "pixelpress.scans" 1226)⟩, ⟨(PySem.PyData.keyHash P "__qualname__"), (.str "__qualname__" 1237), (.str "Scan" 1236)⟩, ⟨(PySem.PyData.keyHash P "__firstlineno__"), (.str "__firstlineno__" 1239), (.int 155 1238)⟩, ⟨(PySem.PyData.keyHash P "__init__"), (.str "__init__" 1253), (.ref 487)⟩, ⟨(PySem.PyData.keyHash P "is_alone"), (.str "is_alone" 1260), (.ref 494)⟩, ⟨(PySem.PyData.keyHash P "is_finer"), (.str "is_finer" 1267), (.ref 501)⟩, ⟨(PySem.PyData.keyHash P "__static_attributes__"), (.str "__static_attributes__" 1275), (.ref 502)⟩] 7), #[]⟩),
(477, ⟨(.type "tuple"), none, (.seq #[] 0), #[]⟩),
(478, ⟨.none, none, (.fields #[(.int 157 0), (.int 4 0), (.ref 486), (.int 166 0), (.int 4 0), (.ref 493), (.int 169 0), (.int 4 0), (.ref 500)]), #[]⟩),
(479, ⟨(.type "code"), none, (.fields #[(.str "Scan" 1230), (.str "Scan" 1231), (.str "/claim/cut.py" 1232), (.int 155 0), (.int 0 0), (.int 0 0), (.int 0 0), (.int 0 0), (.ref 477), (.bool false), (.int 181 0), (.ref 478), .none, .none, .none, .none, (.int 1233 0), (.int 155 0), (.str "/claim/cut.py" 1234)]), #[]⟩),
(480, ⟨(.type "frame"), none, .plain, #[(some (.ref 479)), (some (.ref 3)), (some (.ref 476)), none, (some (.str "pixelpress.scans" 1226)), none, (some (.ref 0))]⟩),
(485, ⟨.none, none, (.func ⟨"__init__", "Scan.__init__", (fnOfSt (memOf 27 0)).1, (.stmts (fnOfSt (memOf 27 0)).2.1), (fnOfSt (memOf 27 0)).2.2, 0, [], .none, .none, .none, .none, none, .none, .none, 0⟩), #[]⟩),
(492, ⟨.none, none, (.func ⟨"is_alone", "Scan.is_alone", (fnOfSt (memOf 27 1)).1, (.stmts (fnOfSt (memOf 27 1)).2.1), (fnOfSt (memOf 27 1)).2.2, 0, [], .none, .none, .none, .none, none, .none, .none, 0⟩), #[]⟩),
(499, ⟨.none, none, (.func ⟨"is_finer", "Scan.is_finer", (fnOfSt (memOf 27 2)).1, (.stmts (fnOfSt (memOf 27 2)).2.1), (fnOfSt (memOf 27 2)).2.2, 0, [], .none, .none, .none, .none, none, .none, .none, 0⟩), #[]⟩),
(507, ⟨(.type "super"), none, (.fields #[(.ref 504), (.ref 504), (.ref 504)]), #[]⟩),
(508, ⟨(.type "builtin_function_or_method"), none, (.fields #[(.builtin "object.__init_subclass__"), (.ref 504)]), #[]⟩),
(513, ⟨.none, none, (.func ⟨"_law_pool", "_law_pool", (fnOfSt (stOf 29)).1, (.stmts (fnOfSt (stOf 29)).2.1), (fnOfSt (stOf 29)).2.2, 0, [], .none, .none, .none, .none, none, .none, .none, 0⟩), #[]⟩),
(520, ⟨.none, none, (.func ⟨"_law_take", "_law_take", (fnOfSt (stOf 30)).1, (.stmts (fnOfSt (stOf 30)).2.1), (fnOfSt (stOf 30)).2.2, 0, [], .none, .none, .none, .none, none, .none, .none, 0⟩), #[]⟩),
(525, ⟨.none, none, (.func ⟨"_law_scans", "_law_scans", (fnOfSt (stOf 31)).1, (.stmts (fnOfSt (stOf 31)).2.1), (fnOfSt (stOf 31)).2.2, 0, [], .none, .none, .none, .none, none, .none, .none, 0⟩), #[]⟩),
(532, ⟨.none, none, (.func ⟨"_law_places", "_law_places", (fnOfSt (stOf 32)).1, (.stmts (fnOfSt (stOf 32)).2.1), (fnOfSt (stOf 32)).2.2, 0, [], .none, .none, .none, .none, none, .none, .none, 0⟩), #[]⟩),
(537, ⟨.none, none, (.func ⟨"_law_rank", "_law_rank", (fnOfSt (stOf 33)).1, (.stmts (fnOfSt (stOf 33)).2.1), (fnOfSt (stOf 33)).2.2, 0, [], .none, .none, .none, .none, none, .none, .none, 0⟩), #[]⟩),
(542, ⟨.none, none, (.func ⟨"_law_row_right", "_law_row_right", (fnOfSt (stOf 34)).1, (.stmts (fnOfSt (stOf 34)).2.1), (fnOfSt (stOf 34)).2.2, 0, [], .none, .none, .none, .none, none, .none, .none, 0⟩), #[]⟩),
(547, ⟨.none, none, (.func ⟨"_law_worth_right", "_law_worth_right", (fnOfSt (stOf 35)).1, (.stmts (fnOfSt (stOf 35)).2.1), (fnOfSt (stOf 35)).2.2, 0, [], .none, .none, .none, .none, none, .none, .none, 0⟩), #[]⟩),
(552, ⟨.none, none, (.func ⟨"_law_field", "_law_field", (fnOfSt (stOf 36)).1, (.stmts (fnOfSt (stOf 36)).2.1), (fnOfSt (stOf 36)).2.2, 0, [], .none, .none, .none, .none, none, .none, .none, 0⟩), #[]⟩),
(557, ⟨.none, none, (.func ⟨"_law_grid_right", "_law_grid_right", (fnOfSt (stOf 37)).1, (.stmts (fnOfSt (stOf 37)).2.1), (fnOfSt (stOf 37)).2.2, 0, [], .none, .none, .none, .none, none, .none, .none, 0⟩), #[]⟩),
(562, ⟨.none, none, (.func ⟨"law", "law", (fnOfSt (stOf 38)).1, (.stmts (fnOfSt (stOf 38)).2.1), (fnOfSt (stOf 38)).2.2, 0, [], .none, .none, .none, .none, none, .none, .none, 0⟩), #[]⟩)]
noncomputable def U7 (P : Params) : List (Nat × Obj) := U5 P ++ (((List.range 278).map fun i => (i + 287, (⟨.none, none, (.fields #[]), #[]⟩ : Obj))) ++ (K P ++ M7 P))
noncomputable abbrev pos7 : Pos := ⟨252, 0, 269, 15⟩
noncomputable abbrev C7 (w : World) (os : OsState) : SharedT := ⟨upd (T5 w os) (U7 w.params), 565, {}, #[], {}, 1356, os⟩
theorem step7 (w : World) : (fun os => segRunT treeTable pw w 11 annB 1 1864 (C5 w os) (piecesOf L3 envB codeB pos6 frB)) = fun os => some (.next, C7 w os, codeB, pos7) := by
  delta piecesOf
  rw [PySem.W.Fast.te10110043849684766642, PySem.W.Fast.te14364793385576792824, PySem.W.Fast.te12563942051412417395]
  kernel_rfl
theorem end7 (w : World) : (fun os => topRun treeTable pw w 11 annB 2 (C7 w os).abs ⟨doneF .next, codeB, pos7, frB⟩) = fun os => some (C7 w os).abs := by
  rw [PySem.W.Fast.te14364793385576792824, PySem.W.Fast.te14082659384304107361]
  kernel_rfl
theorem mChk (w : World) : (fun os => chk w (C7 w os).abs) = fun _ => true := by
  delta chk
  rw [PySem.W.Fast.te5923862056798008813]
  kernel_rfl
theorem mSeen (w : World) : (fun os => openSeen qB looseB (importedModules pw.main.body) XtB true (C7 w os).abs) = fun _ => openGood qB looseB := by
  rw [PySem.W.Fast.te4187177175401517315, PySem.W.Fast.te5923862056798008813]
  kernel_rfl
noncomputable abbrev ks (P : Params) : List Obj := (K P).map fun p => p.2
theorem k0 (w : World) : (fun os => as.map (C7 w os).tree.get) = fun _ => (ks w.params).map some := by kernel_rfl
theorem k1 (P : Params) : (ks P).map alive = (K P).map fun p => some p.2 := by kernel_rfl
theorem k2 (w : World) (os : OsState) : (as.all fun a => Nat.blt a (C7 w os).n) = true := by kernel_rfl
theorem mK (w : World) (os : OsState) : as.map (C7 w os).abs.heap.get? = (K w.params).map fun p => some p.2 := lookS (C7 w os) (k2 w os) (congrFun (k0 w) os) (k1 w.params)
theorem long (w : World) (os : OsState) : segRun treeTable pw w 11 annB 1 (1907 + (1292 + (1544 + (1430 + (1178 + 1357))))) (S5 w os).abs whole6 = some (.next, (C5 w os).abs, codeB, pos6) :=
  seg_go (segGo_of (congrFun (go0 w) os)) (seg_go (segGo_of (congrFun (go1 w) os)) (seg_go (segGo_of (congrFun (go2 w) os)) (seg_go (segGo_of (congrFun (go3 w) os)) (seg_go (segGo_of (congrFun (go4 w) os)) (segRun_of (congrFun (go5 w) os))))))
theorem parts : behindTheImports pw = L1 ++ (L2 ++ L3) := by kernel_rfl
theorem size (w : World) : ((boot_heap w.params).isNs mainGlobals && (Array.mk [] : Array GenState).size == 0, (boot_heap w.params).objs.size, (boot_heap w.params).nsMap mainGlobals "__annotations__") = (true, 11, annB) := by kernel_rfl
end Mine.H

namespace Mine.H
theorem opened : ∀ w : World, (fencedOpening treeTable pw w 11000).map (fun s => (s.heap, s.gens, s.drawn, s.toks)) = some (boot_heap w.params, Array.mk [], boot_drawn, boot_toks) := boot_open (p := pw) (N := 11000) (by kernel_rfl) (by decide) (fun s => by kernel_rfl)
theorem run (w : World) (os : OsState) : ∃ s₁, topRun treeTable pw w 11 annB (12 + (1 + (406 + ((1907 + (1292 + (1544 + (1430 + (1178 + 1357))))) + (1864 + 2))))) ⟨boot_heap w.params, Array.mk [], boot_drawn, boot_toks, os⟩ (topStub pw) = some s₁ ∧
      (staticsOk (importedModules pw.main.body) (boot_heap w.params) s₁.heap && namesBound pw s₁.heap && gensDone s₁ && laidKept (boot_heap w.params) s₁.heap) = true ∧ openSeen qB looseB (importedModules pw.main.body) XtB true s₁ = openGood qB looseB ∧ as.map s₁.heap.get? = (K w.params).map fun p => some p.2 := by
  exact ⟨(C7 w os).abs, run_of7 parts (congrFun (pre w) os) (congrFun (block w) os) (congrFun (partA w) os) (long w os) (congrFun (step7 w) os) (congrFun (end7 w) os), congrFun (mChk w) os, congrFun (mSeen w) os, mK w os⟩
noncomputable abbrev HK : Hook := kHook K as (fun _ => by kernel_rfl)
theorem left : LeftO pw qB looseB XtB HK.obs HK.val 11000 := leftO_of opened size run (by decide)
theorem said : PySem.Challenge.rw_nt0561_01.wellSaid = true := by
  rw [PySem.W.Fast.te9446332074065402090]
  delta PySem.W.Fast.tw9446332074065402090 PySem.W.Fast.tw17960256430627541270 PySem.W.Fast.tw2436336058641802641 PySem.W.Fast.tw12908688711261696721
  repeat' (with_reducible refine look_both ?_ ?_)
  all_goals as_aux_lemma => kernel_rfl
abbrev rO : OpenRow := PySem.Challenge.rw_nt0561_01.row
theorem dB_some : (defOf qB rO.name).isSome = true := by kernel_rfl
noncomputable def dB : DefRec × List (Str × Expr) := (defOf qB rO.name).get dB_some
theorem hdef : defOf qB rO.name = some (dB.1, dB.2) := by kernel_rfl
theorem hp : rO.prog.theDef rO.name = some (dB.1.params, dB.1.body, dB.1.scope) := by kernel_rfl
theorem hk : kwWritten? dB.1.params.kwonlyargs dB.1.params.kw_defaults = some dB.2 := by kernel_rfl
theorem promised : rO.toRowW.promised := by w_witness2
theorem top (h : WalkO qB looseB (XL qB []) HK.says rO.toRowW dB.1 dB.2 (fun f vs => PySem.call f vs)) : PySem.Challenge.rw_nt0561_01.Holds :=
  holds_law said fun said' => holds_open (r := rO) (q := qB) (loose := looseB) (Xt := XtB) (XP := XL qB []) (Yf := HK.obs) (Ya := HK.val) (YP := HK.says) (N := 11000) left HK.of HK.keeps
    (fun s e => xl_of s (Bool.and_eq_true_iff.mp e).1) XL.keeps hdef hp hk (fun s e => recFacts_of (Bool.and_eq_true_iff.mp e).2) (by rfl) said' (by decide +kernel) ⟨rfl, rfl, rfl, rfl, rfl, by decide +kernel⟩ promised h
end Mine.H

set_option maxHeartbeats 4000000
namespace Mine

inductive D where
  | none
  | bool (b : Bool)
  | int (i : Int)
  | str (x : PySem.Str)
  | list (xs : List D)
  | tup (xs : List D)
  | ref (a : Addr)
  | inst (C : Addr) (fs : List (PySem.Str × D))
  | slf (C dx : Addr)
  | range (a b c : Int)
inductive M where
  | lst (xs : List D)
  | dct (fs : List (PySem.Str × D))
noncomputable abbrev Lc := List (PySem.Str × D)
noncomputable abbrev Mt := List (Addr × M)
noncomputable abbrev Led := List (Addr × Obj)
noncomputable abbrev tupOf (vs : Array Value) (n : Nat) : Obj := { cls := .type "tuple", data := .seq vs n }
mutual
noncomputable def Rep (P : Params) (im : Led) : D → Value → Prop
  | .none, v => v = .none
  | .bool b, v => v = .bool b
  | .int i, v => ∃ t, v = .int i t
  | .str x, v => ∃ t, v = .str x t
  | .list xs, v => ∃ a vs n, v = .ref a ∧ (a, listOf vs n) ∈ im ∧ RepL P im xs vs.toList
  | .tup xs, v => ∃ a vs n, v = .ref a ∧ (a, tupOf vs n) ∈ im ∧ RepL P im xs vs.toList
  | .ref a, v => v = .ref a
  | .inst C fs, v => ∃ x dx es n, v = .ref x ∧ (x, instObj C dx) ∈ im ∧ (dx, dictOf es n) ∈ im ∧ RepF P im fs es
  | .slf C dx, v => ∃ x, v = .ref x ∧ (x, instObj C dx) ∈ im
  | .range a b c, v => ∃ r t u w, v = .ref r ∧ (r, ({ cls := .type "range", dict := none, data := .fields #[.int a t, .int b u, .int c w], slots := #[] } : Obj)) ∈ im
noncomputable def RepL (P : Params) (im : Led) : List D → List Value → Prop
  | [], vs => vs = []
  | d :: ds, vs => ∃ v r, vs = v :: r ∧ Rep P im d v ∧ RepL P im ds r
noncomputable def RepF (P : Params) (im : Led) : List (PySem.Str × D) → List DictEntry → Prop
  | [], es => es = []
  | q :: fs, es => ∃ t v r, es = ⟨PyData.keyHash P q.1, .str q.1 t, v⟩ :: r ∧ Rep P im q.2 v ∧ RepF P im fs r
end
mutual
theorem Rep.mono {P : Params} {im im' : Led} (hs : ∀ q ∈ im, q ∈ im') : ∀ {d : D} {v : Value}, Rep P im d v → Rep P im' d v
  | .none, _, h => h
  | .bool _, _, h => h
  | .int _, _, h => h
  | .str _, _, h => h
  | .list _, _, h => by
    obtain ⟨a, vs, n, e, hm, hr⟩ := h
    exact ⟨a, vs, n, e, hs _ hm, RepL.mono hs hr⟩
  | .tup _, _, h => by
    obtain ⟨a, vs, n, e, hm, hr⟩ := h
    exact ⟨a, vs, n, e, hs _ hm, RepL.mono hs hr⟩
  | .ref _, _, h => h
  | .inst _ _, _, h => by
    obtain ⟨x, dx, es, n, e, hm, hd, hr⟩ := h
    exact ⟨x, dx, es, n, e, hs _ hm, hs _ hd, RepF.mono hs hr⟩
  | .slf _ _, _, h => by
    obtain ⟨x, e, hm⟩ := h
    exact ⟨x, e, hs _ hm⟩
  | .range _ _ _, _, h => by
    obtain ⟨r, t, u, w, e, hm⟩ := h
    exact ⟨r, t, u, w, e, hs _ hm⟩
theorem RepL.mono {P : Params} {im im' : Led} (hs : ∀ q ∈ im, q ∈ im') : ∀ {ds : List D} {vs : List Value}, RepL P im ds vs → RepL P im' ds vs
  | [], _, h => h
  | _ :: _, _, h => by
    obtain ⟨v, r, e, h1, h2⟩ := h
    exact ⟨v, r, e, Rep.mono hs h1, RepL.mono hs h2⟩
theorem RepF.mono {P : Params} {im im' : Led} (hs : ∀ q ∈ im, q ∈ im') : ∀ {fs : List (PySem.Str × D)} {es : List DictEntry}, RepF P im fs es → RepF P im' fs es
  | [], _, h => h
  | _ :: _, _, h => by
    obtain ⟨t, v, r, e, h1, h2⟩ := h
    exact ⟨t, v, r, e, Rep.mono hs h1, RepF.mono hs h2⟩
end
theorem RepL.length {P : Params} {im : Led} : ∀ {ds : List D} {vs : List Value}, RepL P im ds vs → vs.length = ds.length
  | [], _, h => by rw [h]; rfl
  | _ :: _, _, h => by
    obtain ⟨v, r, rfl, _, h2⟩ := h
    simp [RepL.length h2]
theorem RepL.get {P : Params} {im : Led} : ∀ {ds : List D} {vs : List Value} {i : Nat} {d : D}, RepL P im ds vs → ds[i]? = some d → ∃ v, vs[i]? = some v ∧ Rep P im d v
  | [], _, _, _, _, e => by simp at e
  | _ :: _, _, 0, _, h, e => by
    obtain ⟨v, r, rfl, h1, _⟩ := h
    simp at e
    exact ⟨v, rfl, e ▸ h1⟩
  | _ :: _, _, i + 1, _, h, e => by
    obtain ⟨v, r, rfl, _, h2⟩ := h
    exact RepL.get (i := i) h2 (by simpa using e)
theorem RepL.append {P : Params} {im : Led} : ∀ {ds es : List D} {vs us : List Value}, RepL P im ds vs → RepL P im es us → RepL P im (ds ++ es) (vs ++ us)
  | [], _, _, _, h, k => by rw [h]; exact k
  | _ :: _, _, _, _, h, k => by
    obtain ⟨v, r, rfl, h1, h2⟩ := h
    exact ⟨v, r ++ _, rfl, h1, RepL.append h2 k⟩
theorem RepL.set {P : Params} {im : Led} {d : D} {v : Value} (hd : Rep P im d v) : ∀ {ds : List D} {vs : List Value} {i : Nat}, RepL P im ds vs → RepL P im (ds.set i d) (vs.set i v)
  | [], _, _, h => by rw [h]; rfl
  | _ :: _, _, 0, h => by
    obtain ⟨u, r, rfl, _, h2⟩ := h
    exact ⟨v, r, rfl, hd, h2⟩
  | _ :: _, _, i + 1, h => by
    obtain ⟨u, r, rfl, h1, h2⟩ := h
    exact ⟨u, r.set i v, rfl, h1, RepL.set hd h2⟩
theorem RepL.one {P : Params} {im : Led} {d : D} {v : Value} (h : Rep P im d v) : RepL P im [d] [v] := ⟨v, [], rfl, h, rfl⟩
theorem RepL.cons {P : Params} {im : Led} {d : D} {v : Value} {ds : List D} {vs : List Value} (h : Rep P im d v) (k : RepL P im ds vs) : RepL P im (d :: ds) (v :: vs) := ⟨v, vs, rfl, h, k⟩
noncomputable def RepM (P : Params) (im : Led) : M → Obj → Prop
  | .lst ds, o => ∃ vs n, o = listOf vs n ∧ RepL P im ds vs.toList
  | .dct fs, o => ∃ es n, o = dictOf es n ∧ RepF P im fs es
theorem RepM.mono {P : Params} {im im' : Led} (hs : ∀ q ∈ im, q ∈ im') : ∀ {x : M} {o : Obj}, RepM P im x o → RepM P im' x o
  | .lst _, _, h => by
    obtain ⟨vs, n, e, hr⟩ := h
    exact ⟨vs, n, e, hr.mono hs⟩
  | .dct _, _, h => by
    obtain ⟨vs, n, e, hr⟩ := h
    exact ⟨vs, n, e, hr.mono hs⟩
noncomputable def MuOk (P : Params) (im : Led) : Mt → Led → Prop
  | [], mu => mu = []
  | q :: mt, mu => ∃ o r, mu = (q.1, o) :: r ∧ RepM P im q.2 o ∧ MuOk P im mt r
theorem MuOk.mono {P : Params} {im im' : Led} (hs : ∀ q ∈ im, q ∈ im') : ∀ {mt : Mt} {mu : Led}, MuOk P im mt mu → MuOk P im' mt mu
  | [], _, h => h
  | _ :: _, _, h => by
    obtain ⟨o, r, e, h1, h2⟩ := h
    exact ⟨o, r, e, h1.mono hs, h2.mono hs⟩
theorem MuOk.get {P : Params} {im : Led} : ∀ {mt : Mt} {mu : Led} {a : Addr} {x : M}, MuOk P im mt mu → (a, x) ∈ mt → ∃ o, (a, o) ∈ mu ∧ RepM P im x o
  | [], _, _, _, _, h => nomatch h
  | q :: _, _, a, x, h, hm => by
    obtain ⟨o, r, rfl, h1, h2⟩ := h
    rcases List.mem_cons.mp hm with e | hm
    · cases e; exact ⟨o, .head _, h1⟩
    · obtain ⟨o', h3, h4⟩ := MuOk.get h2 hm
      exact ⟨o', .tail _ h3, h4⟩
inductive At (a : Addr) (x : M) : Mt → (M → Mt) → Prop
  | head {r} : At a x ((a, x) :: r) (fun y => (a, y) :: r)
  | tail {q r G} : At a x r G → At a x (q :: r) (fun y => q :: G y)
theorem At.self {a : Addr} {x : M} {mt : Mt} {G : M → Mt} (h : At a x mt G) : G x = mt := by
  induction h with
  | head => rfl
  | tail _ ih => simp [ih]
theorem At.mem {a : Addr} {x : M} {mt : Mt} {G : M → Mt} (h : At a x mt G) : (a, x) ∈ mt := by
  induction h with
  | head => exact .head _
  | tail _ ih => exact .tail _ ih
theorem At.split {a : Addr} {x : M} {mt : Mt} {G : M → Mt} (h : At a x mt G) : ∃ pre post, mt = pre ++ (a, x) :: post ∧ ∀ y, G y = pre ++ (a, y) :: post := by
  induction h with
  | head => exact ⟨[], _, rfl, fun _ => rfl⟩
  | tail _ ih =>
    rename_i q r G h
    obtain ⟨pre, post, e1, e2⟩ := ih
    exact ⟨q :: pre, post, by rw [e1]; rfl, fun y => by show q :: G y = _; rw [e2]; rfl⟩
theorem MuOk.split {P : Params} {im : Led} {a : Addr} {x : M} {post : Mt} : ∀ {pre : Mt} {mu : Led}, MuOk P im (pre ++ (a, x) :: post) mu →
    ∃ l o r, mu = l ++ (a, o) :: r ∧ RepM P im x o ∧ MuOk P im pre l ∧ MuOk P im post r
  | [], _, h => by
    obtain ⟨o, r, rfl, h1, h2⟩ := h
    exact ⟨[], o, r, rfl, h1, rfl, h2⟩
  | q :: pre, _, h => by
    obtain ⟨o, r, rfl, h1, h2⟩ := h
    obtain ⟨l, o', r', rfl, h3, h4, h5⟩ := MuOk.split h2
    exact ⟨(q.1, o) :: l, o', r', rfl, h3, ⟨o, l, rfl, h1, h4⟩, h5⟩
theorem MuOk.join {P : Params} {im : Led} {post : Mt} {r : Led} (h5 : MuOk P im post r) : ∀ {pre : Mt} {l : Led}, MuOk P im pre l → MuOk P im (pre ++ post) (l ++ r)
  | [], _, h => by rw [h]; exact h5
  | q :: pre, _, h => by
    obtain ⟨o, r', rfl, h1, h2⟩ := h
    exact ⟨o, r' ++ _, rfl, h1, MuOk.join h5 h2⟩
structure Cx where
  prog : Program
  w : World
  K : Frag
  p : Program
  loose : List PySem.Str
  mg : PySem.Str → Option Value
  mb : PySem.Str → Option Value
theorem Frag.none_of {K : Frag} {h : Heap} (X : K.In h) {a : Addr} (e : h.get? a = none) : K.lookup a = none := by
  cases q : K.lookup a with
  | none => rfl
  | some o => rw [X _ _ q] at e; cases e
noncomputable abbrev Cx.P (c : Cx) : Params := c.w.params
structure Base (c : Cx) (g : Heap) : Prop where
  k : c.K.In g
  t : TopRead c.p c.loose c.mg c.mb g
theorem Base.keeps {c : Cx} {g h : Heap} (b : Base c g) (hk : ∀ a o, g.get? a = some o → h.get? a = some o) : Base c h := ⟨b.k.keeps hk, b.t.keeps hk⟩
structure Fm where
  env : Env
  oc : List Addr
  rc : List (Addr × Value)
structure StI (c : Cx) (g : Heap) (Z : List Addr) (f : Fm) (m : PySem.Str → Option Value) (cm : Addr → Option Value) (im mu : Led) (h : Heap) : Prop where
  base : Base c g
  keep : ∀ b o, g.get? b = some o → h.get? b = some o
  zin : ∀ z ∈ Z, (∃ o, h.get? z = some o) ∧ z ≠ f.env.locals ∧ z ∉ f.oc ∧ c.K.lookup z = none
  ns : h.Ns f.env.locals m
  lg : g.get? f.env.locals = none
  cell : ∀ a ∈ f.oc, h.IsCell a (cm a) ∧ g.get? a = none ∧ a ≠ f.env.locals
  rc : ∀ q ∈ f.rc, g.IsCell q.1 (some q.2)
  cinj : ∀ x y a, a ∈ f.oc → f.env.cells.lookup x = some a → f.env.cells.lookup y = some a → x = y
  imh : ∀ q ∈ im, h.get? q.1 = some q.2 ∧ q.1 ≠ f.env.locals ∧ q.1 ∉ f.oc ∧ q.1 ∉ Z
  muh : ∀ q ∈ mu, h.get? q.1 = some q.2 ∧ q.1 ≠ f.env.locals ∧ q.1 ∉ f.oc ∧ g.get? q.1 = none ∧ q.1 ∉ Z
  mnd : (mu.map (·.1)).Nodup
  mi : ∀ q ∈ mu, ∀ r ∈ im, q.1 ≠ r.1
noncomputable def VarIs (f : Fm) (m : PySem.Str → Option Value) (cm : Addr → Option Value) (x : PySem.Str) (v : Value) : Prop :=
  (f.env.kindOf x = some .local ∧ m x = some v) ∨
  (∃ a, (f.env.kindOf x = some .cell ∨ (f.env.kindOf x = some .free ∧ (x == ("__classdict__" : PySem.Str)) = false)) ∧ f.env.cells.lookup x = some a ∧ ((a ∈ f.oc ∧ cm a = some v) ∨ (a, v) ∈ f.rc))
noncomputable def LocOk (f : Fm) (m : PySem.Str → Option Value) (cm : Addr → Option Value) (P : Params) (im : Led) (loc : Lc) : Prop := ∀ q ∈ loc, (q.1 == ("__debug__" : PySem.Str)) = false ∧ ∃ v, VarIs f m cm q.1 v ∧ Rep P im q.2 v
noncomputable def StkOk (P : Params) (im : Led) (stk : List (D × Value)) : Prop := ∀ q ∈ stk, Rep P im q.1 q.2
inductive St (c : Cx) (g : Heap) (Z : List Addr) (f : Fm) (loc : Lc) (stk : List (D × Value)) (mt : Mt) (h : Heap) : Prop
  | mk (nd : (loc.map (·.1)).Nodup) (m : PySem.Str → Option Value) (cm : Addr → Option Value) (im mu : Led) (r : StI c g Z f m cm im mu h ∧ LocOk f m cm c.P im loc ∧ StkOk c.P im stk ∧ MuOk c.P im mt mu)
section
variable {c : Cx} {g : Heap} {Z : List Addr} {f : Fm} {loc loc' : Lc} {stk stk' : List (D × Value)} {mt mt' : Mt} {h h' : Heap} {m : PySem.Str → Option Value} {cm : Addr → Option Value} {im mu : Led}
theorem St.sub (H : St c g Z f loc stk mt h) (hs : ∀ q ∈ stk', q ∈ stk) : St c g Z f loc stk' mt h := by
  obtain ⟨nd, m, cm, im, mu, I, hl, hk, hm⟩ := H
  exact ⟨nd, m, cm, im, mu, I, hl, fun q hq => hk q (hs q hq), hm⟩
theorem St.locSub (H : St c g Z f loc stk mt h) (hs : List.Sublist loc' loc) : St c g Z f loc' stk mt h := by
  obtain ⟨nd, m, cm, im, mu, I, hl, hk, hm⟩ := H
  exact ⟨nd.sublist (hs.map _), m, cm, im, mu, I, fun q hq => hl q (hs.subset hq), hk, hm⟩
theorem StI.grow (I : StI c g Z f m cm im mu h) (hk : ∀ b o, h.get? b = some o → h'.get? b = some o) : StI c g Z f m cm im mu h' where
  base := I.base
  keep := fun b o e => hk b o (I.keep b o e)
  zin := fun z hz => ⟨(I.zin z hz).1.imp fun o e => hk z o e, (I.zin z hz).2⟩
  ns := I.ns.keeps hk
  lg := I.lg
  cell := fun a ha => ⟨(I.cell a ha).1.keeps hk, (I.cell a ha).2⟩
  rc := I.rc
  cinj := I.cinj
  imh := fun q hq => ⟨hk _ _ (I.imh q hq).1, (I.imh q hq).2⟩
  muh := fun q hq => ⟨hk _ _ (I.muh q hq).1, (I.muh q hq).2⟩
  mnd := I.mnd
  mi := I.mi
theorem StI.addIm (I : StI c g Z f m cm im mu h) {a : Addr} {o : Obj} (ha : h.get? a = some o) (h1 : a ≠ f.env.locals) (h2 : a ∉ f.oc) (h3 : a ∉ Z) (h4 : ∀ q ∈ mu, q.1 ≠ a) : StI c g Z f m cm ((a, o) :: im) mu h where
  base := I.base
  keep := I.keep
  zin := I.zin
  ns := I.ns
  lg := I.lg
  cell := I.cell
  rc := I.rc
  cinj := I.cinj
  imh := fun q hq => by
    rcases List.mem_cons.mp hq with rfl | hq
    · exact ⟨ha, h1, h2, h3⟩
    · exact I.imh q hq
  muh := I.muh
  mnd := I.mnd
  mi := fun q hq r hr => by
    rcases List.mem_cons.mp hr with rfl | hr
    · exact h4 q hq
    · exact I.mi q hq r hr
theorem StI.fresh (I : StI c g Z f m cm im mu h) {a : Addr} (ha : h.objs.size ≤ a) : a ≠ f.env.locals ∧ a ∉ f.oc ∧ a ∉ Z ∧ (∀ q ∈ mu, q.1 ≠ a) ∧ (∀ q ∈ im, q.1 ≠ a) ∧ g.get? a = none := by
  refine ⟨?_, ?_, ?_, ?_, ?_, ?_⟩
  · rintro rfl; exact absurd I.ns.lt (Nat.not_lt.mpr ha)
  · intro hm; exact absurd (I.cell a hm).1.lt (Nat.not_lt.mpr ha)
  · intro hm
    obtain ⟨⟨o, e⟩, _⟩ := I.zin a hm
    exact absurd (Heap.lt_size e) (Nat.not_lt.mpr ha)
  · rintro q hq rfl; exact absurd (Heap.lt_size (I.muh q hq).1) (Nat.not_lt.mpr ha)
  · rintro q hq rfl; exact absurd (Heap.lt_size (I.imh q hq).1) (Nat.not_lt.mpr ha)
  · cases e : g.get? a with
    | none => rfl
    | some o => exact absurd (Heap.lt_size (I.keep _ _ e)) (Nat.not_lt.mpr ha)
theorem StI.push (I : StI c g Z f m cm im mu h) (o : Obj) (hf : o.isFreed = false := by rfl) : StI c g Z f m cm ((h.objs.size, o) :: im) mu (h.push o) := by
  obtain ⟨h1, h2, h3, h4, _⟩ := I.fresh (Nat.le_refl _)
  exact (I.grow (h' := h.push o) fun b o' e => Heap.get?_push_of_some _ e).addIm (Heap.get?_push_size _ hf) h1 h2 h3 h4
theorem StI.pushM (I : StI c g Z f m cm im mu h) (o : Obj) (hf : o.isFreed = false := by rfl) : StI c g Z f m cm im ((h.objs.size, o) :: mu) (h.push o) := by
  obtain ⟨h1, h2, h3, h4, h5, h6⟩ := I.fresh (Nat.le_refl _)
  have J := I.grow (h' := h.push o) fun b o' e => Heap.get?_push_of_some _ e
  exact { J with
    muh := fun q hq => by
      rcases List.mem_cons.mp hq with rfl | hq
      · exact ⟨Heap.get?_push_size _ hf, h1, h2, h6, h3⟩
      · exact J.muh q hq
    mnd := List.nodup_cons.mpr ⟨fun hm => by obtain ⟨q, hq, e⟩ := List.mem_map.mp hm; exact h4 q hq e, I.mnd⟩
    mi := fun q hq r hr => by
      rcases List.mem_cons.mp hq with rfl | hq
      · exact fun e => h5 r hr e.symm
      · exact J.mi q hq r hr }
theorem StI.upd {l r : Led} {a : Addr} {o o' : Obj} (I : StI c g Z f m cm im (l ++ (a, o) :: r) h) (hs : Heap.SameBut a h h') (ho : h'.get? a = some o') : StI c g Z f m cm im (l ++ (a, o') :: r) h' := by
  have A := I.muh (a, o) (List.mem_append_right _ (.head _))
  have nd := I.mnd
  have off : ∀ q ∈ l ++ r, q.1 ≠ a := by
    rw [List.map_append, List.map_cons, List.nodup_append] at nd
    obtain ⟨n1, n2, n3⟩ := nd
    intro q hq e
    rcases List.mem_append.mp hq with hq | hq
    · exact n3 q.1 (List.mem_map_of_mem hq) a (.head _) e
    · have := (List.nodup_cons.mp n2).1
      exact this (List.mem_map.mpr ⟨q, hq, e⟩)
  have kp : ∀ b x, b ≠ a → h.get? b = some x → h'.get? b = some x := fun b x hb e => (hs.2 b hb).trans e
  exact {
    base := I.base
    keep := fun b x e => kp b x (by rintro rfl; rw [A.2.2.2.1] at e; cases e) (I.keep b x e)
    zin := fun z hz => ⟨(I.zin z hz).1.imp fun x e => kp z x (by rintro rfl; exact A.2.2.2.2 hz) e, (I.zin z hz).2⟩
    ns := I.ns.sameBut hs (Ne.symm A.2.1)
    lg := I.lg
    cell := fun b hb => ⟨(I.cell b hb).1.sameBut hs (by rintro rfl; exact A.2.2.1 hb), (I.cell b hb).2⟩
    rc := I.rc
    cinj := I.cinj
    imh := fun q hq => ⟨kp _ _ (fun e => I.mi (a, o) (List.mem_append_right _ (.head _)) q hq e.symm) (I.imh q hq).1, (I.imh q hq).2⟩
    muh := fun q hq => by
      rcases List.mem_append.mp hq with hq | hq
      · have B := I.muh q (List.mem_append_left _ hq)
        exact ⟨kp _ _ (off q (List.mem_append_left _ hq)) B.1, B.2⟩
      · rcases List.mem_cons.mp hq with rfl | hq
        · exact ⟨ho, A.2⟩
        · have B := I.muh q (List.mem_append_right _ (.tail _ hq))
          exact ⟨kp _ _ (off q (List.mem_append_right _ hq)) B.1, B.2⟩
    mnd := by simpa using I.mnd
    mi := fun q hq s hs' => by
      rcases List.mem_append.mp hq with hq | hq
      · exact I.mi q (List.mem_append_left _ hq) s hs'
      · rcases List.mem_cons.mp hq with rfl | hq
        · exact I.mi (a, o) (List.mem_append_right _ (.head _)) s hs'
        · exact I.mi q (List.mem_append_right _ (.tail _ hq)) s hs' }
theorem StI.freeze {l r : Led} {a : Addr} {o : Obj} (I : StI c g Z f m cm im (l ++ (a, o) :: r) h) : StI c g Z f m cm ((a, o) :: im) (l ++ r) h := by
  have A := I.muh (a, o) (List.mem_append_right _ (.head _))
  have sub : ∀ q ∈ l ++ r, q ∈ l ++ (a, o) :: r := fun q hq => by
    rcases List.mem_append.mp hq with hq | hq
    · exact List.mem_append_left _ hq
    · exact List.mem_append_right _ (.tail _ hq)
  have nd := I.mnd
  have off : ∀ q ∈ l ++ r, q.1 ≠ a := by
    rw [List.map_append, List.map_cons, List.nodup_append] at nd
    obtain ⟨n1, n2, n3⟩ := nd
    intro q hq e
    rcases List.mem_append.mp hq with hq | hq
    · exact n3 q.1 (List.mem_map_of_mem hq) a (.head _) e
    · have := (List.nodup_cons.mp n2).1
      exact this (List.mem_map.mpr ⟨q, hq, e⟩)
  have J : StI c g Z f m cm im (l ++ r) h := { I with
    muh := fun q hq => I.muh q (sub q hq)
    mnd := List.Nodup.sublist ((List.Sublist.append (List.Sublist.refl _) (List.sublist_cons_self _ _)).map _) I.mnd
    mi := fun q hq => I.mi q (sub q hq) }
  exact J.addIm A.1 A.2.1 A.2.2.1 A.2.2.2.2 off
theorem StI.dropMu {mu' : Led} (I : StI c g Z f m cm im mu h) (hs : List.Sublist mu' mu) : StI c g Z f m cm im mu' h := { I with
    muh := fun q hq => I.muh q (hs.subset hq)
    mnd := List.Nodup.sublist (hs.map _) I.mnd
    mi := fun q hq => I.mi q (hs.subset hq) }
theorem St.freeze {a : Addr} {ds : List D} {pre post : Mt} (H : St c g Z f loc stk (pre ++ (a, .lst ds) :: post) h) : St c g Z f loc ((.list ds, .ref a) :: stk) (pre ++ post) h := by
  obtain ⟨nd, m, cm, im, mu, I, hl, hk, hm⟩ := H
  obtain ⟨l, o, r, rfl, ho, h1, h2⟩ := MuOk.split hm
  have sb : ∀ q ∈ im, q ∈ (a, o) :: im := fun q hq => .tail _ hq
  refine ⟨nd, m, cm, (a, o) :: im, l ++ r, I.freeze, fun q hq => ?_, fun q hq => ?_, MuOk.join (h2.mono sb) (h1.mono sb)⟩
  · obtain ⟨hd, v, hv, hr⟩ := hl q hq
    exact ⟨hd, v, hv, hr.mono sb⟩
  · rcases List.mem_cons.mp hq with rfl | hq
    · obtain ⟨vs, n, rfl, hr⟩ := ho
      exact ⟨a, vs, n, rfl, .head _, hr.mono sb⟩
    · exact (hk q hq).mono sb
end
theorem MuOk.sublist {P : Params} {im : Led} {mt mt' : Mt} (hs : List.Sublist mt' mt) : ∀ {mu : Led}, MuOk P im mt mu → ∃ mu', List.Sublist mu' mu ∧ MuOk P im mt' mu' := by
  induction hs with
  | slnil => intro mu h; exact ⟨mu, List.Sublist.refl _, h⟩
  | cons a _ ih =>
    intro mu h
    obtain ⟨o, r, rfl, _, h2⟩ := h
    obtain ⟨mu', s, k⟩ := ih h2
    exact ⟨mu', s.cons _, k⟩
  | cons_cons a _ ih =>
    intro mu h
    obtain ⟨o, r, rfl, h1, h2⟩ := h
    obtain ⟨mu', s, k⟩ := ih h2
    exact ⟨(a.1, o) :: mu', s.cons_cons _, o, mu', rfl, h1, k⟩
theorem St.drop {c : Cx} {g : Heap} {Z : List Addr} {f : Fm} {loc : Lc} {stk : List (D × Value)} {mt mt' : Mt} {h : Heap} (H : St c g Z f loc stk mt h) (hs : List.Sublist mt' mt) : St c g Z f loc stk mt' h := by
  obtain ⟨nd, m, cm, im, mu, I, hl, hk, hm⟩ := H
  obtain ⟨mu', s, k⟩ := hm.sublist hs
  exact ⟨nd, m, cm, im, mu', I.dropMu s, hl, hk, k⟩
end Mine

namespace Mine

section
variable {c : Cx} {g g' : Heap} {Z Z' : List Addr} {f f' : Fm} {loc loc' : Lc} {stk stk' : List (D × Value)} {mt mt' : Mt} {h h' h₁ h₂ h₃ : Heap} {m m' : PySem.Str → Option Value} {cm cm' : Addr → Option Value} {im im' mu mu' : Led}
theorem StI.setLocals (I : StI c g Z f m cm im mu h) (hn : h'.Ns f.env.locals m') (kp : ∀ b x, b ≠ f.env.locals → h.get? b = some x → h'.get? b = some x) : StI c g Z f m' cm im mu h' := by
  exact {
    base := I.base
    keep := fun b x e => kp b x (by rintro rfl; rw [I.lg] at e; cases e) (I.keep b x e)
    zin := fun z hz => ⟨(I.zin z hz).1.imp fun x e => kp z x (I.zin z hz).2.1 e, (I.zin z hz).2⟩
    ns := hn
    lg := I.lg
    cell := fun b hb => ⟨let ⟨o, ho, hd⟩ := (I.cell b hb).1; ⟨o, kp _ _ (I.cell b hb).2.2 ho, hd⟩, (I.cell b hb).2⟩
    rc := I.rc
    cinj := I.cinj
    imh := fun q hq => ⟨kp _ _ (I.imh q hq).2.1 (I.imh q hq).1, (I.imh q hq).2⟩
    muh := fun q hq => ⟨kp _ _ (I.muh q hq).2.1 (I.muh q hq).1, (I.muh q hq).2⟩
    mnd := I.mnd
    mi := I.mi }
theorem StI.setCell {a : Addr} {v : Option Value} (I : StI c g Z f m cm im mu h) (ha : a ∈ f.oc) (hc : h'.IsCell a v) (hs : Heap.SameBut a h h') : StI c g Z f m (fun b => if b = a then v else cm b) im mu h' := by
  have kp : ∀ b x, b ≠ a → h.get? b = some x → h'.get? b = some x := fun b x hb e => (hs.2 b hb).trans e
  have A := I.cell a ha
  exact {
    base := I.base
    keep := fun b x e => kp b x (by rintro rfl; rw [A.2.1] at e; cases e) (I.keep b x e)
    zin := fun z hz => ⟨(I.zin z hz).1.imp fun x e => kp z x (by rintro rfl; exact (I.zin _ hz).2.2.1 ha) e, (I.zin z hz).2⟩
    ns := I.ns.sameBut hs (Ne.symm A.2.2)
    lg := I.lg
    cell := fun b hb => by
      by_cases e : b = a
      · subst e; simpa using ⟨hc, A.2⟩
      · simpa [e] using ⟨(I.cell b hb).1.sameBut hs e, (I.cell b hb).2⟩
    rc := I.rc
    cinj := I.cinj
    imh := fun q hq => ⟨kp _ _ (fun e => (I.imh q hq).2.2.1 (e ▸ ha)) (I.imh q hq).1, (I.imh q hq).2⟩
    muh := fun q hq => ⟨kp _ _ (fun e => (I.muh q hq).2.2.1 (e ▸ ha)) (I.muh q hq).1, (I.muh q hq).2⟩
    mnd := I.mnd
    mi := I.mi }
theorem StI.load {M : Model} {A : Around} {E : Value → Shared → Prop} {s : Shared} {x : PySem.Str} {v : Value} {Q : Value → Shared → Prop} (I : StI c g Z f m cm im mu s.heap) (hk : f.env.scope.kind = .function) (hv : VarIs f m cm x v) (h : Q v s) :
    wpAny M A (loadName f.env x) Q E s := by
  rcases hv with ⟨h1, h2⟩ | ⟨a, h1, h2, h3⟩
  · exact wpAny_loadName_local hk h1 I.ns h2 h
  · have hc : s.heap.IsCell a (some v) := by
      rcases h3 with ⟨h3, h4⟩ | h3
      · exact h4 ▸ (I.cell a h3).1
      · exact (I.rc _ h3).keeps I.keep
    rcases h1 with h1 | ⟨h1, h4⟩
    · exact wpAny_loadName_cell hk h1 h2 hc h
    · exact wpAny_loadName_free hk h1 h2 hc h h4
inductive SetAt (x : PySem.Str) (d : D) : Lc → Lc → Prop
  | head {e r} : SetAt x d ((x, e) :: r) ((x, d) :: r)
  | tail {q r r'} : SetAt x d r r' → SetAt x d (q :: r) (q :: r')
noncomputable def SetL (x : PySem.Str) (d : D) (loc loc' : Lc) : Prop := SetAt x d loc loc' ∨ (x ∉ loc.map (·.1) ∧ loc' = (x, d) :: loc)
theorem SetAt.names {x : PySem.Str} {d : D} {loc loc' : Lc} (k : SetAt x d loc loc') : loc'.map (·.1) = loc.map (·.1) ∧ x ∈ loc.map (·.1) := by
  induction k with
  | head => simp
  | tail _ ih => simp [ih.1, ih.2]
theorem SetAt.mem {x : PySem.Str} {d : D} {loc loc' : Lc} (k : SetAt x d loc loc') (nd : (loc.map (·.1)).Nodup) : ∀ q ∈ loc', q = (x, d) ∨ (q ∈ loc ∧ q.1 ≠ x) := by
  induction k with
  | head =>
    intro q hq
    rcases List.mem_cons.mp hq with rfl | hq
    · exact .inl rfl
    · refine .inr ⟨.tail _ hq, fun e => ?_⟩
      exact (List.nodup_cons.mp nd).1 (List.mem_map.mpr ⟨q, hq, e⟩)
  | tail k ih =>
    rename_i p r r'
    intro q hq
    rcases List.mem_cons.mp hq with rfl | hq
    · refine .inr ⟨.head _, fun e => ?_⟩
      have hn := (List.nodup_cons.mp nd).1
      exact hn (show q.1 ∈ _ from by rw [show q.1 = x from e]; exact k.names.2)
    · rcases ih (List.nodup_cons.mp nd).2 q hq with h | ⟨h, e⟩
      · exact .inl h
      · exact .inr ⟨.tail _ h, e⟩
theorem SetL.mem {x : PySem.Str} {d : D} {loc loc' : Lc} (k : SetL x d loc loc') (nd : (loc.map (·.1)).Nodup) : (loc'.map (·.1)).Nodup ∧ ∀ q ∈ loc', q = (x, d) ∨ (q ∈ loc ∧ q.1 ≠ x) := by
  rcases k with k | ⟨k, rfl⟩
  · exact ⟨k.names.1 ▸ nd, k.mem nd⟩
  · refine ⟨List.nodup_cons.mpr ⟨k, nd⟩, fun q hq => ?_⟩
    rcases List.mem_cons.mp hq with rfl | hq
    · exact .inl rfl
    · exact .inr ⟨hq, fun e => k (List.mem_map.mpr ⟨q, hq, e⟩)⟩
theorem St.store {M : Model} {A : Around} {E : Value → Shared → Prop} {s : Shared} {x : PySem.Str} {d : D} {v : Value} {Q : Unit → Shared → Prop} (H : St c g Z f loc stk mt s.heap) (hv : (d, v) ∈ stk) (hf : f.env.scope.kind = .function)
    (hk : f.env.kindOf x = some .local ∨ (f.env.kindOf x = some .cell ∧ ∃ a, a ∈ f.oc ∧ f.env.cells.lookup x = some a)) (hd : (x == ("__debug__" : PySem.Str)) = false) (hl : SetL x d loc loc')
    (h : ∀ h' tk, St c g Z f loc' stk mt h' → Q () { s with heap := h', toks := tk }) : wpAny M A (storeName f.env x v) Q E s := by
  obtain ⟨nd, m, cm, im, mu, I, hl', hk', hm⟩ := H
  obtain ⟨nd', mem⟩ := hl.mem nd
  rcases hk with hk | ⟨hk, a, ha, hc⟩
  · refine wpAny_storeName_local hk I.ns (fun h' hn hs => h h' _ ⟨nd', _, cm, im, mu, I.setLocals hn (fun b o hb e => (hs.2 b hb).trans e), fun q hq => ?_, hk', hm⟩) (by rw [hf]; rfl)
    rcases mem q hq with rfl | ⟨hq, hne⟩
    · exact ⟨hd, v, .inl ⟨hk, by simp⟩, hk' _ hv⟩
    · obtain ⟨hd', u, hu, hr⟩ := hl' q hq
      refine ⟨hd', u, ?_, hr⟩
      rcases hu with ⟨h1, h2⟩ | h1
      · exact .inl ⟨h1, by simpa [hne] using h2⟩
      · exact .inr h1
  · refine wpAny_storeName_cell hf hk hc (I.cell a ha).1 fun h' hv' hs => h h' _ ⟨nd', m, _, im, mu, I.setCell ha hv' hs, fun q hq => ?_, hk', hm⟩
    rcases mem q hq with rfl | ⟨hq, hne⟩
    · exact ⟨hd, v, .inr ⟨a, .inl hk, hc, .inl ⟨ha, by simp⟩⟩, hk' _ hv⟩
    · obtain ⟨hd', u, hu, hr⟩ := hl' q hq
      refine ⟨hd', u, ?_, hr⟩
      rcases hu with h1 | ⟨b, h1, h2, h3⟩
      · exact .inl h1
      · refine .inr ⟨b, h1, h2, ?_⟩
        rcases h3 with ⟨h3, h4⟩ | h3
        · refine .inl ⟨h3, ?_⟩
          have : b ≠ a := by
            rintro rfl
            exact hne (I.cinj _ _ _ ha h2 hc)
          simpa [this] using h4
        · exact .inr h3
theorem StI.enter (I : StI c g Z f m cm im mu h) (hk : ∀ b o, h.get? b = some o → h₁.get? b = some o) (hn : h₁.Ns f'.env.locals m') (hL : h.objs.size ≤ f'.env.locals)
    (hc : ∀ a ∈ f'.oc, h₁.IsCell a (cm' a) ∧ h.objs.size ≤ a ∧ a ≠ f'.env.locals) (hrc : ∀ q ∈ f'.rc, h.IsCell q.1 (some q.2) ∧ q.1 ∉ mu.map (·.1))
    (hci : ∀ x y a, a ∈ f'.oc → f'.env.cells.lookup x = some a → f'.env.cells.lookup y = some a → x = y) :
    StI c (hideAll h (mu.map (·.1))) (f.env.locals :: f.oc ++ Z) f' m' cm' im mu h₁ := by
  have fresh : ∀ a, h.objs.size ≤ a → (hideAll h (mu.map (·.1))).get? a = none := fun a ha => by
    cases e : (hideAll h (mu.map (·.1))).get? a with
    | none => rfl
    | some o => exact absurd (Heap.lt_size (of_hideAll _ e)) (Nat.not_lt.mpr ha)
  have old : ∀ a o, h.get? a = some o → a ≠ f'.env.locals ∧ a ∉ f'.oc := fun a o e =>
    ⟨fun q => absurd (Heap.lt_size e) (Nat.not_lt.mpr (q ▸ hL)), fun q => absurd (Heap.lt_size e) (Nat.not_lt.mpr (hc a q).2.1)⟩
  exact {
    base := I.base.keeps fun b o e => hideAll_get _ (I.keep b o e) (fun q => by
      obtain ⟨p, hp, rfl⟩ := List.mem_map.mp q
      rw [(I.muh p hp).2.2.2.1] at e; cases e)
    keep := fun b o e => hk b o (of_hideAll _ e)
    zin := fun z hz => by
      rcases List.mem_append.mp hz with hz | hz
      · rcases List.mem_cons.mp hz with rfl | hz
        · obtain ⟨o, _, _, ho, _⟩ := I.ns
          exact ⟨⟨o, hk _ _ ho⟩, (old _ _ ho).1, (old _ _ ho).2, Frag.none_of I.base.k I.lg⟩
        · obtain ⟨o, ho, _⟩ := (I.cell z hz).1
          exact ⟨⟨o, hk _ _ ho⟩, (old _ _ ho).1, (old _ _ ho).2, Frag.none_of I.base.k (I.cell z hz).2.1⟩
      · obtain ⟨⟨o, ho⟩, _, _, zk⟩ := I.zin z hz
        exact ⟨⟨o, hk _ _ ho⟩, (old _ _ ho).1, (old _ _ ho).2, zk⟩
    ns := hn
    lg := fresh _ hL
    cell := fun a ha => ⟨(hc a ha).1, fresh _ (hc a ha).2.1, (hc a ha).2.2⟩
    rc := fun q hq => by
      obtain ⟨⟨o, ho, hd⟩, hn⟩ := hrc q hq
      exact ⟨o, hideAll_get _ ho hn, hd⟩
    cinj := hci
    imh := fun q hq => by
      obtain ⟨h1, h2, h3, h4⟩ := I.imh q hq
      refine ⟨hk _ _ h1, (old _ _ h1).1, (old _ _ h1).2, fun hz => ?_⟩
      rcases List.mem_append.mp hz with hz | hz
      · rcases List.mem_cons.mp hz with hz | hz
        · exact h2 hz
        · exact h3 hz
      · exact h4 hz
    muh := fun q hq => by
      obtain ⟨h1, h2, h3, h4, h5⟩ := I.muh q hq
      refine ⟨hk _ _ h1, (old _ _ h1).1, (old _ _ h1).2, hideAll_none _ (List.mem_map_of_mem hq), fun hz => ?_⟩
      rcases List.mem_append.mp hz with hz | hz
      · rcases List.mem_cons.mp hz with hz | hz
        · exact h2 hz
        · exact h3 hz
      · exact h5 hz
    mnd := I.mnd
    mi := I.mi }
theorem StI.leave (I : StI c g Z f m cm im mu h) (J : StI c (hideAll h (mu.map (·.1))) (f.env.locals :: f.oc ++ Z) f' m' cm' im' mu' h₂) (hs : ∀ b o, b ≠ f'.env.locals → h₂.get? b = some o → h₃.get? b = some o) :
    StI c g Z f m cm (im' ++ im) mu' h₃ := by
  have hg : ∀ b o, h.get? b = some o → (∀ q ∈ mu, q.1 ≠ b) → (hideAll h (mu.map (·.1))).get? b = some o := fun b o e k =>
    hideAll_get _ e (fun q => by obtain ⟨p, hp, e⟩ := List.mem_map.mp q; exact k p hp e)
  have gl : ∀ b o, (hideAll h (mu.map (·.1))).get? b = some o → h₃.get? b = some o := fun b o e =>
    hs b o (by rintro rfl; rw [J.lg] at e; cases e) (J.keep b o e)
  have gz : ∀ b o, g.get? b = some o → (hideAll h (mu.map (·.1))).get? b = some o := fun b o e =>
    hg b o (I.keep b o e) (fun q hq e' => by subst e'; rw [(I.muh q hq).2.2.2.1] at e; cases e)
  have mz : ∀ q ∈ mu', ∀ b o, (hideAll h (mu.map (·.1))).get? b = some o → q.1 ≠ b := fun q hq b o e e' => by
    subst e'; rw [(J.muh q hq).2.2.2.1] at e; cases e
  have lo : ∀ b o, h.get? b = some o → (∀ q ∈ mu, q.1 ≠ b) → h₃.get? b = some o := fun b o e k => gl b o (hg b o e k)
  obtain ⟨oL, es, ep, hoL, rL⟩ := id I.ns
  have offL : ∀ q ∈ mu, q.1 ≠ f.env.locals := fun q hq => (I.muh q hq).2.1
  exact {
    base := I.base
    keep := fun b o e => gl b o (gz b o e)
    zin := fun z hz => by
      obtain ⟨⟨o, ho⟩, h1, _⟩ := J.zin z (List.mem_append_right _ hz)
      exact ⟨⟨o, hs _ _ h1 ho⟩, (I.zin z hz).2⟩
    ns := ⟨oL, es, ep, lo _ _ hoL offL, rL⟩
    lg := I.lg
    cell := fun a ha => by
      obtain ⟨⟨o, ho, hd⟩, h2⟩ := I.cell a ha
      exact ⟨⟨o, lo _ _ ho (fun q hq e => (I.muh q hq).2.2.1 (e ▸ ha)), hd⟩, h2⟩
    rc := I.rc
    cinj := I.cinj
    imh := fun q hq => by
      rcases List.mem_append.mp hq with hq | hq
      · obtain ⟨h1, h2, _, h4⟩ := J.imh q hq
        exact ⟨hs _ _ h2 h1, fun e => h4 (List.mem_append_left _ (e ▸ .head _)), fun e => h4 (List.mem_append_left _ (.tail _ e)), fun e => h4 (List.mem_append_right _ e)⟩
      · obtain ⟨h1, h2⟩ := I.imh q hq
        exact ⟨lo _ _ h1 (fun p hp => I.mi p hp q hq), h2⟩
    muh := fun q hq => by
      obtain ⟨h1, h2, _, h4, h5⟩ := J.muh q hq
      refine ⟨hs _ _ h2 h1, fun e => h5 (List.mem_append_left _ (e ▸ .head _)), fun e => h5 (List.mem_append_left _ (.tail _ e)), ?_, fun e => h5 (List.mem_append_right _ e)⟩
      cases e : g.get? q.1 with
      | none => rfl
      | some o => rw [gz _ _ e] at h4; cases h4
    mnd := J.mnd
    mi := fun q hq r hr => by
      rcases List.mem_append.mp hr with hr | hr
      · exact J.mi q hq r hr
      · exact mz q hq _ _ (hg _ _ (I.imh r hr).1 (fun p hp => I.mi p hp r hr)) }
theorem StI.rebase (I : StI c g Z f m cm im mu h) (gg : ∀ b o, g.get? b = some o → g'.get? b = some o) (gh : ∀ b o, g'.get? b = some o → h.get? b = some o)
    (h1 : g'.get? f.env.locals = none) (h2 : ∀ a ∈ f.oc, g'.get? a = none) (h3 : ∀ q ∈ mu, g'.get? q.1 = none) : StI c g' Z f m cm im mu h where
  base := I.base.keeps gg
  keep := gh
  zin := I.zin
  ns := I.ns
  lg := h1
  cell := fun a ha => ⟨(I.cell a ha).1, h2 a ha, (I.cell a ha).2.2⟩
  rc := fun q hq => let ⟨o, ho, hd⟩ := I.rc q hq; ⟨o, gg _ _ ho, hd⟩
  cinj := I.cinj
  imh := I.imh
  muh := fun q hq => ⟨(I.muh q hq).1, (I.muh q hq).2.1, (I.muh q hq).2.2.1, h3 q hq, (I.muh q hq).2.2.2.2⟩
  mnd := I.mnd
  mi := I.mi
theorem StI.unbase (b : Base c g) (rc : ∀ q ∈ f.rc, g.IsCell q.1 (some q.2)) (I : StI c g' Z f m cm im mu h) (gg : ∀ b o, g.get? b = some o → g'.get? b = some o) : StI c g Z f m cm im mu h := by
  have nn : ∀ a, g'.get? a = none → g.get? a = none := fun a e => by
    cases q : g.get? a with
    | none => rfl
    | some o => rw [gg _ _ q] at e; cases e
  exact {
    base := b
    keep := fun b o e => I.keep b o (gg b o e)
    zin := I.zin
    ns := I.ns
    lg := nn _ I.lg
    cell := fun a ha => ⟨(I.cell a ha).1, nn _ (I.cell a ha).2.1, (I.cell a ha).2.2⟩
    rc := rc
    cinj := I.cinj
    imh := I.imh
    muh := fun q hq => ⟨(I.muh q hq).1, (I.muh q hq).2.1, (I.muh q hq).2.2.1, nn _ (I.muh q hq).2.2.2.1, (I.muh q hq).2.2.2.2⟩
    mnd := I.mnd
    mi := I.mi }
theorem StI.moreZ {z : Addr} (I : StI c g Z f m cm im mu h) (hz : ∃ o, h.get? z = some o) (h1 : z ≠ f.env.locals) (h2 : z ∉ f.oc) (hK : c.K.lookup z = none) (h3 : ∀ q ∈ im, q.1 ≠ z) (h4 : ∀ q ∈ mu, q.1 ≠ z) : StI c g (z :: Z) f m cm im mu h := { I with
  zin := fun y hy => by
    rcases List.mem_cons.mp hy with rfl | hy
    · exact ⟨hz, h1, h2, hK⟩
    · exact I.zin y hy
  imh := fun q hq => ⟨(I.imh q hq).1, (I.imh q hq).2.1, (I.imh q hq).2.2.1, fun e => by
    rcases List.mem_cons.mp e with e | e
    · exact h3 q hq e
    · exact (I.imh q hq).2.2.2 e⟩
  muh := fun q hq => ⟨(I.muh q hq).1, (I.muh q hq).2.1, (I.muh q hq).2.2.1, (I.muh q hq).2.2.2.1, fun e => by
    rcases List.mem_cons.mp e with e | e
    · exact h4 q hq e
    · exact (I.muh q hq).2.2.2.2 e⟩ }
theorem StI.lessZ {z : Addr} (I : StI c g (z :: Z) f m cm im mu h) : StI c g Z f m cm im mu h := { I with
  zin := fun y hy => I.zin y (.tail _ hy)
  imh := fun q hq => ⟨(I.imh q hq).1, (I.imh q hq).2.1, (I.imh q hq).2.2.1, fun e => (I.imh q hq).2.2.2 (.tail _ e)⟩
  muh := fun q hq => ⟨(I.muh q hq).1, (I.muh q hq).2.1, (I.muh q hq).2.2.1, (I.muh q hq).2.2.2.1, fun e => (I.muh q hq).2.2.2.2 (.tail _ e)⟩ }
theorem StI.zDrop {z : Addr} (I : StI c g (z :: Z) f m cm im mu h) (hz : z ∉ Z) (hg : g.get? z = none) (hk : ∀ b o, b ≠ z → h.get? b = some o → h'.get? b = some o) : StI c g Z f m cm im mu h' := by
  have zl := (I.zin z (.head _)).2
  obtain ⟨oL, es, ep, hoL, rL⟩ := id I.ns
  exact {
    base := I.base
    keep := fun b o e => hk b o (by rintro rfl; rw [hg] at e; cases e) (I.keep b o e)
    zin := fun y hy => by
      have e : y ≠ z := by rintro rfl; exact hz hy
      obtain ⟨⟨o, ho⟩, r⟩ := I.zin y (.tail _ hy)
      exact ⟨⟨o, hk _ _ e ho⟩, r⟩
    ns := ⟨oL, es, ep, hk _ _ (Ne.symm zl.1) hoL, rL⟩
    lg := I.lg
    cell := fun a ha => by
      obtain ⟨⟨o, ho, hd⟩, r⟩ := I.cell a ha
      exact ⟨⟨o, hk _ _ (by rintro rfl; exact zl.2.1 ha) ho, hd⟩, r⟩
    rc := I.rc
    cinj := I.cinj
    imh := fun q hq => ⟨hk _ _ (fun e => (I.imh q hq).2.2.2 (e ▸ .head _)) (I.imh q hq).1, (I.imh q hq).2.1, (I.imh q hq).2.2.1, fun e => (I.imh q hq).2.2.2 (.tail _ e)⟩
    muh := fun q hq => ⟨hk _ _ (fun e => (I.muh q hq).2.2.2.2 (e ▸ .head _)) (I.muh q hq).1, (I.muh q hq).2.1, (I.muh q hq).2.2.1, (I.muh q hq).2.2.2.1, fun e => (I.muh q hq).2.2.2.2 (.tail _ e)⟩
    mnd := I.mnd
    mi := I.mi }
theorem StI.zChange {z : Addr} (I : StI c g Z f m cm im mu h) (hz : z ∈ Z) (hg : g.get? z = none) (hk : ∀ b o, b ≠ z → h.get? b = some o → h'.get? b = some o) (hz' : ∃ o, h'.get? z = some o) : StI c g Z f m cm im mu h' := by
  have zl := (I.zin z hz).2
  obtain ⟨oL, es, ep, hoL, rL⟩ := id I.ns
  exact {
    base := I.base
    keep := fun b o e => hk b o (by rintro rfl; rw [hg] at e; cases e) (I.keep b o e)
    zin := fun y hy => by
      by_cases e : y = z
      · subst e; exact ⟨hz', (I.zin _ hy).2⟩
      · obtain ⟨⟨o, ho⟩, r⟩ := I.zin y hy
        exact ⟨⟨o, hk _ _ e ho⟩, r⟩
    ns := ⟨oL, es, ep, hk _ _ (Ne.symm zl.1) hoL, rL⟩
    lg := I.lg
    cell := fun a ha => by
      obtain ⟨⟨o, ho, hd⟩, r⟩ := I.cell a ha
      exact ⟨⟨o, hk _ _ (by rintro rfl; exact zl.2.1 ha) ho, hd⟩, r⟩
    rc := I.rc
    cinj := I.cinj
    imh := fun q hq => ⟨hk _ _ (fun e => (I.imh q hq).2.2.2 (e ▸ hz)) (I.imh q hq).1, (I.imh q hq).2⟩
    muh := fun q hq => ⟨hk _ _ (fun e => (I.muh q hq).2.2.2.2 (e ▸ hz)) (I.muh q hq).1, (I.muh q hq).2⟩
    mnd := I.mnd
    mi := I.mi }
end
end Mine

namespace Mine

noncomputable def D.isNone : D → Bool
  | .none => true
  | _ => false
theorem Rep.isNone {P : Params} {im : Led} : ∀ {d : D} {v : Value}, Rep P im d v → (v == Value.none) = d.isNone
  | .none, _, h => by rw [h]; rfl
  | .bool _, _, h => by rw [h]; rfl
  | .int _, _, h => by obtain ⟨_, rfl⟩ := h; rfl
  | .str _, _, h => by obtain ⟨_, rfl⟩ := h; rfl
  | .list _, _, h => by obtain ⟨_, _, _, rfl, _⟩ := h; rfl
  | .tup _, _, h => by obtain ⟨_, _, _, rfl, _⟩ := h; rfl
  | .ref _, _, h => by rw [h]; rfl
  | .inst _ _, _, h => by obtain ⟨_, _, _, _, rfl, _⟩ := h; rfl
  | .slf _ _, _, h => by obtain ⟨_, rfl, _⟩ := h; rfl
  | .range _ _ _, _, h => by obtain ⟨_, _, _, _, rfl, _⟩ := h; rfl
noncomputable def Room (A : Around) (n : Nat) : Prop := A.handled = none ∧ A.depth + 3 * n ≤ 900 ∧ A.units + 50 * n ≤ 9000
theorem Room.deeper {A : Around} {n : Nat} {env : Env} (R : Room A (n + 1)) : Room (A.deeper env) n := ⟨R.1, by have := R.2.1; show A.depth + 1 + 3 * n ≤ 900; omega, by have := R.2.2; show A.units + 3 + 50 * n ≤ 9000; omega⟩
theorem Room.depth {A : Around} {n : Nat} (R : Room A n) : A.depth < recursionLimit := by have := R.2.1; show A.depth < 1000; omega
theorem Room.units {A : Around} {n : Nat} (R : Room A n) : A.units + 800 < cLine := by have := R.2.2; show A.units + 800 < 9900; omega
section
variable (c : Cx) (n : Nat) (f : Fm)
noncomputable def TW (t : Sem Value) (loc : Lc) (mt : Mt) (Φ : D → Mt → Prop) : Prop :=
  ∀ ⦃A : Around⦄ ⦃g : Heap⦄ ⦃Z : List Addr⦄ ⦃stk : List (D × Value)⦄ ⦃s : Shared⦄ ⦃Q E : Value → Shared → Prop⦄, Room A n → St c g Z f loc stk mt s.heap →
    (∀ d v mt' h' tk, Φ d mt' → St c g Z f loc ((d, v) :: stk) mt' h' → Q v { s with heap := h', toks := tk }) → wpAny (model c.prog c.w) A t Q E s
noncomputable def T1 (t : Value → Sem Value) (d₀ : D) (loc : Lc) (mt : Mt) (Φ : D → Mt → Prop) : Prop :=
  ∀ ⦃A : Around⦄ ⦃g : Heap⦄ ⦃Z : List Addr⦄ ⦃stk : List (D × Value)⦄ ⦃s : Shared⦄ ⦃Q E : Value → Shared → Prop⦄ ⦃u : Value⦄, Room A n → (d₀, u) ∈ stk → St c g Z f loc stk mt s.heap →
    (∀ d v mt' h' tk, Φ d mt' → St c g Z f loc ((d, v) :: stk) mt' h' → Q v { s with heap := h', toks := tk }) → wpAny (model c.prog c.w) A (t u) Q E s
noncomputable def T2 (t : Value → Value → Sem Value) (d₁ d₂ : D) (loc : Lc) (mt : Mt) (Φ : D → Mt → Prop) : Prop :=
  ∀ ⦃A : Around⦄ ⦃g : Heap⦄ ⦃Z : List Addr⦄ ⦃stk : List (D × Value)⦄ ⦃s : Shared⦄ ⦃Q E : Value → Shared → Prop⦄ ⦃u₁ u₂ : Value⦄, Room A n → (d₁, u₁) ∈ stk → (d₂, u₂) ∈ stk → St c g Z f loc stk mt s.heap →
    (∀ d v mt' h' tk, Φ d mt' → St c g Z f loc ((d, v) :: stk) mt' h' → Q v { s with heap := h', toks := tk }) → wpAny (model c.prog c.w) A (t u₁ u₂) Q E s
noncomputable def BW (t : Sem Bool) (loc : Lc) (mt : Mt) (Φ : Bool → Mt → Prop) : Prop :=
  ∀ ⦃A : Around⦄ ⦃g : Heap⦄ ⦃Z : List Addr⦄ ⦃stk : List (D × Value)⦄ ⦃s : Shared⦄ ⦃Q : Bool → Shared → Prop⦄ ⦃E : Value → Shared → Prop⦄, Room A n → St c g Z f loc stk mt s.heap →
    (∀ b mt' h' tk, Φ b mt' → St c g Z f loc stk mt' h' → Q b { s with heap := h', toks := tk }) → wpAny (model c.prog c.w) A t Q E s
noncomputable def B1 (t : Value → Sem Bool) (d₀ : D) (loc : Lc) (mt : Mt) (Φ : Bool → Mt → Prop) : Prop :=
  ∀ ⦃A : Around⦄ ⦃g : Heap⦄ ⦃Z : List Addr⦄ ⦃stk : List (D × Value)⦄ ⦃s : Shared⦄ ⦃Q : Bool → Shared → Prop⦄ ⦃E : Value → Shared → Prop⦄ ⦃u : Value⦄, Room A n → (d₀, u) ∈ stk → St c g Z f loc stk mt s.heap →
    (∀ b mt' h' tk, Φ b mt' → St c g Z f loc stk mt' h' → Q b { s with heap := h', toks := tk }) → wpAny (model c.prog c.w) A (t u) Q E s
noncomputable def AW (t : Sem (List Value)) (loc : Lc) (mt : Mt) (Φ : List D → Mt → Prop) : Prop :=
  ∀ ⦃A : Around⦄ ⦃g : Heap⦄ ⦃Z : List Addr⦄ ⦃stk : List (D × Value)⦄ ⦃s : Shared⦄ ⦃Q : List Value → Shared → Prop⦄ ⦃E : Value → Shared → Prop⦄, Room A n → St c g Z f loc stk mt s.heap →
    (∀ ds vs mt' h' tk, ds.length = vs.length → Φ ds mt' → St c g Z f loc (ds.zip vs ++ stk) mt' h' → Q vs { s with heap := h', toks := tk }) → wpAny (model c.prog c.w) A t Q E s
end
noncomputable def CallW (c : Cx) (n : Nat) (fv : Value) (ds : List D) (mt : Mt) (Φ : D → Mt → Prop) : Prop :=
  ∀ ⦃f : Fm⦄ ⦃loc : Lc⦄ ⦃A : Around⦄ ⦃g : Heap⦄ ⦃Z : List Addr⦄ ⦃stk : List (D × Value)⦄ ⦃s : Shared⦄ ⦃R : Result → Shared → Prop⦄ ⦃vs : List Value⦄, Room A n → ds.length = vs.length → (∀ q ∈ ds.zip vs, q ∈ stk) → St c g Z f loc stk mt s.heap →
    (∀ d v mt' h' tk, Φ d mt' → St c g Z f loc ((d, v) :: stk) mt' h' → R (.ok (.ret v)) { s with heap := h', toks := tk }) → codeAny (model c.prog c.w) A (.call fv ⟨vs, []⟩) R s
inductive Fl where
  | next | brk | cont
  | ret (d : D)
noncomputable def FlIs : Fl → Flow → List (D × Value) → Prop
  | .next, w, l => w = .next ∧ l = []
  | .brk, w, l => w = .brk ∧ l = []
  | .cont, w, l => w = .cont ∧ l = []
  | .ret d, w, l => ∃ v, w = .ret v ∧ l = [(d, v)]
noncomputable def ExW (c : Cx) (n : Nat) (f : Fm) (t : Sem Flow) (loc : Lc) (mt : Mt) (Φ : Fl → Lc → Mt → Prop) : Prop :=
  ∀ ⦃A : Around⦄ ⦃g : Heap⦄ ⦃Z : List Addr⦄ ⦃stk : List (D × Value)⦄ ⦃s : Shared⦄ ⦃Q : Flow → Shared → Prop⦄ ⦃E : Value → Shared → Prop⦄, Room A n → St c g Z f loc stk mt s.heap →
    (∀ fl w l loc' mt' h' tk, Φ fl loc' mt' → FlIs fl w l → St c g Z f loc' (l ++ stk) mt' h' → Q w { s with heap := h', toks := tk }) → wpAny (model c.prog c.w) A t Q E s
noncomputable def AsW (c : Cx) (n : Nat) (f : Fm) (t : Value → Sem Unit) (d₀ : D) (loc : Lc) (mt : Mt) (Φ : Lc → Mt → Prop) : Prop :=
  ∀ ⦃A : Around⦄ ⦃g : Heap⦄ ⦃Z : List Addr⦄ ⦃stk : List (D × Value)⦄ ⦃s : Shared⦄ ⦃Q : Unit → Shared → Prop⦄ ⦃E : Value → Shared → Prop⦄ ⦃u : Value⦄, Room A n → (d₀, u) ∈ stk → St c g Z f loc stk mt s.heap →
    (∀ loc' mt' h' tk, Φ loc' mt' → St c g Z f loc' stk mt' h' → Q () { s with heap := h', toks := tk }) → wpAny (model c.prog c.w) A (t u) Q E s
section
variable {c : Cx} {n : Nat} {f : Fm} {g : Heap} {Z : List Addr} {loc loc' : Lc} {stk stk' : List (D × Value)} {mt mt' : Mt} {h h' : Heap}
theorem St.add (H : St c g Z f loc stk mt h) {d : D} {v : Value} (hr : ∀ im, Rep c.P im d v) : St c g Z f loc ((d, v) :: stk) mt h := by
  obtain ⟨nd, m, cm, im, mu, I, hl, hk, hm⟩ := H
  refine ⟨nd, m, cm, im, mu, I, hl, fun q hq => ?_, hm⟩
  rcases List.mem_cons.mp hq with rfl | hq
  · exact hr im
  · exact hk q hq
theorem St.int (H : St c g Z f loc stk mt h) (i : Int) (t : Tok) : St c g Z f loc ((.int i, .int i t) :: stk) mt h := H.add fun _ => ⟨t, rfl⟩
theorem St.bool (H : St c g Z f loc stk mt h) (b : Bool) : St c g Z f loc ((.bool b, .bool b) :: stk) mt h := H.add fun _ => rfl
theorem St.none (H : St c g Z f loc stk mt h) : St c g Z f loc ((.none, .none) :: stk) mt h := H.add fun _ => rfl
theorem St.str (H : St c g Z f loc stk mt h) (x : PySem.Str) (t : Tok) : St c g Z f loc ((.str x, .str x t) :: stk) mt h := H.add fun _ => ⟨t, rfl⟩
theorem St.isInt {i : Int} {v : Value} (H : St c g Z f loc stk mt h) (hv : (D.int i, v) ∈ stk) : ∃ t, v = .int i t := by
  obtain ⟨nd, m, cm, im, mu, I, hl, hk, hm⟩ := H
  exact hk _ hv
theorem St.isBool {b : Bool} {v : Value} (H : St c g Z f loc stk mt h) (hv : (D.bool b, v) ∈ stk) : v = .bool b := by
  obtain ⟨nd, m, cm, im, mu, I, hl, hk, hm⟩ := H
  exact hk _ hv
theorem St.isNone {v : Value} (H : St c g Z f loc stk mt h) (hv : (D.none, v) ∈ stk) : v = .none := by
  obtain ⟨nd, m, cm, im, mu, I, hl, hk, hm⟩ := H
  exact hk _ hv
theorem St.isRef {a : Addr} {v : Value} (H : St c g Z f loc stk mt h) (hv : (D.ref a, v) ∈ stk) : v = .ref a := by
  obtain ⟨nd, m, cm, im, mu, I, hl, hk, hm⟩ := H
  exact hk _ hv
theorem St.pop {q r : D × Value} (H : St c g Z f loc (q :: r :: stk) mt h) : St c g Z f loc (q :: stk) mt h := H.sub fun p hp => by
  rcases List.mem_cons.mp hp with rfl | hp
  · exact .head _
  · exact .tail _ (.tail _ hp)
theorem St.tl {q : D × Value} (H : St c g Z f loc (q :: stk) mt h) : St c g Z f loc stk mt h := H.sub fun _ hp => .tail _ hp
theorem TW.name {x : PySem.Str} {d : D} {pos : Pos} {Φ : D → Mt → Prop} (hk : f.env.scope.kind = .function) (hx : (x, d) ∈ loc) (h : Φ d mt) : TW c n f (eval (.Name x pos) f.env) loc mt Φ := by
  intro A g Z stk s Q E R H k
  obtain ⟨nd, m, cm, im, mu, I, hl, hs, hm⟩ := id H
  obtain ⟨hd, v, hv, hr⟩ := hl _ hx
  refine wpAny_Name (I.load hk hv (k d v mt s.heap s.toks h ⟨nd, m, cm, im, mu, I, hl, fun q hq => ?_, hm⟩)) hd
  rcases List.mem_cons.mp hq with rfl | hq
  · exact hr
  · exact hs q hq
theorem TW.int {i : Int} {kk : Nat} {pos : Pos} {Φ : D → Mt → Prop} (h : Φ (.int i) mt) : TW c n f (eval (.Constant (.int i) kk pos) f.env) loc mt Φ :=
  fun _ _ _ _ s _ _ _ H k => wpAny_Constant_int (k _ _ _ s.heap _ h (H.int _ _))
theorem TW.none {kk : Nat} {pos : Pos} {Φ : D → Mt → Prop} (h : Φ .none mt) : TW c n f (eval (.Constant .none kk pos) f.env) loc mt Φ :=
  fun _ _ _ _ s _ _ _ H k => wpAny_Constant_none (k _ _ _ s.heap s.toks h H.none)
theorem TW.bool {b : Bool} {kk : Nat} {pos : Pos} {Φ : D → Mt → Prop} (h : Φ (.bool b) mt) : TW c n f (eval (.Constant (.bool b) kk pos) f.env) loc mt Φ :=
  fun _ _ _ _ s _ _ _ H k => wpAny_Constant_bool (k _ _ _ s.heap s.toks h (H.bool b))
theorem TW.str {x : PySem.Str} {kk : Nat} {pos : Pos} {Φ : D → Mt → Prop} (h : Φ (.str x) mt) : TW c n f (eval (.Constant (.str x) kk pos) f.env) loc mt Φ :=
  fun _ _ _ _ s _ _ _ H k => wpAny_Constant_str (k _ _ _ s.heap _ h (H.str _ _))
theorem TW.mono {t : Sem Value} {Φ Ψ : D → Mt → Prop} (h : TW c n f t loc mt Φ) (hs : ∀ d mt, Φ d mt → Ψ d mt) : TW c n f t loc mt Ψ :=
  fun _ _ _ _ _ _ _ R H k => h R H fun d v mt' h' tk p H' => k d v mt' h' tk (hs _ _ p) H'
theorem TW.binop {l r : PySem.Expr} {op : Operator} {pos : Pos} {Φ : D → Mt → Prop}
    (h : TW c n f (eval l f.env) loc mt (fun d₁ mt₁ => TW c n f (eval r f.env) loc mt₁ (fun d₂ mt₂ => T2 c n f (binaryOp op) d₁ d₂ loc mt₂ Φ))) : TW c n f (eval (.BinOp l op r pos) f.env) loc mt Φ := by
  intro A g Z stk s Q E R H k
  refine wpAny_BinOp (h R H fun d₁ v₁ mt₁ h₁ tk₁ p₁ H₁ => p₁ R H₁ fun d₂ v₂ mt₂ h₂ tk₂ p₂ H₂ => p₂ R (.tail _ (.head _)) (.head _) H₂ fun d v mt' h' tk p H' => ?_)
  exact k d v mt' h' tk p H'.pop.pop
theorem TW.unop {x : PySem.Expr} {op : UnaryOp} {pos : Pos} {Φ : D → Mt → Prop} (h : TW c n f (eval x f.env) loc mt (fun d mt₁ => T1 c n f (unaryOp op) d loc mt₁ Φ)) : TW c n f (eval (.UnaryOp op x pos) f.env) loc mt Φ := by
  intro A g Z stk s Q E R H k
  exact wpAny_UnaryOp (h R H fun d₁ v₁ mt₁ h₁ tk₁ p₁ H₁ => p₁ R (.head _) H₁ fun d v mt' h' tk p H' => k d v mt' h' tk p H'.pop)
theorem TW.compare {l r : PySem.Expr} {op : CmpOp} {pos : Pos} {Φ : D → Mt → Prop}
    (h : TW c n f (eval l f.env) loc mt (fun d₁ mt₁ => TW c n f (eval r f.env) loc mt₁ (fun d₂ mt₂ => T2 c n f (compareOp op) d₁ d₂ loc mt₂ Φ)))
    (hm : behindInMarks op r = false := by with_unfolding_all rfl) : TW c n f (eval (.Compare l [op] [r] pos) f.env) loc mt Φ := by
  intro A g Z stk s Q E R H k
  refine wpAny_Compare1 (h R H fun d₁ v₁ mt₁ h₁ tk₁ p₁ H₁ => p₁ R H₁ fun d₂ v₂ mt₂ h₂ tk₂ p₂ H₂ => p₂ R (.tail _ (.head _)) (.head _) H₂ fun d v mt' h' tk p H' => ?_) hm
  exact k d v mt' h' tk p H'.pop.pop
section
variable {a b : Int} {Φ : D → Mt → Prop}
theorem T2.add (h : Φ (.int (a + b)) mt) : T2 c n f (binaryOp .Add) (.int a) (.int b) loc mt Φ := by
  intro A g Z stk s Q E u₁ u₂ R h₁ h₂ H k
  obtain ⟨t, rfl⟩ := H.isInt h₁; obtain ⟨u, rfl⟩ := H.isInt h₂
  exact PyProof.Rows.add_int (k _ _ _ s.heap _ h (H.int _ _))
theorem T2.iadd (h : Φ (.int (a + b)) mt) : T2 c n f (inplaceOp .Add) (.int a) (.int b) loc mt Φ := by
  intro A g Z stk s Q E u₁ u₂ R h₁ h₂ H k
  obtain ⟨t, rfl⟩ := H.isInt h₁; obtain ⟨u, rfl⟩ := H.isInt h₂
  exact PyProof.Rows.iadd_int (k _ _ _ s.heap _ h (H.int _ _))
theorem T2.sub (h : Φ (.int (a - b)) mt) : T2 c n f (binaryOp .Sub) (.int a) (.int b) loc mt Φ := by
  intro A g Z stk s Q E u₁ u₂ R h₁ h₂ H k
  obtain ⟨t, rfl⟩ := H.isInt h₁; obtain ⟨u, rfl⟩ := H.isInt h₂
  exact PyProof.Rows.sub_int (k _ _ _ s.heap _ h (H.int _ _))
theorem T2.mul (hm : IntMulOk a b) (h : Φ (.int (a * b)) mt) : T2 c n f (binaryOp .Mult) (.int a) (.int b) loc mt Φ := by
  intro A g Z stk s Q E u₁ u₂ R h₁ h₂ H k
  obtain ⟨t, rfl⟩ := H.isInt h₁; obtain ⟨u, rfl⟩ := H.isInt h₂
  exact PyProof.Rows.mul_int (k _ _ _ s.heap _ h (H.int _ _)) hm
theorem T2.mod (hb : b ≠ 0) (h : Φ (.int (a.fmod b)) mt) : T2 c n f (binaryOp .Mod) (.int a) (.int b) loc mt Φ := by
  intro A g Z stk s Q E u₁ u₂ R h₁ h₂ H k
  obtain ⟨t, rfl⟩ := H.isInt h₁; obtain ⟨u, rfl⟩ := H.isInt h₂
  exact mod_int' hb (k _ _ _ s.heap _ h (H.int _ _))
theorem T2.fdiv (hb : b ≠ 0) (hp : Builtin.divisionGoesByPylong a b = false) (h : Φ (.int (a.fdiv b)) mt) : T2 c n f (binaryOp .FloorDiv) (.int a) (.int b) loc mt Φ := by
  intro A g Z stk s Q E u₁ u₂ R h₁ h₂ H k
  obtain ⟨t, rfl⟩ := H.isInt h₁; obtain ⟨u, rfl⟩ := H.isInt h₂
  exact floordiv_int hb (k _ _ _ s.heap _ h (H.int _ _)) (.inl hp)
theorem T2.shl (hb : 0 ≤ b) (hs : (Builtin.Int.intBits a : Int) + b ≤ 2 ^ 27) (h : Φ (.int (a * 2 ^ b.toNat)) mt) : T2 c n f (binaryOp .LShift) (.int a) (.int b) loc mt Φ := by
  intro A g Z stk s Q E u₁ u₂ R h₁ h₂ H k
  obtain ⟨t, rfl⟩ := H.isInt h₁; obtain ⟨u, rfl⟩ := H.isInt h₂
  exact lshift_int_or R.1 (fun hn => absurd hb (by omega)) (fun _ => hs) fun _ => k _ _ _ s.heap _ h (H.int _ _)
theorem T2.eq (h : Φ (.bool (a == b)) mt) : T2 c n f (compareOp .Eq) (.int a) (.int b) loc mt Φ := by
  intro A g Z stk s Q E u₁ u₂ R h₁ h₂ H k
  obtain ⟨t, rfl⟩ := H.isInt h₁; obtain ⟨u, rfl⟩ := H.isInt h₂
  exact PyProof.Rows.eq_int (k _ _ _ s.heap s.toks h (H.bool _))
theorem T2.ne (h : Φ (.bool (a != b)) mt) : T2 c n f (compareOp .NotEq) (.int a) (.int b) loc mt Φ := by
  intro A g Z stk s Q E u₁ u₂ R h₁ h₂ H k
  obtain ⟨t, rfl⟩ := H.isInt h₁; obtain ⟨u, rfl⟩ := H.isInt h₂
  exact PyProof.Rows.ne_int (k _ _ _ s.heap s.toks h (H.bool _))
theorem T2.lt (h : Φ (.bool (decide (a < b))) mt) : T2 c n f (compareOp .Lt) (.int a) (.int b) loc mt Φ := by
  intro A g Z stk s Q E u₁ u₂ R h₁ h₂ H k
  obtain ⟨t, rfl⟩ := H.isInt h₁; obtain ⟨u, rfl⟩ := H.isInt h₂
  exact PyProof.Rows.lt_int (k _ _ _ s.heap s.toks h (H.bool _))
theorem T2.gt (h : Φ (.bool (decide (b < a))) mt) : T2 c n f (compareOp .Gt) (.int a) (.int b) loc mt Φ := by
  intro A g Z stk s Q E u₁ u₂ R h₁ h₂ H k
  obtain ⟨t, rfl⟩ := H.isInt h₁; obtain ⟨u, rfl⟩ := H.isInt h₂
  exact PyProof.Rows.gt_int (k _ _ _ s.heap s.toks h (H.bool _))
end
theorem BW.plain {e : PySem.Expr} {Φ : Bool → Mt → Prop} (h : TW c n f (eval e f.env) loc mt (fun d mt₁ => B1 c n f truthy d loc mt₁ Φ))
    (he : isTrue e f.env (eval e f.env) = (do let v ← eval e f.env; standAt e.pos; holding [v] (truthy v)) := by rfl) : BW c n f (isTrue e f.env (eval e f.env)) loc mt Φ := by
  intro A g Z stk s Q E R H k
  exact isTrue_plain (h R H fun d v mt₁ h₁ tk₁ p₁ H₁ => p₁ R (.head _) H₁ fun b mt' h' tk p H' => k b mt' h' tk p H'.tl) he
theorem B1.bool {b : Bool} {Φ : Bool → Mt → Prop} (h : Φ b mt) : B1 c n f truthy (.bool b) loc mt Φ := by
  intro A g Z stk s Q E u R hu H k
  rw [H.isBool hu]
  exact wpAny_truthy_bool (k b mt s.heap s.toks h H)
theorem BW.compare {l r : PySem.Expr} {op : CmpOp} {pos : Pos} {whole : Sem Value} {Φ : Bool → Mt → Prop}
    (h : TW c n f (eval l f.env) loc mt (fun d₁ mt₁ => TW c n f (eval r f.env) loc mt₁ (fun d₂ mt₂ => T2 c n f (compareOp op) d₁ d₂ loc mt₂ (fun d mt₃ => B1 c n f truthy d loc mt₃ Φ))))
    (hm : behindInMarks op r = false := by with_unfolding_all rfl) : BW c n f (isTrue (.Compare l [op] [r] pos) f.env whole) loc mt Φ := by
  intro A g Z stk s Q E R H k
  refine wpAny_isTrue_Compare1 (h R H fun d₁ v₁ mt₁ h₁ tk₁ p₁ H₁ => p₁ R H₁ fun d₂ v₂ mt₂ h₂ tk₂ p₂ H₂ => p₂ R (.tail _ (.head _)) (.head _) H₂ fun d v mt₃ h₃ tk₃ p₃ H₃ => p₃ R (.head _) H₃ fun b mt' h' tk p H' => ?_) hm
  exact k b mt' h' tk p H'.tl.tl.tl
theorem BW.not {x : PySem.Expr} {pos : Pos} {whole : Sem Value} {Φ : Bool → Mt → Prop} (h : BW c n f (isTrue x f.env (eval x f.env)) loc mt (fun b mt₁ => Φ (!b) mt₁)) : BW c n f (isTrue (.UnaryOp .Not x pos) f.env whole) loc mt Φ := by
  intro A g Z stk s Q E R H k
  exact isTrue_not (h R H fun b mt' h' tk p H' => k _ mt' h' tk p H')
theorem BW.and_nil {pos : Pos} {whole : Sem Value} {Φ : Bool → Mt → Prop} (h : Φ true mt) : BW c n f (isTrue (.BoolOp .And [] pos) f.env whole) loc mt Φ :=
  fun _ _ _ _ s _ _ _ H k => isTrue_and_nil (k _ _ s.heap s.toks h H)
theorem BW.or_nil {pos : Pos} {whole : Sem Value} {Φ : Bool → Mt → Prop} (h : Φ false mt) : BW c n f (isTrue (.BoolOp .Or [] pos) f.env whole) loc mt Φ :=
  fun _ _ _ _ s _ _ _ H k => isTrue_or_nil (k _ _ s.heap s.toks h H)
theorem BW.and {x : PySem.Expr} {rest : List PySem.Expr} {pos : Pos} {whole : Sem Value} {Φ : Bool → Mt → Prop}
    (h : BW c n f (isTrue x f.env (eval x f.env)) loc mt (fun b mt₁ => (b = true → BW c n f (isTrue (.BoolOp .And rest pos) f.env whole) loc mt₁ Φ) ∧ (b = false → Φ false mt₁))) : BW c n f (isTrue (.BoolOp .And (x :: rest) pos) f.env whole) loc mt Φ := by
  intro A g Z stk s Q E R H k
  refine isTrue_and (h R H fun b mt' h' tk p H' => ?_)
  cases b with
  | true => exact p.1 rfl R H' k
  | false => exact k _ mt' h' tk (p.2 rfl) H'
theorem BW.or {x : PySem.Expr} {rest : List PySem.Expr} {pos : Pos} {whole : Sem Value} {Φ : Bool → Mt → Prop}
    (h : BW c n f (isTrue x f.env (eval x f.env)) loc mt (fun b mt₁ => (b = true → Φ true mt₁) ∧ (b = false → BW c n f (isTrue (.BoolOp .Or rest pos) f.env whole) loc mt₁ Φ))) : BW c n f (isTrue (.BoolOp .Or (x :: rest) pos) f.env whole) loc mt Φ := by
  intro A g Z stk s Q E R H k
  refine isTrue_or (h R H fun b mt' h' tk p H' => ?_)
  cases b with
  | true => exact k _ mt' h' tk (p.1 rfl) H'
  | false => exact p.2 rfl R H' k
theorem TW.ifexp {t b o : PySem.Expr} {pos : Pos} {Φ : D → Mt → Prop}
    (h : BW c n f (isTrue t f.env (eval t f.env)) loc mt (fun x mt₁ => (x = true → TW c n f (eval b f.env) loc mt₁ Φ) ∧ (x = false → TW c n f (eval o f.env) loc mt₁ Φ))) : TW c n f (eval (.IfExp t b o pos) f.env) loc mt Φ := by
  intro A g Z stk s Q E R H k
  refine wpAny_IfExp (h R H fun x mt' h' tk p H' => ?_)
  cases x with
  | true => exact p.1 rfl R H' k
  | false => exact p.2 rfl R H' k
theorem TW.and {e₁ e₂ : PySem.Expr} {rest : List PySem.Expr} {pos : Pos} {Φ : D → Mt → Prop}
    (h : TW c n f (eval e₁ f.env) loc mt (fun d mt₁ => ∃ b, d = .bool b ∧ (b = true → TW c n f (eval (.BoolOp .And (e₂ :: rest) pos) f.env) loc mt₁ Φ) ∧ (b = false → Φ (.bool false) mt₁))) :
    TW c n f (eval (.BoolOp .And (e₁ :: e₂ :: rest) pos) f.env) loc mt Φ := by
  intro A g Z stk s Q E R H k
  refine BoolOp_and (h R H fun d v mt₁ h₁ tk₁ p₁ H₁ => ?_)
  obtain ⟨b, rfl, hT, hF⟩ := p₁
  have e := H₁.isBool (.head _)
  subst e
  cases b with
  | true => exact wpAny_truthy_bool (hT rfl R H₁.tl k)
  | false => exact wpAny_truthy_bool (k _ _ _ _ _ (hF rfl) H₁)
theorem TW.and_one {op : BoolOp} {e : PySem.Expr} {pos : Pos} {Φ : D → Mt → Prop} (h : TW c n f (eval e f.env) loc mt Φ) : TW c n f (eval (.BoolOp op [e] pos) f.env) loc mt Φ :=
  fun _ _ _ _ _ _ _ R H k => BoolOp_one (h R H k)
theorem TW.not {x : PySem.Expr} {pos : Pos} {Φ : D → Mt → Prop} (h : TW c n f (eval x f.env) loc mt (fun d mt₁ => B1 c n f truthy d loc mt₁ (fun b mt₂ => Φ (.bool (!b)) mt₂))) : TW c n f (eval (.UnaryOp .Not x pos) f.env) loc mt Φ := by
  intro A g Z stk s Q E R H k
  refine wpAny_UnaryOp (h R H fun d v mt₁ h₁ tk₁ p₁ H₁ => not_of (p₁ R (.head _) H₁ fun b mt' h' tk p H' => k _ _ mt' h' tk p (H'.tl.bool _)))
theorem T1.neg {a : Int} {Φ : D → Mt → Prop} (h : Φ (.int (-a)) mt) : T1 c n f (unaryOp .USub) (.int a) loc mt Φ := by
  intro A g Z stk s Q E u R hu H k
  obtain ⟨t, rfl⟩ := H.isInt hu
  exact neg_int (k _ _ _ s.heap _ h (H.int _ _))
theorem T2.isNone {d : D} {Φ : D → Mt → Prop} (h : Φ (.bool d.isNone) mt) : T2 c n f (compareOp .Is) d .none loc mt Φ := by
  intro A g Z stk s Q E u₁ u₂ R h₁ h₂ H k
  rw [H.isNone h₂]
  obtain ⟨nd, m, cm, im, mu, I, hl, hs, hm⟩ := id H
  refine PySem.is_none ?_
  rw [(hs _ h₁).isNone]
  exact k _ _ _ s.heap s.toks h (H.bool _)
end
end Mine

namespace Mine

structure GF (f : Fm) (S : Scope) : Prop where
  kind : f.env.scope.kind = .function
  glob : f.env.globals = mainGlobals
  blt : f.env.builtins = builtinsNs
  gi : ∀ x, S.names.lookup x = some .globalImplicit → f.env.kindOf x = some .globalImplicit
  loc : ∀ x, S.names.lookup x = some .local → f.env.kindOf x = some .local
  cell : ∀ x, S.names.lookup x = some .cell → f.env.kindOf x = some .cell
  own : ∀ x, S.names.lookup x = some .cell → ∃ a, a ∈ f.oc ∧ f.env.cells.lookup x = some a
  cl : ∀ x, S.names.lookup x = some .cell ∨ S.names.lookup x = some .free → (f.env.kindOf x = some .cell ∨ f.env.kindOf x = some .free) ∧ ∃ a, f.env.cells.lookup x = some a
noncomputable def Fl.val : Fl → D
  | .ret d => d
  | _ => .none
noncomputable def RetW (fl : Fl) (mt : Mt) (Φ : D → Mt → Prop) : Prop := ∃ mt', List.Sublist mt' mt ∧ Φ fl.val mt'
theorem bindL_none {kindOf : PySem.Str → Option NameKind} {x : PySem.Str} : ∀ {bs : List (PySem.Str × Value)} {m : PySem.Str → Option Value}, x ∉ bs.map (·.1) → bindL kindOf bs m x = m x
  | [], _, _ => rfl
  | (n, v) :: r, m, h => by
    have h1 : x ≠ n := fun e => h (by rw [e]; exact .head _)
    unfold bindL
    rw [bindL_none (fun e => h (.tail _ e))]
    split
    · simp [h1]
    · rfl
theorem bindL_some {kindOf : PySem.Str → Option NameKind} {x : PySem.Str} {v : Value} (hk : kindOf x = some .local) : ∀ {bs : List (PySem.Str × Value)} {m : PySem.Str → Option Value}, (bs.map (·.1)).Nodup → (x, v) ∈ bs → bindL kindOf bs m x = some v
  | (n, u) :: r, m, nd, hm => by
    have nd' := List.nodup_cons.mp nd
    unfold bindL
    rcases List.mem_cons.mp hm with e | hm
    · cases e
      rw [bindL_none nd'.1, if_pos hk]
      simp
    · exact bindL_some hk nd'.2 hm
theorem bindC_none {kindOf : PySem.Str → Option NameKind} {x : PySem.Str} : ∀ {bs : List (PySem.Str × Value)} {m : PySem.Str → Option Value}, x ∉ bs.map (·.1) → bindC kindOf bs m x = m x
  | [], _, _ => rfl
  | (n, v) :: r, m, h => by
    have h1 : x ≠ n := fun e => h (by rw [e]; exact .head _)
    unfold bindC
    rw [bindC_none (fun e => h (.tail _ e))]
    split
    · rfl
    · simp [h1]
theorem bindC_some {kindOf : PySem.Str → Option NameKind} {x : PySem.Str} {v : Value} (hk : kindOf x ≠ some .local) : ∀ {bs : List (PySem.Str × Value)} {m : PySem.Str → Option Value}, (bs.map (·.1)).Nodup → (x, v) ∈ bs → bindC kindOf bs m x = some v
  | (n, u) :: r, m, nd, hm => by
    have nd' := List.nodup_cons.mp nd
    unfold bindC
    rcases List.mem_cons.mp hm with e | hm
    · cases e
      rw [bindC_none nd'.1, if_neg hk]
      simp
    · exact bindC_some hk nd'.2 hm
theorem zip_names {α : Type} : ∀ {xs : List PySem.Str} {vs : List α}, xs.length = vs.length → (xs.zip vs).map (·.1) = xs
  | [], [], _ => rfl
  | x :: xs, v :: vs, h => by simp [zip_names (xs := xs) (vs := vs) (by simpa using h)]
theorem zip_three {α β : Type} {xs : List PySem.Str} {ds : List α} {vs : List β} {x : PySem.Str} {d : α} (hl : ds.length = vs.length) (hm : (x, d) ∈ xs.zip ds) : ∃ v, (x, v) ∈ xs.zip vs ∧ (d, v) ∈ ds.zip vs := by
  induction xs generalizing ds vs with
  | nil => cases hm
  | cons y xs ih =>
    cases ds with
    | nil => cases hm
    | cons e ds =>
      cases vs with
      | nil => cases hl
      | cons v vs =>
        rcases List.mem_cons.mp hm with h | h
        · cases h; exact ⟨v, .head _, .head _⟩
        · obtain ⟨u, h1, h2⟩ := ih (Nat.succ.inj hl) h
          exact ⟨u, .tail _ h1, .tail _ h2⟩
section
variable {c : Cx} {n : Nat} {mt : Mt} {Φ : D → Mt → Prop} {ds : List D}
theorem CallW.mono {fv : Value} {Ψ : D → Mt → Prop} (h : CallW c n fv ds mt Φ) (hs : ∀ d mt, Φ d mt → Ψ d mt) : CallW c n fv ds mt Ψ :=
  fun _ _ _ _ _ _ _ _ _ R hl hz H k => h R hl hz H fun d v mt' h' tk p H' => k d v mt' h' tk (hs _ _ p) H'
theorem CallW.enter {fa : Addr} {name qual : PySem.Str} {params : Arguments} {body : List Stmt} {scope : Scope} {dV kV doc pm cdv ct oc : Value} {an od : Option Addr} {osl : Array (Option Value)} (xs : List PySem.Str)
    (ho : c.K.lookup fa = some ⟨oc, od, .func (fnOf name qual params body scope dV kV doc pm an cdv ct), osl⟩) (hcd : codeIn c.K cdv qual = true)
    (hbind : ∀ vs : List Value, vs.length = xs.length → bindArgs (fnOf name qual params body scope dV kV doc pm an cdv ct) ⟨vs, []⟩ = pure (xs.zip vs))
    (hx : xs.length = ds.length) (hnd : xs.Nodup) (hkind : (xs.all fun y => (scope.names.lookup y == some .local || scope.names.lookup y == some .cell) && !(y == ("__debug__" : PySem.Str))) = true)
    (hcn : ((cellsFrom 0 scope.names []).map (·.1)).Nodup) (hfr : (scope.names.all fun q => !(q.2 == .free)) = true)
    (h : ∀ f, GF f scope → ExW c n f (execs body f.env) (xs.zip ds) mt (fun fl _ mt' => RetW fl mt' Φ))
    (hco : scope.isCoroutine = false := by rfl) (hgen : scope.isGenerator = false := by rfl) (hk : scope.kind = .function := by rfl) : CallW c (n + 1) (.ref fa) ds mt Φ := by
  intro f loc A g Z stk s R vs Rm hl hz H k
  obtain ⟨nd, m, cm, im, mu, I, hloc, hs, hm⟩ := H
  have bs := I.base.keeps I.keep
  have xv : xs.length = vs.length := hx.trans hl
  have names : ((xs.zip vs).map (·.1)) = xs := zip_names xv
  have hall : ∀ y ∈ xs, (scope.names.lookup y = some .local ∨ scope.names.lookup y = some .cell) ∧ (y == ("__debug__" : PySem.Str)) = false := fun y hy => by
    have := List.all_eq_true.mp hkind y hy
    simpa using this
  have cs : ∀ N x, scope.names.lookup x = some .cell → ((cellsFrom N scope.names []).lookup x).isSome = true := fun N x e => cellsFrom_some _ _ _ (.inl e)
  refine codeAny_call_cells (fd := fnOf name qual params body scope dV kV doc pm an cdv ct) (body := body) (binds := xs.zip vs) Rm.depth (bs.k _ _ ho) rfl bs.t.nolimit (codeRec_of bs.k hcd) rfl (hbind vs xv.symm) rfl
    (fun x hx' => ?_) (fun s₁ x => ?_) hco hgen hk
  · have hy : x.1 ∈ xs := names ▸ List.mem_map_of_mem hx'
    rcases (hall _ hy).1 with e | e
    · exact .inl e
    · exact .inr ⟨e, cs _ _ e⟩
  · obtain ⟨h₁, tk₁, rfl⟩ := x.toInCall.same
    have kp := x.toInCall.keep
    generalize hE : callEnvC (fnOf name qual params body scope dV kV doc pm an cdv ct) s.heap.objs.size fa = env' at x ⊢
    have eScope : env'.scope = scope := by rw [← hE]; rfl
    have eGlob : env'.globals = mainGlobals := by rw [← hE]; rfl
    have eBlt : env'.builtins = builtinsNs := by rw [← hE]; rfl
    have eLoc : env'.locals = s.heap.objs.size := by rw [← hE]; rfl
    have eCells : env'.cells = cellsFrom (s.heap.objs.size + 1) scope.names [] := by rw [← hE]; rfl
    have eKind : ∀ y, env'.kindOf y = scope.names.lookup y := fun y => by show env'.scope.names.lookup y = _; rw [eScope]
    have cnd : (env'.cells.map (·.1)).Nodup := by rw [eCells]; exact cellsFrom_names scope.names 0 (s.heap.objs.size + 1) [] [] rfl ▸ hcn
    have look : ∀ y a, (y, a) ∈ env'.cells → env'.cells.lookup y = some a := fun y a hm => lookup_of_mem_nodup cnd hm
    let f' : Fm := ⟨env', env'.cells.map (·.2), []⟩
    have inOc : ∀ y a, env'.cells.lookup y = some a → a ∈ f'.oc := fun y a e => List.mem_map_of_mem (f := (·.2)) (mem_of_lookup e)
    have G : GF f' scope := {
      kind := by show env'.scope.kind = _; rw [eScope]; exact hk
      glob := eGlob
      blt := eBlt
      gi := fun y e => (eKind y).trans e
      loc := fun y e => (eKind y).trans e
      cell := fun y e => (eKind y).trans e
      own := fun y e => by
        obtain ⟨a, ha⟩ := Option.isSome_iff_exists.mp (cs (s.heap.objs.size + 1) y e)
        rw [← eCells] at ha
        exact ⟨a, inOc _ _ ha, ha⟩
      cl := fun y e => by
        rcases e with e | e
        · obtain ⟨a, ha⟩ := Option.isSome_iff_exists.mp (cs (s.heap.objs.size + 1) y e)
          rw [← eCells] at ha
          exact ⟨.inl ((eKind y).trans e), a, ha⟩
        · exfalso
          have := List.all_eq_true.mp hfr _ (mem_of_lookup e)
          simp at this }
    have cval : ∀ y a, (y, a) ∈ env'.cells → h₁.IsCell a (bindC env'.kindOf (xs.zip vs) (fun _ => Option.none) y) := fun y a hm => x.cell y a (look y a hm)
    let cm' : Addr → Option Value := fun a => (env'.cells.find? (fun q => q.2 == a)).bind fun q => bindC env'.kindOf (xs.zip vs) (fun _ => Option.none) q.1
    have cmv : ∀ y a, (y, a) ∈ env'.cells → cm' a = bindC env'.kindOf (xs.zip vs) (fun _ => Option.none) y := fun y a hm => by
      show ((env'.cells.find? (fun q => q.2 == a)).bind _) = _
      cases e : env'.cells.find? (fun q => q.2 == a) with
      | none => exact absurd (List.find?_eq_none.mp e _ hm) (by simp)
      | some q =>
        have h1 := List.mem_of_find?_eq_some e
        have h2 : q.2 = a := by simpa using List.find?_some e
        obtain ⟨q1, q2⟩ := q
        subst h2
        rw [name_of_addr x.apart hm h1]
        rfl
    have J : StI c (hideAll s.heap (mu.map (·.1))) (f.env.locals :: f.oc ++ Z) f' (bindL env'.kindOf (xs.zip vs) (fun _ => Option.none)) cm' im mu h₁ := by
      refine I.enter kp x.toInCall.ns (by show _ ≤ env'.locals; rw [eLoc]; exact Nat.le_refl _) (fun a ha => ?_) (fun q hq => (nomatch hq)) fun y z a _ h1 h2 => name_of_addr x.apart (mem_of_lookup h1) (mem_of_lookup h2)
      obtain ⟨q, hq, rfl⟩ := List.mem_map.mp ha
      have ab := x.above q.1 q.2 hq
      refine ⟨by rw [cmv _ _ hq]; exact cval _ _ hq, ?_, ?_⟩
      · rw [eLoc] at ab; exact Nat.le_of_lt ab
      · exact Ne.symm (Nat.ne_of_lt ab)
    have nd' : ((xs.zip ds).map (·.1)).Nodup := by rw [zip_names hx]; exact hnd
    have ndv : ((xs.zip vs).map (·.1)).Nodup := by rw [names]; exact hnd
    have S' : St c (hideAll s.heap (mu.map (·.1))) (f.env.locals :: f.oc ++ Z) f' (xs.zip ds) stk mt h₁ := by
      refine ⟨nd', _, _, im, mu, J, fun q hq => ?_, hs, hm⟩
      obtain ⟨y, d⟩ := q
      have hy : y ∈ xs := zip_names hx ▸ List.mem_map_of_mem (f := (·.1)) hq
      obtain ⟨hk1, hk2⟩ := hall y hy
      obtain ⟨v, hv, hdv⟩ := zip_three hl hq
      refine ⟨hk2, v, ?_, hs _ (hz _ hdv)⟩
      rcases hk1 with e | e
      · exact .inl ⟨G.loc y e, bindL_some (G.loc y e) ndv hv⟩
      · obtain ⟨a, ha⟩ := Option.isSome_iff_exists.mp (cs (s.heap.objs.size + 1) y e)
        rw [← eCells] at ha
        refine .inr ⟨a, .inl (G.cell y e), ha, .inl ⟨inOc _ _ ha, ?_⟩⟩
        rw [cmv _ _ (mem_of_lookup ha)]
        have G' : env'.kindOf y = some .cell := G.cell y e
        exact bindC_some (by rw [G']; simp) ndv hv
    refine h f' G Rm.deeper S' fun fl w l loc' mt' h' tk' p hfl H' => ?_
    obtain ⟨mt'', hsub, hΦ⟩ := p
    obtain ⟨nd'', m'', cm'', im'', mu'', J', hloc', hs', hm'⟩ := H'.drop hsub
    have I' := I.leave J' (fun b o _ e => e)
    have done : ∀ v, (fl.val, v) ∈ l ++ stk ∨ (∀ im, Rep c.P im fl.val v) → R (.ok (.ret v)) { s with heap := h', toks := tk' } := fun v hv => by
      refine k fl.val v mt'' h' tk' hΦ ⟨nd, m, cm, im'' ++ im, mu'', I', fun q hq => ?_, fun q hq => ?_, hm'.mono fun q hq => List.mem_append_left _ hq⟩
      · obtain ⟨hd, u, hu, hr⟩ := hloc q hq
        exact ⟨hd, u, hu, hr.mono fun q hq => List.mem_append_right _ hq⟩
      · rcases List.mem_cons.mp hq with rfl | hq
        · rcases hv with hv | hv
          · exact (hs' _ hv).mono fun q hq => List.mem_append_left _ hq
          · exact hv _
        · exact (hs q hq).mono fun q hq => List.mem_append_right _ hq
    cases fl with
    | next => obtain ⟨rfl, rfl⟩ := hfl; exact done _ (.inr fun _ => rfl)
    | brk => obtain ⟨rfl, rfl⟩ := hfl; exact done _ (.inr fun _ => rfl)
    | cont => obtain ⟨rfl, rfl⟩ := hfl; exact done _ (.inr fun _ => rfl)
    | ret d => obtain ⟨v, rfl, rfl⟩ := hfl; exact done v (.inl (.head _))
end
end Mine

namespace Mine

noncomputable def noHeap : Heap := {}
theorem noHeap_get (b : Addr) : noHeap.get? b = none := by
  cases e : noHeap.get? b with
  | none => rfl
  | some o => exact absurd (Heap.lt_size e) (Nat.not_lt.mpr (Nat.zero_le b))
noncomputable def allOf (h : Heap) (L : Addr) : Led := (List.range h.objs.size).filterMap fun b => if b = L then none else (h.get? b).map fun o => (b, o)
theorem mem_allOf {h : Heap} {L b : Addr} {o : Obj} (hb : b ≠ L) (e : h.get? b = some o) : (b, o) ∈ allOf h L :=
  List.mem_filterMap.mpr ⟨b, List.mem_range.mpr (Heap.lt_size e), by simp [hb, e]⟩
theorem allOf_news {h : Heap} {L : Addr} : News noHeap L h (allOf h L) := by
  intro q hq
  obtain ⟨b, _, e⟩ := List.mem_filterMap.mp hq
  by_cases hb : b = L
  · simp [hb] at e
  · rw [if_neg hb] at e
    cases hg : h.get? b with
    | none => rw [hg] at e; cases e
    | some o =>
      rw [hg] at e
      cases e
      exact ⟨hg, hb, noHeap_get _⟩
theorem of_news {h h' : Heap} {L : Addr} {l : Led} (N : News noHeap L h' l) (hs : ∀ q ∈ allOf h L, q ∈ l) : ∀ b o, b ≠ L → h.get? b = some o → h'.get? b = some o :=
  fun b o hb e => (N (b, o) (hs _ (mem_allOf hb e))).1
section
variable {c : Cx} {n : Nat} {f : Fm} {g : Heap} {Z : List Addr} {loc loc' : Lc} {stk stk' : List (D × Value)} {mt mt' : Mt} {h h' : Heap} {m m' : PySem.Str → Option Value} {cm : Addr → Option Value} {im mu : Led}
theorem StI.fr (I : StI c g Z f m cm im mu h) : Fr noHeap f.env.locals h m := ⟨I.ns, (fun b o e => by rw [noHeap_get] at e; exact nomatch e), Nat.zero_le _⟩
theorem StI.ofFr (I : StI c g Z f m cm im mu h) (F : Fr noHeap f.env.locals h' m') {l : Led} (N : News noHeap f.env.locals h' l) (hs : ∀ q ∈ allOf h f.env.locals, q ∈ l) : StI c g Z f m' cm im mu h' :=
  I.setLocals F.ns (of_news N hs)
theorem StI.off (I : StI c g Z f m cm im mu h) {d : Addr} (hd : ∀ q ∈ allOf h f.env.locals, q.1 < d) (hl : d ≠ f.env.locals) : d ≠ f.env.locals ∧ d ∉ f.oc ∧ d ∉ Z ∧ (∀ q ∈ mu, q.1 ≠ d) ∧ (∀ q ∈ im, q.1 ≠ d) := by
  have lt : ∀ b o, b ≠ f.env.locals → h.get? b = some o → b < d := fun b o hb e => hd (b, o) (mem_allOf hb e)
  refine ⟨hl, fun hm => ?_, fun hm => ?_, fun q hq e => ?_, fun q hq e => ?_⟩
  · obtain ⟨⟨o, ho, _⟩, _, hne⟩ := I.cell d hm
    exact absurd (lt _ _ hne ho) (Nat.lt_irrefl _)
  · obtain ⟨⟨o, ho⟩, hne, _⟩ := I.zin d hm
    exact absurd (lt _ _ hne ho) (Nat.lt_irrefl _)
  · have := lt _ _ (I.muh q hq).2.1 (I.muh q hq).1
    exact absurd (e ▸ this) (Nat.lt_irrefl _)
  · have := lt _ _ (I.imh q hq).2.1 (I.imh q hq).1
    exact absurd (e ▸ this) (Nat.lt_irrefl _)
theorem locMono {im im' : Led} (hs : ∀ q ∈ im, q ∈ im') (hl : ∀ q ∈ loc, (q.1 == ("__debug__" : PySem.Str)) = false ∧ ∃ v, VarIs f m cm q.1 v ∧ Rep c.P im q.2 v) : ∀ q ∈ loc, (q.1 == ("__debug__" : PySem.Str)) = false ∧ ∃ v, VarIs f m cm q.1 v ∧ Rep c.P im' q.2 v := fun q hq => by
  obtain ⟨a, v, b, e⟩ := hl q hq
  exact ⟨a, v, b, e.mono hs⟩
theorem stkMono {im im' : Led} (hs : ∀ q ∈ im, q ∈ im') (hk : ∀ q ∈ stk, Rep c.P im q.1 q.2) : ∀ q ∈ stk, Rep c.P im' q.1 q.2 := fun q hq => (hk q hq).mono hs
inductive SeqD (mt : Mt) : D → List D → Prop
  | list (xs : List D) : SeqD mt (.list xs) xs
  | tup (xs : List D) : SeqD mt (.tup xs) xs
  | ref {a : Addr} {xs : List D} : (a, .lst xs) ∈ mt → SeqD mt (.ref a) xs
theorem AW.nil {env : Env} {pos : Pos} {Φ : List D → Mt → Prop} (h : Φ [] mt) : AW c n f (spliced (backTo pos (starEach [] env))) loc mt Φ :=
  fun _ _ _ _ s _ _ _ H k => spliced_none (k _ _ _ s.heap s.toks rfl h H)
theorem AW.cons {e : PySem.Expr} {rest : List PySem.Expr} {pos : Pos} {Φ : List D → Mt → Prop}
    (h : TW c n f (eval e f.env) loc mt (fun d mt₁ => AW c n f (spliced (backTo pos (starEach rest f.env))) loc mt₁ (fun ds mt₂ => Φ (d :: ds) mt₂)))
    (he : ∀ env, starEach (e :: rest) env = (false, eval e env) :: starEach rest env := by intro _; rfl) : AW c n f (spliced (backTo pos (starEach (e :: rest) f.env))) loc mt Φ := by
  intro A g Z stk s Q E R H k
  rw [he]
  refine spliced_cons (h R H fun d v mt₁ h₁ tk₁ p₁ H₁ => p₁ R H₁ fun ds vs mt₂ h₂ tk₂ hl p₂ H₂ => k (d :: ds) (v :: vs) mt₂ h₂ tk₂ (by simp [hl]) p₂ (H₂.sub fun q hq => ?_))
  rcases List.mem_append.mp hq with hq | hq
  · rcases List.mem_cons.mp hq with rfl | hq
    · exact List.mem_append_right _ (.head _)
    · exact List.mem_append_left _ hq
  · exact List.mem_append_right _ (.tail _ hq)
theorem StI.globalName {A : Around} {E : Value → Shared → Prop} {s : Shared} {S : Scope} {x : PySem.Str} {pos : Pos} {v : Value} {Q : Value → Shared → Prop} (I : StI c g Z f m cm im mu s.heap) (G : GF f S) (hx : S.names.lookup x = some .globalImplicit)
    (hn : nsIn c.K mainGlobals x = some (some v)) (hd : (x == ("__debug__" : PySem.Str)) = false) (h : Q v s) : wpAny (model c.prog c.w) A (eval (.Name x pos) f.env) Q E s :=
  Name_function_global G.kind (G.gi x hx) (loadGlobal_global (mg := c.mg) (by rw [G.glob]; exact I.base.t.g.keeps I.keep) (mg_of I.base.k I.base.t.g hn) h) hd
theorem StI.builtinName {A : Around} {E : Value → Shared → Prop} {s : Shared} {S : Scope} {x : PySem.Str} {pos : Pos} {v : Value} {Q : Value → Shared → Prop} (I : StI c g Z f m cm im mu s.heap) (G : GF f S) (hx : S.names.lookup x = some .globalImplicit)
    (hn : nsIn c.K mainGlobals x = some Option.none) (hv : bootBuiltins x = some v) (hne : x ≠ "__name__") (hd : (x == ("__debug__" : PySem.Str)) = false) (h : Q v s) : wpAny (model c.prog c.w) A (eval (.Name x pos) f.env) Q E s :=
  Name_function_global G.kind (G.gi x hx) (loadGlobal_builtin (mg := c.mg) (mb := c.mb) (by rw [G.glob]; exact I.base.t.g.keeps I.keep) (mg_none_of I.base.k I.base.t.g hn) (by rw [G.blt]; exact I.base.t.b.keeps I.keep) ((I.base.t.builtins x hne).trans hv) h) hd
theorem TW.call {S : Scope} {x : PySem.Str} {px pos : Pos} {e : PySem.Expr} {rest : List PySem.Expr} {fa : Addr} {Φ : D → Mt → Prop} (G : GF f S) (hx : S.names.lookup x = some .globalImplicit) (hn : nsIn c.K mainGlobals x = some (some (.ref fa))) (hk : keepIn c.K (.ref fa) = true)
    (h : AW c n f (spliced (backTo pos (starEach (e :: rest) f.env))) loc mt (fun ds mt₁ => CallW c n (.ref fa) ds mt₁ Φ)) (hd : (x == ("__debug__" : PySem.Str)) = false := by decide)
    (he : ∀ env, starEach (e :: rest) env = (false, eval e env) :: starEach rest env := by intro _; rfl) (hplain : ∀ env, (backTo pos (starEach rest env)).any (·.1) = false := by intro _; rfl) :
    TW c n f (eval (.Call (.Name x px) (e :: rest) [] pos) f.env) loc mt Φ := by
  intro A g Z stk s Q E R H k
  obtain ⟨nd, m, cm, im, mu, I, hl, hs, hm⟩ := id H
  refine Call_ (I.globalName G hx hn hd (callWith_K I.base.k hk (h R H fun ds vs mt₁ h₁ tk₁ hl' p₁ H₁ => ?_) (he _) (hplain _)))
  obtain ⟨nd₁, m₁, cm₁, im₁, mu₁, I₁, _⟩ := id H₁
  refine ⟨I₁.base.k.keeps I₁.keep, wpAny_call (p₁ R hl' (fun q hq => List.mem_append_left _ hq) H₁ fun d v mt' h' tk p H' => ?_)⟩
  exact k d v mt' h' tk p (H'.sub fun q hq => by
    rcases List.mem_cons.mp hq with rfl | hq
    · exact .head _
    · exact .tail _ (List.mem_append_right _ hq))
noncomputable def CallB (c : Cx) (n : Nat) (f : Fm) (fv : Value) (ds : List D) (loc : Lc) (mt : Mt) (Φ : D → Mt → Prop) : Prop :=
  ∀ ⦃A : Around⦄ ⦃g : Heap⦄ ⦃Z : List Addr⦄ ⦃stk : List (D × Value)⦄ ⦃s : Shared⦄ ⦃Q E : Value → Shared → Prop⦄ ⦃vs : List Value⦄, Room A n → ds.length = vs.length → (∀ q ∈ ds.zip vs, q ∈ stk) → St c g Z f loc stk mt s.heap →
    (∀ d v mt' h' tk, Φ d mt' → St c g Z f loc ((d, v) :: stk) mt' h' → Q v { s with heap := h', toks := tk }) → wpAny (model c.prog c.w) A (call fv vs []) Q E s
theorem TW.callB {S : Scope} {x : PySem.Str} {px pos : Pos} {e : PySem.Expr} {rest : List PySem.Expr} {id : String} {Φ : D → Mt → Prop} (G : GF f S) (hx : S.names.lookup x = some .globalImplicit) (hn : nsIn c.K mainGlobals x = some Option.none) (hv : bootBuiltins x = some (.builtin id))
    (h : AW c n f (spliced (backTo pos (starEach (e :: rest) f.env))) loc mt (fun ds mt₁ => CallB c n f (.builtin id) ds loc mt₁ Φ)) (hne : x ≠ "__name__" := by decide) (hd : (x == ("__debug__" : PySem.Str)) = false := by decide)
    (he : ∀ env, starEach (e :: rest) env = (false, eval e env) :: starEach rest env := by intro _; rfl) (hplain : ∀ env, (backTo pos (starEach rest env)).any (·.1) = false := by intro _; rfl) :
    TW c n f (eval (.Call (.Name x px) (e :: rest) [] pos) f.env) loc mt Φ := by
  intro A g Z stk s Q E R H k
  obtain ⟨nd, m, cm, im, mu, I, hl, hs, hm⟩ := _root_.id H
  refine Call_ (I.builtinName G hx hn hv hne hd (PyProof.Rows.callWith_builtin1 (h R H fun ds vs mt₁ h₁ tk₁ hl' p₁ H₁ => ?_) (he _) (hplain _)))
  refine p₁ R hl' (fun q hq => List.mem_append_left _ hq) H₁ fun d v mt' h' tk p H' => ?_
  exact k d v mt' h' tk p (H'.sub fun q hq => by
    rcases List.mem_cons.mp hq with rfl | hq
    · exact .head _
    · exact .tail _ (List.mem_append_right _ hq))
theorem TW.callT {S : Scope} {x : PySem.Str} {px pos : Pos} {e : PySem.Expr} {rest : List PySem.Expr} {T : String} {Φ : D → Mt → Prop} (G : GF f S) (hx : S.names.lookup x = some .globalImplicit) (hn : nsIn c.K mainGlobals x = some Option.none) (hv : bootBuiltins x = some (.type T))
    (h : AW c n f (spliced (backTo pos (starEach (e :: rest) f.env))) loc mt (fun ds mt₁ => CallB c n f (.type T) ds loc mt₁ Φ)) (hne : x ≠ "__name__" := by decide) (hd : (x == ("__debug__" : PySem.Str)) = false := by decide)
    (he : ∀ env, starEach (e :: rest) env = (false, eval e env) :: starEach rest env := by intro _; rfl) (hplain : ∀ env, (backTo pos (starEach rest env)).any (·.1) = false := by intro _; rfl) :
    TW c n f (eval (.Call (.Name x px) (e :: rest) [] pos) f.env) loc mt Φ := by
  intro A g Z stk s Q E R H k
  obtain ⟨nd, m, cm, im, mu, I, hl, hs, hm⟩ := _root_.id H
  refine Call_ (I.builtinName G hx hn hv hne hd (PyProof.Rows.callWith_type1 (h R H fun ds vs mt₁ h₁ tk₁ hl' p₁ H₁ => ?_) (he _) (hplain _)))
  refine p₁ R hl' (fun q hq => List.mem_append_left _ hq) H₁ fun d v mt' h' tk p H' => ?_
  exact k d v mt' h' tk p (H'.sub fun q hq => by
    rcases List.mem_cons.mp hq with rfl | hq
    · exact .head _
    · exact .tail _ (List.mem_append_right _ hq))
theorem TW.sub {value slice : PySem.Expr} {pos : Pos} {Φ : D → Mt → Prop}
    (h : TW c n f (eval value f.env) loc mt (fun d₁ mt₁ => TW c n f (eval slice f.env) loc mt₁ (fun d₂ mt₂ => T2 c n f (subscriptTail value slice) d₁ d₂ loc mt₂ Φ))) : TW c n f (eval (.Subscript value slice pos) f.env) loc mt Φ := by
  intro A g Z stk s Q E R H k
  refine Subscript_ (h R H fun d₁ v₁ mt₁ h₁ tk₁ p₁ H₁ => p₁ R H₁ fun d₂ v₂ mt₂ h₂ tk₂ p₂ H₂ => p₂ R (.tail _ (.head _)) (.head _) H₂ fun d v mt' h' tk p H' => ?_)
  exact k d v mt' h' tk p H'.pop.pop
theorem T2.item {value slice : PySem.Expr} {d d' : D} {ds : List D} {i : Int} {Φ : D → Mt → Prop} (hs : SeqD mt d ds) (h0 : 0 ≤ i) (h1 : i < 2 ^ 63) (hd : ds[i.toNat]? = some d') (h : Φ d' mt)
    (he : ∀ a k t, subscripted slice false (.ref a) (.int k t) = operate [.ref a, .int k t] (getItem (.ref a) (.int k t)) := by intros; with_unfolding_all rfl) : T2 c n f (subscriptTail value slice) d (.int i) loc mt Φ := by
  intro A g Z stk s Q E u₁ u₂ R h₁ h₂ H k
  obtain ⟨t, rfl⟩ := H.isInt h₂
  obtain ⟨nd, m, cm, im, mu, I, hl, hk, hm⟩ := _root_.id H
  have hr := hk _ h₁
  have fin : ∀ v, Rep c.P im d' v → Q v s := fun v hv => k d' v mt s.heap s.toks h ⟨nd, m, cm, im, mu, I, hl, fun q hq => by
    rcases List.mem_cons.mp hq with rfl | hq
    · exact hv
    · exact hk q hq, hm⟩
  have lst : ∀ {a : Addr} {vs : Array Value} {kk : Nat}, s.heap.get? a = some (listOf vs kk) → RepL c.P im ds vs.toList → wpAny (model c.prog c.w) A (subscriptTail value slice (.ref a) (.int i t)) Q E s := fun {a vs kk} ha hv => by
    obtain ⟨v, e1, e2⟩ := hv.get hd
    have hL : s.heap.IsList a vs := ⟨_, ha, rfl, kk, rfl⟩
    exact tail_any hL.typeIs slot_list_getitem.lookup (wpAny_getItem_list hL h0 h1 (by simpa using e1) (fin v e2)) (he _ _ _)
  cases hs with
  | list xs =>
    obtain ⟨a, vs, kk, rfl, e1, e2⟩ := hr
    exact lst (I.imh _ e1).1 e2
  | tup xs =>
    obtain ⟨a, vs, kk, rfl, e1, e2⟩ := hr
    obtain ⟨v, e3, e4⟩ := e2.get hd
    have hT : IsTup s.heap a vs.toList.toArray := ⟨_, (I.imh _ e1).1, rfl, kk, by simp⟩
    have hlen : i.toNat < vs.toList.length := by
      obtain ⟨e, _⟩ := List.getElem?_eq_some_iff.mp e3
      exact e
    refine item_tupleT hT (by omega) h1 (j := i.toNat) ?_ e3 (fin v e4) (he _ _ _)
    have hi : (i.toNat : Int) = i := Int.toNat_of_nonneg h0
    simp only [seqIndex?]
    split <;> first | omega | (split <;> first | rfl | omega | simp_all)
  | ref h3 =>
    obtain ⟨o, h4, vs, kk, rfl, h5⟩ := hm.get h3
    have e : u₁ = .ref _ := hr
    subst e
    exact lst (I.muh _ h4).1 h5
end
end Mine

namespace Mine

section
variable {c : Cx} {n : Nat} {f : Fm} {g : Heap} {Z : List Addr} {loc loc' : Lc} {stk stk' : List (D × Value)} {mt mt' : Mt} {h h' : Heap} {m m' : PySem.Str → Option Value} {cm : Addr → Option Value} {im mu : Led} {S : Scope}
theorem St.pushIm (H : St c g Z f loc stk mt h) {o : Obj} {d : D} {v : Value} (hf : o.isFreed = false) (hr : ∀ im, (∀ q ∈ stk, Rep c.P im q.1 q.2) → (h.objs.size, o) ∈ im → Rep c.P im d v) : St c g Z f loc ((d, v) :: stk) mt (h.push o) := by
  obtain ⟨nd, m, cm, im, mu, I, hl, hk, hm⟩ := H
  have sb : ∀ q ∈ im, q ∈ (h.objs.size, o) :: im := fun q hq => .tail _ hq
  refine ⟨nd, m, cm, _, mu, I.push o hf, locMono sb hl, fun q hq => ?_, hm.mono sb⟩
  rcases List.mem_cons.mp hq with rfl | hq
  · exact hr _ (stkMono sb hk) (.head _)
  · exact (hk q hq).mono sb
theorem St.pushMt (H : St c g Z f loc stk mt h) {o : Obj} {x : M} (hf : o.isFreed = false) (hr : ∀ im, (∀ q ∈ stk, Rep c.P im q.1 q.2) → RepM c.P im x o) : St c g Z f loc ((.ref h.objs.size, .ref h.objs.size) :: stk) ((h.objs.size, x) :: mt) (h.push o) := by
  obtain ⟨nd, m, cm, im, mu, I, hl, hk, hm⟩ := H
  refine ⟨nd, m, cm, im, _, I.pushM o hf, hl, fun q hq => ?_, ⟨o, mu, rfl, hr im hk, hm⟩⟩
  rcases List.mem_cons.mp hq with rfl | hq
  · exact rfl
  · exact hk q hq
theorem repL_zip {P : Params} {im : Led} {ds : List D} {vs : List Value} (hl : ds.length = vs.length) (h : ∀ q ∈ ds.zip vs, Rep P im q.1 q.2) : RepL P im ds vs := by
  induction ds generalizing vs with
  | nil =>
    cases vs with
    | nil => rfl
    | cons v vs => cases hl
  | cons d ds ih =>
    cases vs with
    | nil => cases hl
    | cons v vs => exact .cons (h (d, v) (.head _)) (ih (Nat.succ.inj hl) fun q hq => h q (.tail _ hq))
theorem TW.listM {es : List PySem.Expr} {pos : Pos} {Φ : D → Mt → Prop} (h : AW c n f (spliced (backTo pos (starEach es f.env))) loc mt (fun ds mt₁ => ds.length ≤ 1000 ∧ ∀ a, Φ (.ref a) ((a, .lst ds) :: mt₁))) : TW c n f (eval (.List es pos) f.env) loc mt Φ := by
  intro A g Z stk s Q E R H k
  refine PyProof.Rows.List_ (h R H fun ds vs mt₁ h₁ tk₁ hl p₁ H₁ => wpAny_newList ?_ (by rw [sizeLine_eq]; omega))
  have := H₁.pushMt (o := listOf vs.toArray 0) (x := .lst ds) rfl fun im hk => ⟨vs.toArray, 0, rfl, repL_zip hl fun q hq => hk q (List.mem_append_left _ hq)⟩
  exact k _ _ _ _ _ (p₁.2 _) (this.sub fun q hq => by
    rcases List.mem_cons.mp hq with rfl | hq
    · exact .head _
    · exact .tail _ (List.mem_append_right _ hq))
theorem TW.list {es : List PySem.Expr} {pos : Pos} {Φ : D → Mt → Prop} (h : AW c n f (spliced (backTo pos (starEach es f.env))) loc mt (fun ds mt₁ => ds.length ≤ 1000 ∧ Φ (.list ds) mt₁)) : TW c n f (eval (.List es pos) f.env) loc mt Φ := by
  intro A g Z stk s Q E R H k
  refine PyProof.Rows.List_ (h R H fun ds vs mt₁ h₁ tk₁ hl p₁ H₁ => wpAny_newList ?_ (by rw [sizeLine_eq]; omega))
  have := H₁.pushIm (o := listOf vs.toArray 0) (d := .list ds) (v := .ref _) rfl fun im hk hm => ⟨_, vs.toArray, 0, rfl, hm, repL_zip hl fun q hq => hk q (List.mem_append_left _ hq)⟩
  exact k _ _ _ _ _ p₁.2 (this.sub fun q hq => by
    rcases List.mem_cons.mp hq with rfl | hq
    · exact .head _
    · exact .tail _ (List.mem_append_right _ hq))
theorem TW.tuple {es : List PySem.Expr} {kk : Nat} {pos : Pos} {Φ : D → Mt → Prop} (h : AW c n f (spliced (backTo pos (starEach es f.env))) loc mt (fun ds mt₁ => ds.length ≤ 1000 ∧ Φ (.tup ds) mt₁)) : TW c n f (eval (.Tuple es kk pos) f.env) loc mt Φ := by
  intro A g Z stk s Q E R H k
  refine PyProof.Rows.Tuple_ (h R H fun ds vs mt₁ h₁ tk₁ hl p₁ H₁ => wpAny_newTuple ?_ (by rw [sizeLine_eq]; omega))
  have := H₁.pushIm (o := tupOf vs.toArray 0) (d := .tup ds) (v := .ref _) rfl fun im hk hm => ⟨_, vs.toArray, 0, rfl, hm, repL_zip hl fun q hq => hk q (List.mem_append_left _ hq)⟩
  exact k _ _ _ _ _ p₁.2 (this.sub fun q hq => by
    rcases List.mem_cons.mp hq with rfl | hq
    · exact .head _
    · exact .tail _ (List.mem_append_right _ hq))
inductive Rem (a : Addr) (x : M) : Mt → Mt → Prop
  | head {r} : Rem a x ((a, x) :: r) r
  | tail {q r r'} : Rem a x r r' → Rem a x (q :: r) (q :: r')
theorem Rem.split {a : Addr} {x : M} {mt mt' : Mt} (h : Rem a x mt mt') : ∃ pre post, mt = pre ++ (a, x) :: post ∧ mt' = pre ++ post := by
  induction h with
  | head => exact ⟨[], _, rfl, rfl⟩
  | tail _ ih =>
    obtain ⟨pre, post, rfl, rfl⟩ := ih
    exact ⟨_ :: pre, post, rfl, rfl⟩
theorem TW.frz {t : Sem Value} {Φ : D → Mt → Prop} (h : TW c n f t loc mt (fun d mt₁ => ∃ a ds mt₂, d = .ref a ∧ Rem a (.lst ds) mt₁ mt₂ ∧ Φ (.list ds) mt₂)) : TW c n f t loc mt Φ := by
  intro A g Z stk s Q E R H k
  refine h R H fun d v mt₁ h₁ tk₁ p₁ H₁ => ?_
  obtain ⟨a, ds, mt₂, rfl, hr, hΦ⟩ := p₁
  obtain ⟨pre, post, rfl, rfl⟩ := hr.split
  have e := H₁.isRef (.head _)
  subst e
  exact k _ _ _ _ _ hΦ H₁.freeze.pop
theorem TW.nameF {x : PySem.Str} {a : Addr} {ds : List D} {pos : Pos} {Φ : D → Mt → Prop} (hk : f.env.scope.kind = .function) (hx : (x, .ref a) ∈ loc) (hr : Rem a (.lst ds) mt mt') (h : Φ (.list ds) mt') : TW c n f (eval (.Name x pos) f.env) loc mt Φ :=
  TW.frz (TW.name hk hx ⟨a, ds, mt', rfl, hr, h⟩)
theorem ExW.nil {Φ : Fl → Lc → Mt → Prop} (h : Φ .next loc mt) : ExW c n f (execs [] f.env) loc mt Φ :=
  fun _ _ _ _ s _ _ _ H k => wpAny_execs_nil (k _ _ _ _ _ s.heap s.toks h ⟨rfl, rfl⟩ H)
noncomputable def SeqW (c : Cx) (n : Nat) (f : Fm) (rest : List Stmt) (Φ : Fl → Lc → Mt → Prop) : Fl → Lc → Mt → Prop
  | .next, loc, mt => ExW c n f (execs rest f.env) loc mt Φ
  | fl, loc, mt => Φ fl loc mt
theorem ExW.cons {st : Stmt} {rest : List Stmt} {Φ : Fl → Lc → Mt → Prop} (h : ExW c n f (exec st f.env) loc mt (SeqW c n f rest Φ)) : ExW c n f (execs (st :: rest) f.env) loc mt Φ := by
  intro A g Z stk s Q E R H k
  refine wpAny_execs_cons (h R H fun fl w l loc' mt' h' tk p hf H' => ?_)
  cases fl with
  | next => obtain ⟨rfl, rfl⟩ := hf; exact p R H' k
  | brk => obtain ⟨rfl, rfl⟩ := hf; exact k _ _ _ _ _ _ _ p ⟨rfl, rfl⟩ H'
  | cont => obtain ⟨rfl, rfl⟩ := hf; exact k _ _ _ _ _ _ _ p ⟨rfl, rfl⟩ H'
  | ret d => obtain ⟨v, rfl, rfl⟩ := hf; exact k _ _ _ _ _ _ _ p ⟨v, rfl, rfl⟩ H'
theorem ExW.ret {e : PySem.Expr} {pos : Pos} {Φ : Fl → Lc → Mt → Prop} (h : TW c n f (eval e f.env) loc mt (fun d mt' => Φ (.ret d) loc mt')) : ExW c n f (exec (.Return (some e) pos) f.env) loc mt Φ := by
  intro A g Z stk s Q E R H k
  exact wpAny_Return_some (h R H fun d v mt' h' tk p H' => k _ _ [(d, v)] _ _ _ _ p ⟨v, rfl, rfl⟩ H')
theorem ExW.expr {e : PySem.Expr} {pos : Pos} {Φ : Fl → Lc → Mt → Prop} (G : GF f S) (h : TW c n f (eval e f.env) loc mt (fun d mt' => d = .none ∧ Φ .next loc mt'))
    (hs : ∀ env, swapsWith e none pos.line env = pure false := by intro _; rfl) : ExW c n f (exec (.Expr e pos) f.env) loc mt Φ := by
  intro A g Z stk s Q E R H k
  refine wpAny_Expr (h R H fun d v mt' h' tk p H' => ?_) (by unfold interactive; rw [G.kind]; rfl) (hs _)
  obtain ⟨rfl, p⟩ := p
  have e := H'.isNone (.head _)
  subst e
  exact k _ _ [] _ _ _ _ p ⟨rfl, rfl⟩ H'.tl
theorem ExW.if_ {t : PySem.Expr} {b o : List Stmt} {pos : Pos} {Φ : Fl → Lc → Mt → Prop}
    (h : BW c n f (isTrue t f.env (eval t f.env)) loc mt (fun x mt₁ => (x = true → ExW c n f (execs b f.env) loc mt₁ Φ) ∧ (x = false → ExW c n f (execs o f.env) loc mt₁ Φ))) : ExW c n f (exec (.If t b o pos) f.env) loc mt Φ := by
  intro A g Z stk s Q E R H k
  refine wpAny_If (h R H fun x mt' h' tk p H' => ?_)
  cases x with
  | true => exact p.1 rfl R H' k
  | false => exact p.2 rfl R H' k
noncomputable def Sto (S : Scope) (x : PySem.Str) : Prop := (S.names.lookup x = some .local ∨ S.names.lookup x = some .cell) ∧ (x == ("__debug__" : PySem.Str)) = false
theorem Sto.kind {x : PySem.Str} (h : Sto S x) (G : GF f S) : f.env.kindOf x = some .local ∨ (f.env.kindOf x = some .cell ∧ ∃ a, a ∈ f.oc ∧ f.env.cells.lookup x = some a) := h.1.imp (G.loc x) fun e => ⟨G.cell x e, G.own x e⟩
theorem ExW.assign {x : PySem.Str} {px pos : Pos} {e : PySem.Expr} {Φ : Fl → Lc → Mt → Prop} (G : GF f S) (hx : Sto S x)
    (h : TW c n f (eval e f.env) loc mt (fun d mt' => ∃ loc', SetL x d loc loc' ∧ Φ .next loc' mt')) (hs : ∀ env, swapsWith e (some (.Name x px)) pos.line env = pure false := by intro _; rfl) : ExW c n f (exec (.Assign [.Name x px] e pos) f.env) loc mt Φ := by
  intro A g Z stk s Q E R H k
  refine wpAny_Assign_Name (h R H fun d v mt' h' tk p H' => ?_) (hs _)
  obtain ⟨loc', hl, p⟩ := p
  exact H'.store (.head _) G.kind (hx.kind G) hx.2 hl fun h'' tk' H'' => k _ _ [] _ _ _ _ p ⟨rfl, rfl⟩ H''.tl
theorem ExW.aug {x : PySem.Str} {px pos : Pos} {op : Operator} {e : PySem.Expr} {d₀ : D} {Φ : Fl → Lc → Mt → Prop} (G : GF f S) (hx : Sto S x) (hm : (x, d₀) ∈ loc)
    (h : TW c n f (eval e f.env) loc mt (fun d mt₁ => T2 c n f (inplaceOp op) d₀ d loc mt₁ (fun d' mt' => ∃ loc', SetL x d' loc loc' ∧ Φ .next loc' mt'))) : ExW c n f (exec (.AugAssign (.Name x px) op e pos) f.env) loc mt Φ := by
  intro A g Z stk s Q E R H k
  obtain ⟨nd, m, cm, im, mu, I, hl, hs, hm'⟩ := id H
  obtain ⟨hd, v, hv, hr⟩ := hl _ hm
  have H₀ : St c g Z f loc ((d₀, v) :: stk) mt s.heap := ⟨nd, m, cm, im, mu, I, hl, fun q hq => by
    rcases List.mem_cons.mp hq with rfl | hq
    · exact hr
    · exact hs q hq, hm'⟩
  refine wpAny_AugAssign_Name (I.load G.kind hv (h R H₀ fun d v₁ mt₁ h₁ tk₁ p₁ H₁ => p₁ R (.tail _ (.head _)) (.head _) H₁ fun d' v' mt' h' tk p H' => ?_))
  obtain ⟨loc', hl', p⟩ := p
  exact H'.store (.head _) G.kind (hx.kind G) hx.2 hl' fun h'' tk' H'' => k _ _ [] _ _ _ _ p ⟨rfl, rfl⟩ H''.tl.tl.tl
inductive Each2 {α β : Type} (R : α → β → Prop) : List α → List β → Prop
  | nil : Each2 R [] []
  | cons {a b as bs} : R a b → Each2 R as bs → Each2 R (a :: as) (b :: bs)
noncomputable def SetsL : List PySem.Str → List D → Lc → Lc → Prop
  | [], [], loc, loc' => loc' = loc
  | x :: xs, d :: ds, loc, loc' => ∃ loc₁, SetL x d loc loc₁ ∧ SetsL xs ds loc₁ loc'
  | _, _, _, _ => False
theorem St.stores {A : Around} {E : Value → Shared → Prop} (G : GF f S) {ts : List (Value → Sem Unit)} {xs : List PySem.Str} (hE : Each2 (fun (t : Value → Sem Unit) x => ∀ (v : Value) (s : Shared) (Q : Unit → Shared → Prop), wpAny (model c.prog c.w) A (storeName f.env x v) Q E s → wpAny (model c.prog c.w) A (t v) Q E s) ts xs) :
    ∀ {ds : List D} {vs : List Value} {loc loc' : Lc} {s : Shared} {Q : Unit → Shared → Prop},
    (∀ x ∈ xs, Sto S x) → SetsL xs ds loc loc' → ds.length = vs.length → (∀ q ∈ ds.zip vs, q ∈ stk) → St c g Z f loc stk mt s.heap →
    (∀ h' tk, St c g Z f loc' stk mt h' → Q () { s with heap := h', toks := tk }) → wpAny (model c.prog c.w) A (assignInOrder ts vs) Q E s := by
  induction hE with
  | nil =>
    intro ds vs loc loc' s Q hx hl hn hz H k
    cases ds with
    | cons _ _ => exact hl.elim
    | nil =>
      cases vs with
      | cons _ _ => cases hn
      | nil =>
        have e : loc' = loc := hl
        subst e
        exact assignInOrder_nil (k s.heap s.toks H)
  | cons ht _ ih =>
    intro ds vs loc loc' s Q hx hl hn hz H k
    cases ds with
    | nil => exact hl.elim
    | cons d ds =>
      cases vs with
      | nil => cases hn
      | cons v vs =>
        obtain ⟨loc₁, h1, h2⟩ := hl
        refine assignInOrder_cons (ht v s _ (H.store (hz (d, v) (.head _)) G.kind ((hx _ (.head _)).kind G) (hx _ (.head _)).2 h1 fun h' tk H' => ?_))
        exact ih (fun y hy => hx y (.tail _ hy)) h2 (by simpa using hn) (fun q hq => hz q (.tail _ hq)) H' fun h'' tk' H'' => k h'' tk' H''
end
end Mine

namespace Mine

section
variable {c : Cx} {n : Nat} {f : Fm} {g : Heap} {Z : List Addr} {loc loc' : Lc} {stk stk' : List (D × Value)} {mt mt' : Mt} {h h' : Heap} {m m' : PySem.Str → Option Value} {cm : Addr → Option Value} {im mu : Led} {S : Scope}
inductive NamesE : List PySem.Expr → List PySem.Str → Prop
  | nil : NamesE [] []
  | cons {x p es xs} : NamesE es xs → NamesE (.Name x p :: es) (x :: xs)
theorem NamesE.each {A : Around} {E : Value → Shared → Prop} {es : List PySem.Expr} {xs : List PySem.Str} (h : NamesE es xs) (env : Env) :
    (assignEach es env).length = xs.length ∧ (assignEach es env).findIdx? (·.1) = none ∧
      Each2 (fun (t : Value → Sem Unit) x => ∀ (v : Value) (s : Shared) (Q : Unit → Shared → Prop), wpAny (model c.prog c.w) A (storeName env x v) Q E s → wpAny (model c.prog c.w) A (t v) Q E s) ((assignEach es env).map (·.2)) xs := by
  induction h with
  | nil => exact ⟨rfl, rfl, .nil⟩
  | @cons x p es xs _ ih =>
    obtain ⟨h1, h2, h3⟩ := ih
    have e : assignEach (.Name x p :: es) env = (false, assign (.Name x p) env) :: assignEach es env := rfl
    rw [e]
    refine ⟨by simp [h1], ?_, .cons (fun v s Q hq => wpAny_assign_Name hq) h3⟩
    rw [List.findIdx?_cons]
    simp [h2]
theorem assign_list {prog : Program} {w : World} {A : Around} {E : Value → Shared → Prop} {s : Shared} {env : Env} {elts : List PySem.Expr} {k : Nat} {pos : Pos} {l : Addr} {items : Array Value} {Q : Unit → Shared → Prop} (hh : A.handled = none) (hl : s.heap.IsList l items)
    (hn : (assignEach elts env).length = items.size) (hstar : (assignEach elts env).findIdx? (·.1) = none)
    (h : ∀ h', Heap.ExtBut s.heap.objs.size s.heap h' → wpAny (model prog w) A (assignInOrder ((assignEach elts env).map (·.2)) items.toList) Q E { s with heap := h' }) : wpAny (model prog w) A (assign (.Tuple elts k pos) env (.ref l)) Q E s := by
  rw [PyProof.Rows.assign_Tuple]
  refine wpAny_bind (wpAny_standAt ?_)
  unfold unpack
  rw [hn, hstar]
  exact wpAny_bind (wpAny_holding (kun_itemsOf hh hl h))
theorem zip_rep {P : Params} {im : Led} {ds : List D} {vs : List Value} (hv : RepL P im ds vs) : ∀ q ∈ ds.zip vs, Rep P im q.1 q.2 := by
  induction ds generalizing vs with
  | nil => intro q hq; simp at hq
  | cons d ds ih =>
    obtain ⟨v, r, rfl, h1, h2⟩ := hv
    intro q hq
    rcases List.mem_cons.mp hq with rfl | hq
    · exact h1
    · exact ih h2 q hq
theorem AsW.tuple {es : List PySem.Expr} {xs : List PySem.Str} {kk : Nat} {pos : Pos} {d : D} {ds : List D} {Φ : Lc → Mt → Prop} (G : GF f S) (hn : NamesE es xs) (hx : ∀ x ∈ xs, Sto S x) (hs : SeqD mt d ds) (hl : xs.length = ds.length)
    (h : ∃ loc', SetsL xs ds loc loc' ∧ Φ loc' mt) : AsW c n f (assign (.Tuple es kk pos) f.env) d loc mt Φ := by
  intro A g Z stk s Q E u R hu H k
  obtain ⟨loc', hset, hΦ⟩ := h
  obtain ⟨h1, h2, h3⟩ := hn.each (c := c) (A := A) (E := E) f.env
  obtain ⟨nd, m, cm, im, mu, I, hloc, hk, hm⟩ := id H
  have go : ∀ {vs : Array Value} {h' : Heap}, RepL c.P im ds vs.toList → (∀ b o, s.heap.get? b = some o → h'.get? b = some o) → wpAny (model c.prog c.w) A (assignInOrder ((assignEach es f.env).map (·.2)) vs.toList) Q E { s with heap := h' } := fun {vs h'} hv hk' => by
    have I' := I.grow hk'
    have H' : St c g Z f loc (ds.zip vs.toList ++ stk) mt h' := by
      refine ⟨nd, m, cm, im, mu, I', hloc, fun q hq => ?_, hm⟩
      rcases List.mem_append.mp hq with hq | hq
      · exact zip_rep hv q hq
      · exact hk q hq
    refine St.stores G h3 hx hset hv.length.symm (fun q hq => List.mem_append_left _ hq) H' fun h'' tk H'' => k loc' mt h'' tk hΦ (H''.sub fun q hq => List.mem_append_right _ hq)
  have hr := hk _ hu
  cases hs with
  | list ys =>
    obtain ⟨a, vs, kk', rfl, e1, e2⟩ := hr
    have hL : s.heap.IsList a vs := ⟨_, (I.imh _ e1).1, rfl, kk', rfl⟩
    exact assign_list R.1 hL (by rw [h1, hl, ← e2.length]; simp) h2 fun h' he => go e2 fun b o e => he b o (Nat.ne_of_lt (Heap.lt_size e)) e
  | tup ys =>
    obtain ⟨a, vs, kk', rfl, e1, e2⟩ := hr
    have hT : s.heap.IsTuple a vs := ⟨_, (I.imh _ e1).1, rfl, kk', rfl⟩
    refine wpAny_assign_Tuple R.1 hT (by rw [h1, hl, ← e2.length]; simp) h2 fun h' he => go e2 fun b o e => he b o (Nat.ne_of_lt (Heap.lt_size e)) e
  | ref h3 =>
    obtain ⟨o, h4, vs, kk', rfl, h5⟩ := hm.get h3
    have e : u = .ref _ := hr
    subst e
    have hL : s.heap.IsList _ vs := ⟨_, (I.muh _ h4).1, rfl, kk', rfl⟩
    exact assign_list R.1 hL (by rw [h1, hl, ← h5.length]; simp) h2 fun h' he => go h5 fun b o e => he b o (Nat.ne_of_lt (Heap.lt_size e)) e
theorem ExW.assignTup {es : List PySem.Expr} {kk : Nat} {tp pos : Pos} {e : PySem.Expr} {Φ : Fl → Lc → Mt → Prop}
    (h : TW c n f (eval e f.env) loc mt (fun d mt₁ => AsW c n f (PySem.assign (.Tuple es kk tp) f.env) d loc mt₁ (fun loc' mt' => Φ .next loc' mt')))
    (hw : swappedStores [.Tuple es kk tp] e f.env = pure Option.none) (hs : ∀ env, swapsWithSole [.Tuple es kk tp] e pos.line env = pure false := by intro _; rfl) : ExW c n f (exec (.Assign [.Tuple es kk tp] e pos) f.env) loc mt Φ := by
  intro A g Z stk s Q E R H k
  exact PyProof.Rows.Assign_Tuple (h R H fun d v mt₁ h₁ tk₁ p₁ H₁ => p₁ R (.head _) H₁ fun loc' mt' h' tk p H' => k _ _ [] _ _ _ _ p ⟨rfl, rfl⟩ H'.tl) (hs _) hw
theorem ExW.assignS {es : List PySem.Expr} {xs : List PySem.Str} {kk : Nat} {tp pos : Pos} {e : PySem.Expr} {Φ : Fl → Lc → Mt → Prop} (G : GF f S) (hx : ∀ x ∈ xs, Sto S x)
    (h : TW c n f (eval e f.env) loc mt (fun d mt₁ => ∃ ds loc', d = .tup ds ∧ xs.length = ds.length ∧ SetsL xs.reverse ds.reverse loc loc' ∧ Φ .next loc' mt₁))
    (hw : swappedStores [.Tuple es kk tp] e f.env = pure (some xs)) (hs : ∀ env, swapsWithSole [.Tuple es kk tp] e pos.line env = pure false := by intro _; rfl) : ExW c n f (exec (.Assign [.Tuple es kk tp] e pos) f.env) loc mt Φ := by
  intro A g Z stk s Q E R H k
  refine Assign_Tuple_swapped (h R H fun d v mt₁ h₁ tk₁ p₁ H₁ => ?_) (hs _) hw
  obtain ⟨ds, loc', rfl, hl, hset, hΦ⟩ := p₁
  obtain ⟨nd, m, cm, im, mu, I, hloc, hk, hm⟩ := id H₁
  obtain ⟨a, vs, kk', rfl, e1, e2⟩ := hk _ (.head _)
  have hT : IsTup h₁ a vs := ⟨_, (I.imh _ e1).1, rfl, kk', rfl⟩
  have hsz : xs.length = vs.size := by rw [hl, ← e2.length]; simp
  rw [hsz]
  refine unpackItems_tuple (s := { s with heap := h₁, toks := tk₁ }) R.1 hT fun h' he => ?_
  have I' := I.grow (h' := h') fun b o e => he b o (Nat.ne_of_lt (Heap.lt_size e)) e
  have H' : St c g Z f loc (ds.reverse.zip vs.toList.reverse ++ stk) mt₁ h' := by
    refine ⟨nd, m, cm, im, mu, I', hloc, fun q hq => ?_, hm⟩
    rcases List.mem_append.mp hq with hq | hq
    · refine zip_rep (ds := ds.reverse) (vs := vs.toList.reverse) ?_ q hq
      have : ∀ {ds : List D} {us : List Value}, RepL c.P im ds us → RepL c.P im ds.reverse us.reverse := by
        intro ds
        induction ds with
        | nil => intro us h; rw [h]; rfl
        | cons d ds ih =>
          rintro us ⟨v, r, rfl, h1, h2⟩
          rw [List.reverse_cons, List.reverse_cons]
          exact (ih h2).append (.one h1)
      exact this e2
    · exact hk q (.tail _ hq)
  have each : ∀ (ys : List PySem.Str), Each2 (fun (t : Value → Sem Unit) x => ∀ (v : Value) (s : Shared) (Q : Unit → Shared → Prop), wpAny (model c.prog c.w) A (storeName f.env x v) Q E s → wpAny (model c.prog c.w) A (t v) Q E s) (ys.map fun y => bindName f.env y) ys := by
    intro ys
    induction ys with
    | nil => exact .nil
    | cons y ys ih => exact .cons (fun v s Q hq => wpAny_bindName hq) ih
  refine St.stores G (each _) (fun x hx' => hx x (List.mem_reverse.mp hx')) hset (by simp [e2.length]) (fun q hq => List.mem_append_left _ hq) H' fun h'' tk H'' => ?_
  exact k _ _ [] _ _ _ _ hΦ ⟨rfl, rfl⟩ (H''.sub fun q hq => List.mem_append_right _ hq)
theorem St.updL {a : Addr} {ds ds' : List D} {G : M → Mt} {s : Shared} (H : St c g Z f loc stk mt s.heap) (hG : At a (.lst ds) mt G) : ∃ vs k, s.heap.get? a = some (listOf vs k) ∧ vs.size = ds.length ∧
    ∀ h' vs' k', Heap.SameBut a s.heap h' → h'.get? a = some (listOf vs' k') → (∀ im, (∀ q ∈ stk, Rep c.P im q.1 q.2) → RepL c.P im ds vs.toList → RepL c.P im ds' vs'.toList) → St c g Z f loc stk (G (.lst ds')) h' := by
  obtain ⟨nd, m, cm, im, mu, I, hloc, hk, hm⟩ := H
  obtain ⟨pre, post, rfl, e⟩ := hG.split
  obtain ⟨l, o, r, rfl, ho, h1, h2⟩ := hm.split
  obtain ⟨vs, k, rfl, hv⟩ := ho
  refine ⟨vs, k, (I.muh _ (List.mem_append_right _ (.head _))).1, by rw [← hv.length]; simp, fun h' vs' k' hs hg hr => ?_⟩
  rw [e]
  exact ⟨nd, m, cm, im, _, I.upd hs hg, hloc, hk, MuOk.join (post := (a, .lst ds') :: post) (r := (a, listOf vs' k') :: r) ⟨_, _, rfl, ⟨vs', k', rfl, hr im hk hv⟩, h2⟩ h1⟩
theorem ExW.setItem {o i e : PySem.Expr} {ps pos : Pos} {Φ : Fl → Lc → Mt → Prop}
    (h : TW c n f (eval e f.env) loc mt (fun d mt₁ => TW c n f (eval o f.env) loc mt₁ (fun d₁ mt₂ => TW c n f (eval i f.env) loc mt₂ (fun d₂ mt₃ =>
      ∃ a ds k G, d₁ = .ref a ∧ d₂ = .int k ∧ 0 ≤ k ∧ k < ds.length ∧ k < 2 ^ 63 ∧ At a (.lst ds) mt₃ G ∧ Φ .next loc (G (.lst (ds.set k.toNat d)))))))
    (hs : ∀ env, swapsWith e (some (.Subscript o i ps)) pos.line env = pure false := by intro _; rfl) : ExW c n f (exec (.Assign [.Subscript o i ps] e pos) f.env) loc mt Φ := by
  intro A g Z stk s Q E R H k
  refine wpAny_Assign_Subscript (h R H fun d v mt₁ h₁ tk₁ p₁ H₁ => p₁ R H₁ fun d₁ v₁ mt₂ h₂ tk₂ p₂ H₂ => p₂ R H₂ fun d₂ v₂ mt₃ h₃ tk₃ p₃ H₃ => ?_) (hs _)
  obtain ⟨a, ds, kk, G, rfl, rfl, k0, k1, k2, hG, hΦ⟩ := p₃
  have e1 := H₃.isRef (.tail _ (.head _))
  subst e1
  obtain ⟨t, rfl⟩ := H₃.isInt (.head _)
  obtain ⟨vs, kn, hg, hsz, up⟩ := H₃.updL (s := { s with heap := h₃, toks := tk₃ }) (ds' := ds.set kk.toNat d) hG
  refine ki_setAt (n := kn) hg k0 k2 (by omega) ?_
  have hg' : (h₃.update a (Obj.mapSeq (·.setIfInBounds kk.toNat v))).get? a = some (Obj.mapSeq (·.setIfInBounds kk.toNat v) (listOf vs kn)) := Heap.get?_update_self _ hg rfl
  have key : ∃ k', Obj.mapSeq (·.setIfInBounds kk.toNat v) (listOf vs kn) = listOf (vs.setIfInBounds kk.toNat v) k' := ⟨_, rfl⟩
  obtain ⟨k', hk'⟩ := key
  rw [hk'] at hg'
  refine k _ _ [] _ _ _ _ hΦ ⟨rfl, rfl⟩ ((up _ _ _ (Heap.SameBut.update ..) hg' fun im hk hv => ?_).sub fun q hq => .tail _ (.tail _ (.tail _ hq)))
  have := hv.set (i := kk.toNat) (hk (d, v) (.tail _ (.tail _ (.head _))))
  simpa using this
theorem TW.append {o e : PySem.Expr} {ap pos : Pos} {pl : Env → Sem Bool} {Φ : D → Mt → Prop}
    (h : TW c n f (eval o f.env) loc mt (fun d₁ mt₁ => ∃ a, d₁ = .ref a ∧ (∃ ds, (a, .lst ds) ∈ mt₁) ∧ TW c n f (eval e f.env) loc mt₁ (fun d mt₂ => ∃ ds G, At a (.lst ds) mt₂ G ∧ ds.length ≤ 1000 ∧ Φ .none (G (.lst (ds ++ [d]))))))
    (hs : ∀ env, starEach [e] env = (false, eval e env) :: starEach [] env := by intro _; rfl)
    (he : ∀ env, eval (.Call (.Attribute o "append" ap) [e] [] pos) env = (do
      let ov ← eval o env
      standAt ap.atName
      let (f, first) ← holding [ov] (getMethod ov "append" (pl env))
      callWith pos f first (backTo pos (starEach [e] env)) []) := by intro _; rfl) : TW c n f (eval (.Call (.Attribute o "append" ap) [e] [] pos) f.env) loc mt Φ := by
  intro A g Z stk s Q E R H k
  refine MethodCall_ (h R H fun d₁ v₁ mt₁ h₁ tk₁ p₁ H₁ => ?_) (he _)
  obtain ⟨a, rfl, ⟨ds₀, hm₀⟩, p₁⟩ := p₁
  have e1 := H₁.isRef (.head _)
  subst e1
  obtain ⟨o', ho'⟩ : ∃ o', h₁.get? a = some o' ∧ ∃ vs k, o' = listOf vs k := by
    obtain ⟨nd, m, cm, im, mu, I, hloc, hk, hm⟩ := id H₁
    obtain ⟨o, h4, vs, kk', rfl, h5⟩ := hm.get hm₀
    exact ⟨_, (I.muh _ h4).1, _, _, rfl⟩
  obtain ⟨ho', vs₀, k₀, rfl⟩ := ho'
  refine PySem.getMethod_builtin ⟨_, ho', rfl⟩ PySem.F.plainAttrs_list PySem.F.slot_list_append PySem.F.type_list_append (fun b e => by cases e; exact ⟨_, ho', rfl⟩) ?_
  refine PyProof.Rows.callWith_method1 ?_ (hs _) rfl
  rw [hs]
  refine spliced_cons (p₁ R H₁ fun d v mt₂ h₂ tk₂ p₂ H₂ => spliced_none ?_)
  obtain ⟨ds, G, hG, hl, hΦ⟩ := p₂
  obtain ⟨vs, kn, hg, hsz, up⟩ := H₂.updL (s := { s with heap := h₂, toks := tk₂ }) (ds' := ds ++ [d]) hG
  refine wpAny_list_append_plain ⟨kn, hg⟩ (fun h' hp hs' => ?_) (by rw [sizeLine_eq, hsz]; omega)
  obtain ⟨k', hk'⟩ := hp
  refine k _ _ _ _ _ hΦ ((up _ _ _ hs' hk' fun im hk hv => ?_).none.sub fun q hq => ?_)
  · have := hv.append (.one (hk (d, v) (.head _)))
    simpa using this
  · rcases List.mem_cons.mp hq with rfl | hq
    · exact .head _
    · exact .tail _ (.tail _ (.tail _ hq))
end
end Mine

namespace Mine

section
variable {c : Cx} {n : Nat} {f : Fm} {g g' : Heap} {Z : List Addr} {loc loc' : Lc} {stk stk' : List (D × Value)} {mt mt' : Mt} {h h' : Heap} {m m' : PySem.Str → Option Value} {cm cm' : Addr → Option Value} {im im' mu mu' : Led} {S : Scope}
theorem StI.maxBase (I : StI c g Z f m cm im mu h) : ∃ g', StI c g' Z f m cm im mu h ∧ (∀ b o, g.get? b = some o → g'.get? b = some o) ∧
    (∀ b o, h.get? b = some o → b ≠ f.env.locals → b ∉ f.oc → (∀ q ∈ mu, q.1 ≠ b) → g'.get? b = some o) := by
  have none : ∀ a ∈ f.env.locals :: f.oc ++ mu.map (·.1), g.get? a = none := fun a ha => by
    rcases List.mem_append.mp ha with ha | ha
    · rcases List.mem_cons.mp ha with rfl | ha
      · exact I.lg
      · exact (I.cell a ha).2.1
    · obtain ⟨q, hq, rfl⟩ := List.mem_map.mp ha
      exact (I.muh q hq).2.2.2.1
  have gg : ∀ b o, g.get? b = some o → (hideAll h (f.env.locals :: f.oc ++ mu.map (·.1))).get? b = some o := fun b o e =>
    hideAll_get _ (I.keep b o e) fun hm => by rw [none b hm] at e; cases e
  refine ⟨hideAll h (f.env.locals :: f.oc ++ mu.map (·.1)), I.rebase gg (fun b o e => of_hideAll _ e) (hideAll_none _ (.head _)) (fun a ha => hideAll_none _ (List.mem_append_left _ (.tail _ ha)))
    (fun q hq => hideAll_none _ (List.mem_append_right _ (List.mem_map_of_mem hq))), gg, fun b o e h1 h2 h3 => hideAll_get _ e fun hm => ?_⟩
  rcases List.mem_append.mp hm with hm | hm
  · rcases List.mem_cons.mp hm with hm | hm
    · exact h1 hm
    · exact h2 hm
  · obtain ⟨q, hq, rfl⟩ := List.mem_map.mp hm
    exact h3 q hq rfl
theorem StI.merge (J : StI c g Z f m' cm' im' mu' h') (hi : ∀ q ∈ im, g.get? q.1 = some q.2 ∧ q.1 ≠ f.env.locals ∧ q.1 ∉ f.oc ∧ q.1 ∉ Z) : StI c g Z f m' cm' (im' ++ im) mu' h' := { J with
  imh := fun q hq => by
    rcases List.mem_append.mp hq with hq | hq
    · exact J.imh q hq
    · exact ⟨J.keep _ _ (hi q hq).1, (hi q hq).2⟩
  mi := fun q hq r hr => by
    rcases List.mem_append.mp hr with hr | hr
    · exact J.mi q hq r hr
    · intro e
      have h1 := (J.muh q hq).2.2.2.1
      rw [e, (hi r hr).1] at h1
      cases h1 }
noncomputable def rangeItems (a st : Int) (k : Nat) : List D := (List.range k).map fun (i : Nat) => .int (a + i * st)
inductive ItD : D → List D → Prop
  | list (xs : List D) : ItD (.list xs) xs
  | tup (xs : List D) : ItD (.tup xs) xs
  | range {a b st : Int} {k : Nat} : Builtin.Range.small a b st = true → Builtin.Range.rangeSize a b st = (k : Int) → ItD (.range a b st) (rangeItems a st k)
noncomputable def Walker (c : Cx) (A : Around) (ds : List D) (im : Led) (I : Addr) (s : Shared) : Prop :=
  ∃ fp P St0, Walks c.prog c.w A I fp [I] ds.length P St0 ∧ St0 0 s.heap ∧ (∀ b ∈ fp, b = I ∨ ∃ o, (b, o) ∈ im) ∧ (∀ i v, P i v → ∃ d, ds[i]? = some d ∧ ∀ im', (∀ q ∈ im, q ∈ im') → Rep c.P im' d v) ∧
    (∀ i h, St0 i h → ∃ o nm, h.get? I = some o ∧ o.cls = .type nm ∧ nm ∈ ["list_iterator", "tuple_iterator", "range_iterator"])
theorem iter_walk {A : Around} {E : Value → Shared → Prop} {s : Shared} {Q : Value → Shared → Prop} {d : D} {v : Value} {ds : List D} (hh : A.handled = none) (I : StI c g Z f m cm im mu s.heap) (hd : ItD d ds) (hr : Rep c.P im d v)
    (k : ∀ it, it.isFreed = false → Walker c A ds im s.heap.objs.size { s with heap := s.heap.push it } → Q (.ref s.heap.objs.size) { s with heap := s.heap.push it }) : wpAny (model c.prog c.w) A (pyIter v) Q E s := by
  cases hd with
  | list xs =>
    obtain ⟨a, vs, kk, rfl, e1, e2⟩ := hr
    have hL : s.heap.IsList a vs := ⟨_, (I.imh _ e1).1, rfl, kk, rfl⟩
    have hlt := Heap.lt_size (I.imh _ e1).1
    have hne : a ≠ s.heap.objs.size := Nat.ne_of_lt hlt
    have W := Walks.list (prog := c.prog) (w := c.w) hh s.heap.objs.size a hne vs
    rw [show vs.size = ds.length by rw [← e2.length]; simp] at W
    refine wpAny_pyIter_list hL (k _ rfl ⟨_, _, _, W, ⟨⟨_, Heap.get?_push_size _ rfl, rfl, rfl⟩, hL.push _⟩, ?_, ?_, ?_⟩)
    · intro b hb
      rcases List.mem_cons.mp hb with rfl | hb
      · exact .inl rfl
      · rw [List.mem_singleton.mp hb]; exact .inr ⟨_, e1⟩
    · intro i v hv
      have hi : i < ds.length := by
        obtain ⟨hi, _⟩ := Array.getElem?_eq_some_iff.mp hv
        rw [← e2.length]; simpa using hi
      obtain ⟨u, h1, h2⟩ := e2.get (i := i) (d := ds[i]) (by simp [hi])
      refine ⟨ds[i], by simp [hi], fun im' hs => ?_⟩
      have : vs.toList[i]? = some v := by simpa using hv
      rw [this] at h1
      cases h1
      exact h2.mono hs
    · rintro i h ⟨⟨o, ho, hc, _⟩, _⟩
      exact ⟨o, _, ho, hc, by decide⟩
  | tup xs =>
    obtain ⟨a, vs, kk, rfl, e1, e2⟩ := hr
    have hL : s.heap.IsTuple a vs := ⟨_, (I.imh _ e1).1, rfl, kk, rfl⟩
    have hlt := Heap.lt_size (I.imh _ e1).1
    have hne : a ≠ s.heap.objs.size := Nat.ne_of_lt hlt
    have W := Walks.tuple (prog := c.prog) (w := c.w) hh s.heap.objs.size a hne vs
    rw [show vs.size = ds.length by rw [← e2.length]; simp] at W
    refine wpAny_pyIter_tuple hL (k _ rfl ⟨_, _, _, W, ⟨⟨_, Heap.get?_push_size _ rfl, rfl, rfl⟩, ⟨_, Heap.get?_push_of_some _ (I.imh _ e1).1, rfl, kk, rfl⟩⟩, ?_, ?_, ?_⟩)
    · intro b hb
      rcases List.mem_cons.mp hb with rfl | hb
      · exact .inl rfl
      · rw [List.mem_singleton.mp hb]; exact .inr ⟨_, e1⟩
    · intro i v hv
      have hi : i < ds.length := by
        obtain ⟨hi, _⟩ := Array.getElem?_eq_some_iff.mp hv
        rw [← e2.length]; simpa using hi
      obtain ⟨u, h1, h2⟩ := e2.get (i := i) (d := ds[i]) (by simp [hi])
      refine ⟨ds[i], by simp [hi], fun im' hs => ?_⟩
      have : vs.toList[i]? = some v := by simpa using hv
      rw [this] at h1
      cases h1
      exact h2.mono hs
    · rintro i h ⟨⟨o, ho, hc, _⟩, _⟩
      exact ⟨o, _, ho, hc, by decide⟩
  | @range a b st kk hsm hsz =>
    obtain ⟨r, t, u, w, rfl, e1⟩ := hr
    have hR : IsRange s.heap r a b st t u w := (I.imh _ e1).1
    have W := (Walks.range (prog := c.prog) (w := c.w) hh s.heap.objs.size a st kk).bound
    have hl : (rangeItems a st kk).length = kk := by simp [rangeItems]
    have e0 := Heap.get?_push_size s.heap (o := { cls := .type "range_iterator", data := .fields #[rawInt a, rawInt (Builtin.Range.rangeSize a b st), rawInt st] }) rfl
    refine wpAny_pyIter_range hR hsm (k _ rfl ⟨_, _, _, hl.symm ▸ W, ?_, ?_, ?_, ?_⟩)
    · show IsRangeIter _ _ _ _ _
      rw [hsz] at e0 ⊢
      simpa [hl] using e0
    · intro b hb
      rw [List.mem_singleton.mp hb]; exact .inl rfl
    · rintro i v ⟨hi, t, rfl⟩
      refine ⟨.int (a + i * st), ?_, fun im' _ => ⟨t, rfl⟩⟩
      have hi' : i < kk := by rw [hl] at hi; exact hi
      simp [rangeItems, hi']
    · intro i h ho
      exact ⟨_, _, ho, rfl, by decide⟩
theorem letOwned_plain {M : Model} {A : Around} {E : Value → Shared → Prop} {s : Shared} {target : PySem.Expr} {I : Addr} {v : Value} {o : Obj} {nm : String} {Q : Unit → Shared → Prop} (ho : s.heap.get? I = some o) (hc : o.cls = .type nm) (hn : nm ∈ ["list_iterator", "tuple_iterator", "range_iterator"]) (h : Q () s) :
    wpAny M A (letOwnedTupleGo target (.ref I) v) Q E s := by
  have no : (["enumerate", "zip", "dict_itemiterator", "dict_reverseitemiterator", "odict_iterator", "itertools.zip_longest", "itertools.pairwise"].contains nm) = false := by
    rcases List.mem_cons.mp hn with rfl | hn
    · decide
    · rcases List.mem_cons.mp hn with rfl | hn
      · decide
      · rw [List.mem_singleton.mp hn]; decide
  have body : ∀ a : Addr, wpAny M A (do
      let o ← load I
      match o.cls, o.data with
      | .type n, .fields vs =>
        if ["enumerate", "zip", "dict_itemiterator", "dict_reverseitemiterator", "odict_iterator", "itertools.zip_longest", "itertools.pairwise"].contains n && vs[0]? == some (rawInt a) then
          rule "for.unpacks-the-owned-tuple"
          updateField I 0 .none
      | _, _ => pure ()) Q E s := fun a => by
    refine wpAny_bind (wpAny_load ho ?_)
    rw [hc]
    cases o.data with
    | fields vs =>
      dsimp only
      rw [no]
      simp only [Bool.false_and, Bool.false_eq_true, if_false]
      exact wpAny_pure h
    | _ => exact wpAny_pure h
  unfold letOwnedTupleGo
  cases target with
  | Tuple _ _ _ =>
    cases v with
    | ref a => exact body a
    | _ => exact wpAny_pure h
  | List _ _ =>
    cases v with
    | ref a => exact body a
    | _ => exact wpAny_pure h
  | _ => exact wpAny_pure h
noncomputable def LoopW (J : Nat → Lc → Mt → Prop) (i : Nat) (Φ : Fl → Lc → Mt → Prop) : Fl → Lc → Mt → Prop
  | .next, loc, mt => J (i + 1) loc mt
  | .cont, loc, mt => J (i + 1) loc mt
  | .brk, loc, mt => Φ .next loc mt
  | .ret d, loc, mt => Φ (.ret d) loc mt
inductive ForI (c : Cx) (g : Heap) (Z : List Addr) (f : Fm) (im : Led) (J : Nat → Lc → Mt → Prop) (W : Nat → Heap → Prop) (N : Nat) (s : Shared) (kk : Nat) (s' : Shared) : Prop
  | mk (i : Nat) (loc : Lc) (mt : Mt) (h : Heap) (tk : Nat) (ek : kk = N + 1 - i) (hi : i ≤ N) (es : s' = { s with heap := h, toks := tk }) (hJ : J i loc mt) (hw : W i h) (nd : (loc.map (·.1)).Nodup) (m : PySem.Str → Option Value) (cm : Addr → Option Value) (im' mu : Led)
      (r : StI c g Z f m cm (im' ++ im) mu h ∧ LocOk f m cm c.P (im' ++ im) loc ∧ MuOk c.P (im' ++ im) mt mu)
theorem ExW.for_ {target iter : PySem.Expr} {body : List Stmt} {pos : Pos} {Φ : Fl → Lc → Mt → Prop}
    (h : TW c n f (eval iter f.env) loc mt (fun d mt₁ => ∃ ds, ∃ J : Nat → Lc → Mt → Prop, ItD d ds ∧ J 0 loc mt₁ ∧
      (∀ i d' loc' mt', ds[i]? = some d' → J i loc' mt' → AsW c n f (PySem.assign target f.env) d' loc' mt' (fun loc₂ mt₂ => ExW c n f (execs body f.env) loc₂ mt₂ (LoopW J i Φ))) ∧
      (∀ loc' mt', J ds.length loc' mt' → Φ .next loc' mt')))
    (hs : ∀ env x, foldedSetIterable iter env x = pure x := by intros; rfl) : ExW c n f (exec (.For target iter body [] pos) f.env) loc mt Φ := by
  intro A g Z stk s Q E R H k
  refine wpAny_For (h R H fun d v mt₁ h₁ tk₁ p₁ H₁ => ?_) (hs _)
  obtain ⟨ds, J, hd, hJ, turn, fin⟩ := p₁
  obtain ⟨nd, m, cm, im, mu, I₀, hloc, hk, hm⟩ := id H₁
  refine iter_walk R.1 I₀ hd (hk _ (.head _)) fun it hfr W => ?_
  obtain ⟨fp, P, St0, W, w0, wfp, wit, wcl⟩ := W
  obtain ⟨q1, q2, q3, q4, q5, q6⟩ := I₀.fresh (Nat.le_refl _)
  have I₁ := I₀.grow (h' := h₁.push it) fun b o e => Heap.get?_push_of_some _ e
  have hit : (h₁.push it).get? h₁.objs.size = some it := Heap.get?_push_size _ hfr
  have I₂ := I₁.moreZ ⟨it, hit⟩ q1 q2 (Frag.none_of I₀.base.k q6) q5 q4
  refine codeAny_forLoop_any (ForI c g (h₁.objs.size :: Z) f im J St0 ds.length s) ?_ (ds.length + 1)
    ⟨0, loc, mt₁, _, _, rfl, Nat.zero_le _, rfl, hJ, w0, nd, m, cm, [], mu, I₂, hloc, hm⟩
  rintro kk s' ⟨i, loc', mt', h', tk', rfl, hi, rfl, hJ', hw, nd', m', cm', im', mu', I', hloc', hm'⟩
  have stk' : ∀ q ∈ stk, Rep c.P (im' ++ im) q.1 q.2 := fun q hq => (hk q (.tail _ hq)).mono fun p hp => List.mem_append_right _ hp
  have onlyI : ∀ {h'' : Heap}, (∀ b o, b ∉ [h₁.objs.size] → h'.get? b = some o → h''.get? b = some o) → St0 i h'' ∨ (∃ o, h''.get? h₁.objs.size = some o) → (∃ o, h''.get? h₁.objs.size = some o) → StI c g (h₁.objs.size :: Z) f m' cm' (im' ++ im) mu' h'' := fun {h''} hk' _ he =>
    I'.zChange (.head _) q6 (fun b o hb e => hk' b o (fun hm => hb (List.mem_singleton.mp hm)) e) he
  by_cases hlt : i < ds.length
  · refine W.item i _ _ _ hlt hw fun v h'' tk'' hP hw' hkeep => ?_
    obtain ⟨oI, nm, hoI, hcI, hnm⟩ := wcl _ _ hw'
    have I'' := onlyI hkeep (.inr ⟨oI, hoI⟩) ⟨oI, hoI⟩
    refine letOwned_plain hoI hcI hnm ?_
    obtain ⟨d', hd', hrep⟩ := wit _ _ hP
    obtain ⟨g', J₁, gg, gmax⟩ := I''.maxBase
    have H'' : St c g' (h₁.objs.size :: Z) f loc' ((d', v) :: stk) mt' h'' := ⟨nd', m', cm', _, mu', J₁, hloc', fun q hq => by
      rcases List.mem_cons.mp hq with rfl | hq
      · exact hrep _ fun p hp => List.mem_append_right _ hp
      · exact stk' q hq, hm'⟩
    have gI : g'.get? h₁.objs.size = some oI := gmax _ _ hoI (I''.zin _ (.head _)).2.1 (I''.zin _ (.head _)).2.2.1 (fun q hq e => (I''.muh q hq).2.2.2.2 (e ▸ .head _))
    have gim : ∀ q ∈ im' ++ im, g'.get? q.1 = some q.2 ∧ q.1 ≠ f.env.locals ∧ q.1 ∉ f.oc ∧ q.1 ∉ (h₁.objs.size :: Z) := fun q hq =>
      ⟨gmax _ _ (I''.imh q hq).1 (I''.imh q hq).2.1 (I''.imh q hq).2.2.1 (fun p hp => I''.mi p hp q hq), (I''.imh q hq).2⟩
    refine turn i d' loc' mt' hd' hJ' R (.head _) H'' fun loc₂ mt₂ h₂ tk₂ p₂ H₂ => p₂ R H₂ fun fl w l loc₃ mt₃ h₃ tk₃ p₃ hfl H₃ => ?_
    have back : St c g (h₁.objs.size :: Z) f loc₃ (l ++ (d', v) :: stk) mt₃ h₃ := by
      obtain ⟨nd₃, m₃, cm₃, im₃, mu₃, J₃, r⟩ := H₃
      exact ⟨nd₃, m₃, cm₃, im₃, mu₃, StI.unbase I''.base I''.rc J₃ gg, r⟩
    have out : ∀ fl', Φ fl' loc₃ mt₃ → ∀ w', FlIs fl' w' l → Q w' { s with heap := h₃, toks := tk₃ } := fun fl' hΦ w' hw' => by
      obtain ⟨nd₃, m₃, cm₃, im₃, mu₃, J₃, hl₃, hk₃, hm₃⟩ := back
      refine k fl' w' l loc₃ mt₃ h₃ tk₃ hΦ hw' ⟨nd₃, m₃, cm₃, im₃, mu₃, J₃.lessZ, hl₃, fun q hq => hk₃ q ?_, hm₃⟩
      rcases List.mem_append.mp hq with hq | hq
      · exact List.mem_append_left _ hq
      · exact List.mem_append_right _ (.tail _ hq)
    have again : J (i + 1) loc₃ mt₃ → ∃ m, m < ds.length + 1 - i ∧ ForI c g (h₁.objs.size :: Z) f im J St0 ds.length s m { s with heap := h₃, toks := tk₃ } := fun hJ₃ => by
      obtain ⟨nd₃, m₃, cm₃, im₃, mu₃, J₃, hl₃, hk₃, hm₃⟩ := H₃
      have M := StI.unbase I''.base I''.rc (J₃.merge gim) gg
      rw [← List.append_assoc] at M
      have sb : ∀ q ∈ im₃, q ∈ im₃ ++ im' ++ im := fun q hq => List.mem_append_left _ (List.mem_append_left _ hq)
      refine ⟨ds.length + 1 - (i + 1), by omega, i + 1, loc₃, mt₃, h₃, tk₃, rfl, hlt, rfl, hJ₃, W.frame _ _ _ hw' fun b hb o e => ?_, nd₃, m₃, cm₃, im₃ ++ im', mu₃, M, fun q hq => ?_, hm₃.mono sb⟩
      · rcases wfp b hb with rfl | ⟨ob, hob⟩
        · rw [hoI] at e
          cases e
          exact J₃.keep _ _ gI
        · have := gim _ (List.mem_append_right _ hob)
          rw [(I''.imh _ (List.mem_append_right _ hob)).1] at e
          cases e
          exact J₃.keep _ _ this.1
      · obtain ⟨a, v', b, e⟩ := hl₃ q hq
        exact ⟨a, v', b, e.mono sb⟩
    cases fl with
    | next => obtain ⟨rfl, rfl⟩ := hfl; exact again p₃
    | cont => obtain ⟨rfl, rfl⟩ := hfl; exact again p₃
    | brk => obtain ⟨rfl, rfl⟩ := hfl; exact out .next p₃ _ ⟨rfl, rfl⟩
    | ret d => obtain ⟨v', rfl, rfl⟩ := hfl; exact out (.ret d) p₃ _ ⟨v', rfl, rfl⟩
  · have e : i = ds.length := by omega
    subst e
    refine W.done _ _ _ hw fun h'' tk'' hkeep => ?_
    refine wpAny_execs_nil ?_
    exact k .next _ [] loc' mt' h'' tk'' (fin _ _ hJ') ⟨rfl, rfl⟩ ⟨nd', m', cm', _, mu', I'.zDrop q3 q6 fun b o hb e => hkeep b o (fun hm => hb (List.mem_singleton.mp hm)) e, hloc', stk', hm'⟩
end
end Mine

namespace Mine

section
variable {c : Cx} {n : Nat} {f : Fm} {g g' : Heap} {Z : List Addr} {loc loc' : Lc} {stk stk' : List (D × Value)} {mt mt' : Mt} {h h' : Heap} {m m' : PySem.Str → Option Value} {cm cm' : Addr → Option Value} {im im' mu mu' : Led} {S : Scope}
noncomputable abbrev iL (ks : List Int) : List D := ks.map .int
theorem RepL.ints {P : Params} {im : Led} : ∀ {ks : List Int} {vs : List Value}, RepL P im (iL ks) vs → IntsAre vs ks
  | [], _, h => by rw [h]; exact .nil
  | k :: ks, _, h => by
    obtain ⟨v, r, rfl, ⟨t, rfl⟩, h2⟩ := h
    exact .cons k t (RepL.ints h2)
inductive LstD (mt : Mt) : D → List D → Prop
  | list (xs : List D) : LstD mt (.list xs) xs
  | ref {a : Addr} {xs : List D} : (a, .lst xs) ∈ mt → LstD mt (.ref a) xs
theorem lstAt {d : D} {v : Value} {ds : List D} (I : StI c g Z f m cm im mu h) (hm : MuOk c.P im mt mu) (hr : Rep c.P im d v) (hl : LstD mt d ds) : ∃ a vs k, v = .ref a ∧ h.get? a = some (listOf vs k) ∧ a ≠ f.env.locals ∧ RepL c.P im ds vs.toList := by
  cases hl with
  | list =>
    obtain ⟨a, vs, k, rfl, e1, e2⟩ := hr
    exact ⟨a, vs, k, rfl, (I.imh _ e1).1, (I.imh _ e1).2.1, e2⟩
  | ref h1 =>
    obtain ⟨o, h2, vs, k, rfl, h3⟩ := hm.get h1
    exact ⟨_, vs, k, hr, (I.muh _ h2).1, (I.muh _ h2).2.1, h3⟩
theorem isListOf {h : Heap} {a : Addr} {vs : Array Value} {k : Nat} (e : h.get? a = some (listOf vs k)) : h.IsList a vs := ⟨_, e, rfl, k, rfl⟩
theorem StI.newAt {d : Addr} {o : Obj} (I : StI c g Z f m cm im mu h) (F : Fr noHeap f.env.locals h' m') (N : News noHeap f.env.locals h' ((d, o) :: allOf h f.env.locals)) (hd : ∀ q ∈ allOf h f.env.locals, q.1 < d) : StI c g Z f m' cm ((d, o) :: im) mu h' := by
  have J := I.ofFr F N fun q hq => .tail _ hq
  have nw := N (d, o) (.head _)
  obtain ⟨_, h2, h3, h4, _⟩ := I.off hd nw.2.1
  exact J.addIm nw.1 nw.2.1 h2 h3 h4
theorem StI.newAtM {d : Addr} {o : Obj} (I : StI c g Z f m cm im mu h) (F : Fr noHeap f.env.locals h' m') (N : News noHeap f.env.locals h' ((d, o) :: allOf h f.env.locals)) (hd : ∀ q ∈ allOf h f.env.locals, q.1 < d) : StI c g Z f m' cm im ((d, o) :: mu) h' := by
  have J := I.ofFr F N fun q hq => .tail _ hq
  have nw := N (d, o) (.head _)
  obtain ⟨h1, h2, h3, h4, h5⟩ := I.off hd nw.2.1
  have h6 : g.get? d = none := by
    cases e : g.get? d with
    | none => rfl
    | some x => exact absurd (hd (d, x) (mem_allOf h1 (I.keep _ _ e))) (Nat.lt_irrefl _)
  exact { J with
    muh := fun q hq => by
      rcases List.mem_cons.mp hq with rfl | hq
      · exact ⟨nw.1, h1, h2, h6, h3⟩
      · exact J.muh q hq
    mnd := List.nodup_cons.mpr ⟨fun hm => by obtain ⟨q, hq, e⟩ := List.mem_map.mp hm; exact h4 q hq e, I.mnd⟩
    mi := fun q hq r hr => by
      rcases List.mem_cons.mp hq with rfl | hq
      · exact fun e => h5 r hr e.symm
      · exact J.mi q hq r hr }
theorem T2.frz {t : Value → Value → Sem Value} {d₁ d₂ : D} {Φ : D → Mt → Prop} (h : T2 c n f t d₁ d₂ loc mt (fun d mt₁ => ∃ a ds mt₂, d = .ref a ∧ Rem a (.lst ds) mt₁ mt₂ ∧ Φ (.list ds) mt₂)) : T2 c n f t d₁ d₂ loc mt Φ := by
  intro A g Z stk s Q E u₁ u₂ R e1 e2 H k
  refine h R e1 e2 H fun d v mt₁ h₁ tk₁ p₁ H₁ => ?_
  obtain ⟨a, ds, mt₂, rfl, hr, hΦ⟩ := p₁
  obtain ⟨pre, post, rfl, rfl⟩ := hr.split
  have e := H₁.isRef (.head _)
  subst e
  exact k _ _ _ _ _ hΦ H₁.freeze.pop
theorem CallB.frz {fv : Value} {ds : List D} {Φ : D → Mt → Prop} (h : CallB c n f fv ds loc mt (fun d mt₁ => ∃ a ds mt₂, d = .ref a ∧ Rem a (.lst ds) mt₁ mt₂ ∧ Φ (.list ds) mt₂)) : CallB c n f fv ds loc mt Φ := by
  intro A g Z stk s Q E vs R e1 e2 H k
  refine h R e1 e2 H fun d v mt₁ h₁ tk₁ p₁ H₁ => ?_
  obtain ⟨a, ds, mt₂, rfl, hr, hΦ⟩ := p₁
  obtain ⟨pre, post, rfl, rfl⟩ := hr.split
  have e := H₁.isRef (.head _)
  subst e
  exact k _ _ _ _ _ hΦ H₁.freeze.pop
theorem T2.catM {d₁ d₂ : D} {xs ys : List D} {Φ : D → Mt → Prop} (h₁ : LstD mt d₁ xs) (h₂ : LstD mt d₂ ys) (hz : xs.length + ys.length ≤ 1000) (h : ∀ a, Φ (.ref a) ((a, .lst (xs ++ ys)) :: mt)) : T2 c n f (binaryOp .Add) d₁ d₂ loc mt Φ := by
  intro A g Z stk s Q E u₁ u₂ R e1 e2 H k
  obtain ⟨nd, m, cm, im, mu, I, hl, hk, hm⟩ := H
  obtain ⟨a, vs, ka, rfl, ga, _, ra⟩ := lstAt I hm (hk _ e1) h₁
  obtain ⟨b, us, kb, rfl, gb, _, rb⟩ := lstAt I hm (hk _ e2) h₂
  have l1 := ra.length
  have l2 := rb.length
  refine add_arrays I.fr allOf_news (isListOf ga) (isListOf gb) (fun h' F N => ?_) (by rw [sizeLine_eq]; simp at l1 l2 ⊢; omega)
  refine k _ _ _ _ s.toks (h _) ⟨nd, _, cm, im, _, I.newAtM F N fun q hq => Heap.lt_size (allOf_news q hq).1, hl, fun q hq => ?_, ⟨_, _, rfl, ⟨_, 0, rfl, ?_⟩, hm⟩⟩
  · rcases List.mem_cons.mp hq with rfl | hq
    · exact rfl
    · exact hk q hq
  · simpa using ra.append rb
theorem T2.cat {d₁ d₂ : D} {xs ys : List D} {Φ : D → Mt → Prop} (h₁ : LstD mt d₁ xs) (h₂ : LstD mt d₂ ys) (hz : xs.length + ys.length ≤ 1000) (h : Φ (.list (xs ++ ys)) mt) : T2 c n f (binaryOp .Add) d₁ d₂ loc mt Φ :=
  T2.frz (T2.catM h₁ h₂ hz fun a => ⟨a, _, _, rfl, .head, h⟩)
theorem RepL.times {P : Params} {im : Led} {xs : List D} {vs : List Value} (h : RepL P im xs vs) : ∀ k : Nat, RepL P im (List.replicate k xs).flatten (List.replicate k vs).flatten
  | 0 => rfl
  | k + 1 => by
    rw [List.replicate_succ, List.replicate_succ, List.flatten_cons, List.flatten_cons]
    exact h.append (RepL.times h k)
theorem T2.timesM {d₁ : D} {xs : List D} {k : Int} {Φ : D → Mt → Prop} (h₁ : LstD mt d₁ xs) (hk : 0 ≤ k) (hz : xs.length * k.toNat ≤ 256) (hk' : k < 2 ^ 63) (h : ∀ a, Φ (.ref a) ((a, .lst (List.replicate k.toNat xs).flatten) :: mt)) : T2 c n f (binaryOp .Mult) d₁ (.int k) loc mt Φ := by
  intro A g Z stk s Q E u₁ u₂ R e1 e2 H kk
  obtain ⟨t, rfl⟩ := H.isInt e2
  obtain ⟨nd, m, cm, im, mu, I, hl, hs, hm⟩ := H
  obtain ⟨a, vs, ka, rfl, ga, _, ra⟩ := lstAt I hm (hs _ e1) h₁
  have l1 := ra.length
  refine KMa.mul (vs := vs.toList) I.fr allOf_news (by simpa using isListOf ga) (by omega) hk' (by rw [l1]; exact hz) rfl fun D h' F N hD => ?_
  refine kk _ _ _ _ s.toks (h _) ⟨nd, _, cm, im, _, I.newAtM F N hD, hl, fun q hq => ?_, ⟨_, _, rfl, ⟨_, 0, rfl, ?_⟩, hm⟩⟩
  · rcases List.mem_cons.mp hq with rfl | hq
    · exact rfl
    · exact hs q hq
  · simpa using ra.times k.toNat
theorem T2.times {d₁ : D} {xs : List D} {k : Int} {Φ : D → Mt → Prop} (h₁ : LstD mt d₁ xs) (hk : 0 ≤ k) (hz : xs.length * k.toNat ≤ 256) (hk' : k < 2 ^ 63) (h : Φ (.list (List.replicate k.toNat xs).flatten) mt) : T2 c n f (binaryOp .Mult) d₁ (.int k) loc mt Φ :=
  T2.frz (T2.timesM h₁ hk hz hk' fun a => ⟨a, _, _, rfl, .head, h⟩)
theorem T2.eqL {d₁ d₂ : D} {ks js : List Int} {Φ : D → Mt → Prop} (h₁ : LstD mt d₁ (iL ks)) (h₂ : LstD mt d₂ (iL js)) (h : Φ (.bool (decide (ks = js))) mt) : T2 c n f (compareOp .Eq) d₁ d₂ loc mt Φ := by
  intro A g Z stk s Q E u₁ u₂ R e1 e2 H k
  obtain ⟨nd, m, cm, im, mu, I, hl, hk, hm⟩ := id H
  obtain ⟨a, vs, ka, rfl, ga, _, ra⟩ := lstAt I hm (hk _ e1) h₁
  obtain ⟨b, us, kb, rfl, gb, _, rb⟩ := lstAt I hm (hk _ e2) h₂
  exact eq_intsK (vs := vs.toList) (us := us.toList) (by simpa using isListOf ga) ra.ints (by simpa using isListOf gb) rb.ints (by have := R.units; omega) (k _ _ _ s.heap s.toks h (H.bool _))
theorem T2.neL {d₁ d₂ : D} {ks js : List Int} {Φ : D → Mt → Prop} (h₁ : LstD mt d₁ (iL ks)) (h₂ : LstD mt d₂ (iL js)) (h : Φ (.bool (!decide (ks = js))) mt) : T2 c n f (compareOp .NotEq) d₁ d₂ loc mt Φ := by
  intro A g Z stk s Q E u₁ u₂ R e1 e2 H k
  obtain ⟨nd, m, cm, im, mu, I, hl, hk, hm⟩ := id H
  obtain ⟨a, vs, ka, rfl, ga, _, ra⟩ := lstAt I hm (hk _ e1) h₁
  obtain ⟨b, us, kb, rfl, gb, _, rb⟩ := lstAt I hm (hk _ e2) h₂
  exact ne_intsK (vs := vs.toList) (us := us.toList) (by simpa using isListOf ga) ra.ints (by simpa using isListOf gb) rb.ints (by have := R.units; omega) (k _ _ _ s.heap s.toks h (H.bool _))
theorem T2.inL {d₂ : D} {i : Int} {ks : List Int} {Φ : D → Mt → Prop} (h₂ : LstD mt d₂ (iL ks)) (h : Φ (.bool (ks.any (· == i))) mt) : T2 c n f (compareOp .In) (.int i) d₂ loc mt Φ := by
  intro A g Z stk s Q E u₁ u₂ R e1 e2 H k
  obtain ⟨t, rfl⟩ := H.isInt e1
  obtain ⟨nd, m, cm, im, mu, I, hl, hk, hm⟩ := id H
  obtain ⟨b, us, kb, rfl, gb, _, rb⟩ := lstAt I hm (hk _ e2) h₂
  exact in_list_ints (vs := us.toList) (by simpa using isListOf gb) rb.ints (k _ _ _ s.heap s.toks h (H.bool _))
theorem lenS {α β : Type} {d : α} {ds : List α} {vs : List β} (h : (d :: ds).length = vs.length) : ∃ v us, vs = v :: us ∧ ds.length = us.length := by
  cases vs with
  | nil => cases h
  | cons v us => exact ⟨v, us, rfl, Nat.succ.inj h⟩
theorem lenZ {α β : Type} {vs : List β} (h : ([] : List α).length = vs.length) : vs = [] := List.length_eq_zero_iff.mp h.symm
theorem len1 {α β : Type} {d : α} {vs : List β} (h : [d].length = vs.length) : ∃ v, vs = [v] := by
  obtain ⟨v, us, rfl, h1⟩ := lenS h
  obtain rfl := lenZ h1
  exact ⟨v, rfl⟩
theorem len2 {α β : Type} {d e : α} {vs : List β} (h : [d, e].length = vs.length) : ∃ v u, vs = [v, u] := by
  obtain ⟨v, us, rfl, h1⟩ := lenS h
  obtain ⟨u, rfl⟩ := len1 h1
  exact ⟨v, u, rfl⟩
theorem len3 {α β : Type} {d e g : α} {vs : List β} (h : [d, e, g].length = vs.length) : ∃ v u w, vs = [v, u, w] := by
  obtain ⟨v, us, rfl, h1⟩ := lenS h
  obtain ⟨u, w, rfl⟩ := len2 h1
  exact ⟨v, u, w, rfl⟩
theorem CallB.one {fv : Value} {d : D} {Φ : D → Mt → Prop} (h : T1 c n f (fun v => call fv [v] []) d loc mt Φ) : CallB c n f fv [d] loc mt Φ := by
  intro A g Z stk s Q E vs R hl hz H k
  obtain ⟨v, rfl⟩ := len1 hl
  exact h R (hz (d, v) (.head _)) H k
theorem CallB.two {fv : Value} {d e : D} {Φ : D → Mt → Prop} (h : T2 c n f (fun v u => call fv [v, u] []) d e loc mt Φ) : CallB c n f fv [d, e] loc mt Φ := by
  intro A g Z stk s Q E vs R hl hz H k
  obtain ⟨v, u, rfl⟩ := len2 hl
  exact h R (hz (d, v) (.head _)) (hz (e, u) (.tail _ (.head _))) H k
theorem seqAt {d : D} {v : Value} {ds : List D} (I : StI c g Z f m cm im mu h) (hm : MuOk c.P im mt mu) (hr : Rep c.P im d v) (hl : SeqD mt d ds) : ∃ a vs k, v = .ref a ∧ (h.get? a = some (listOf vs k) ∨ h.get? a = some (tupOf vs k)) ∧ RepL c.P im ds vs.toList := by
  cases hl with
  | list =>
    obtain ⟨a, vs, k, rfl, e1, e2⟩ := hr
    exact ⟨a, vs, k, rfl, .inl (I.imh _ e1).1, e2⟩
  | tup =>
    obtain ⟨a, vs, k, rfl, e1, e2⟩ := hr
    exact ⟨a, vs, k, rfl, .inr (I.imh _ e1).1, e2⟩
  | ref h1 =>
    obtain ⟨o, h2, vs, k, rfl, h3⟩ := hm.get h1
    exact ⟨_, vs, k, hr, .inl (I.muh _ h2).1, h3⟩
theorem CallB.len {d : D} {ds : List D} {Φ : D → Mt → Prop} (h₁ : SeqD mt d ds) (hz : ds.length ≤ 1000) (h : Φ (.int ds.length) mt) : CallB c n f (.builtin "len") [d] loc mt Φ := .one <| by
  intro A g Z stk s Q E u R hu H k
  obtain ⟨nd, m, cm, im, mu, I, hl, hk, hm⟩ := id H
  obtain ⟨a, vs, ka, rfl, ga, ra⟩ := seqAt I hm (hk _ hu) h₁
  have l1 : vs.size = ds.length := by rw [← ra.length]; simp
  have fin : ∀ t tk, Q (.int vs.size t) { s with toks := tk } := fun t tk => by rw [l1]; exact k _ _ _ s.heap _ h (H.int _ _)
  rcases ga with ga | ga
  · exact Calls.call_len_list (isListOf ga) (by omega) (fin _ _)
  · exact PyProof.Rows.len_tuple ⟨_, ga, rfl, ka, rfl⟩ (by omega) (fin _ _)
theorem CallB.max {a b : Int} {Φ : D → Mt → Prop} (h : Φ (.int (Max.max a b)) mt) : CallB c n f (.builtin "max") [.int a, .int b] loc mt Φ := .two <| by
  intro A g Z stk s Q E u₁ u₂ R e1 e2 H k
  obtain ⟨t, rfl⟩ := H.isInt e1; obtain ⟨u, rfl⟩ := H.isInt e2
  obtain ⟨nd, m, cm, im, mu, I, hl, hk, hm⟩ := id H
  refine max_two_N R.1 I.fr allOf_news fun h' tk F N => ?_
  rw [show (if b > a then b else a) = Max.max a b by rw [Int.max_def]; split <;> split <;> omega]
  exact k _ _ _ _ _ h (St.int ⟨nd, _, cm, im, mu, I.ofFr F N fun q hq => hq, hl, hk, hm⟩ _ _)
theorem CallB.min {a b : Int} {Φ : D → Mt → Prop} (h : Φ (.int (Min.min a b)) mt) : CallB c n f (.builtin "min") [.int a, .int b] loc mt Φ := .two <| by
  intro A g Z stk s Q E u₁ u₂ R e1 e2 H k
  obtain ⟨t, rfl⟩ := H.isInt e1; obtain ⟨u, rfl⟩ := H.isInt e2
  obtain ⟨nd, m, cm, im, mu, I, hl, hk, hm⟩ := id H
  refine min_two_N R.1 I.fr allOf_news fun h' tk F N => ?_
  rw [show (if b < a then b else a) = Min.min a b by rw [Int.min_def]; split <;> split <;> omega]
  exact k _ _ _ _ _ h (St.int ⟨nd, _, cm, im, mu, I.ofFr F N fun q hq => hq, hl, hk, hm⟩ _ _)
theorem CallB.abs {a : Int} {Φ : D → Mt → Prop} (h : Φ (.int (if a < 0 then -a else a)) mt) : CallB c n f (.builtin "abs") [.int a] loc mt Φ := .one <| by
  intro A g Z stk s Q E u R hu H k
  obtain ⟨t, rfl⟩ := H.isInt hu
  exact PyProof.Rows.call_abs_int fun u tk => k _ _ _ s.heap _ h (H.int _ _)
theorem CallB.intBool {b : Bool} {Φ : D → Mt → Prop} (h : Φ (.int (if b then 1 else 0)) mt) : CallB c n f (.type "int") [.bool b] loc mt Φ := .one <| by
  intro A g Z stk s Q E u R hu H k
  rw [H.isBool hu]
  exact call_int_bool (k _ _ _ s.heap _ h (H.int _ _))
theorem StI.afterWalk {it : Obj} {h₂ : Heap} (I : StI c g Z f m cm im mu h) (hk : ∀ b o, b ∉ [h.objs.size] → (h.push it).get? b = some o → h₂.get? b = some o) : StI c g Z f m cm im mu h₂ :=
  I.grow fun b o e => hk b o (fun hm => Nat.lt_irrefl _ (List.mem_singleton.mp hm ▸ Heap.lt_size e)) (Heap.get?_push_of_some _ e)
theorem CallB.sum {ks : List Int} {Φ : D → Mt → Prop} (h : Φ (.int ks.sum) mt) : CallB c n f (.builtin "sum") [.list (iL ks)] loc mt Φ := .one <| by
  intro A g Z stk s Q E u R hu H k
  obtain ⟨nd, m, cm, im, mu, I, hl, hk, hm⟩ := id H
  have R1 : A.in1.handled = none := R.1
  refine call_sum_walkG (iter_walk (A := A.in1) R1 I (.list (iL ks)) (hk _ hu) fun it hfr W => ?_)
  obtain ⟨fp, P, St0, W, w0, wfp, wit, _⟩ := W
  refine ⟨_, fp, _, _, P, St0, fun i => ks.getD i 0, rfl, W, w0, fun b hb => ?_, fun i v hv => ?_, fun h' tk t' hk' => ?_⟩
  · show b < (s.heap.push it).objs.size
    rw [Heap.size_push]
    rcases wfp b hb with rfl | ⟨o, ho⟩
    · exact Nat.lt_succ_self _
    · exact Nat.lt_succ_of_lt (Heap.lt_size (I.imh _ ho).1)
  · obtain ⟨d, e1, e2⟩ := wit i v hv
    have e3 := e2 im fun q hq => hq
    cases e : ks[i]? with
    | none => rw [List.getElem?_map, e] at e1; cases e1
    | some x =>
      rw [List.getElem?_map, e] at e1
      cases e1
      obtain ⟨t, rfl⟩ := e3
      exact ⟨t, by simp [List.getD, e]⟩
  · rw [preSum_getD, List.take_of_length_le (by simp)]
    exact k _ _ _ h' tk h (St.int ⟨nd, m, cm, im, mu, I.afterWalk hk', hl, hk, hm⟩ _ _)
theorem CallB.maxL {ks : List Int} {x : Int} {Φ : D → Mt → Prop} (hne : ks ≠ []) (hx : ∀ y ∈ ks, y = x) (h : Φ (.int x) mt) : CallB c n f (.builtin "max") [.list (iL ks)] loc mt Φ := .one <| by
  intro A g Z stk s Q E u R hu H k
  obtain ⟨nd, m, cm, im, mu, I, hl, hk, hm⟩ := id H
  have R1 : A.in1.handled = none := R.1
  refine call_max_walk (iter_walk (A := A.in1) R1 I (.list (iL ks)) (hk _ hu) fun it hfr W => ?_)
  obtain ⟨fp, P, St0, W, w0, wfp, wit, _⟩ := W
  have val : ∀ i v, P i v → ∃ t, v = .int ((fun _ => x) i) t := fun i v hv => by
    obtain ⟨d, e1, e2⟩ := wit i v hv
    have e3 := e2 im fun q hq => hq
    cases e : ks[i]? with
    | none => rw [List.getElem?_map, e] at e1; cases e1
    | some y =>
      rw [List.getElem?_map, e] at e1
      cases e1
      obtain ⟨t, rfl⟩ := e3
      exact ⟨t, by rw [hx y (List.mem_of_getElem? e)]⟩
  refine ⟨_, fp, _, _, P, St0, _, rfl, W, w0, fun b hb => ?_, by rw [List.length_map]; exact List.length_pos_iff.mpr hne, CmpOf.ints_gt _ val, fun v h' tk hv hk' => ?_⟩
  · show b < (s.heap.push it).objs.size
    rw [Heap.size_push]
    rcases wfp b hb with rfl | ⟨o, ho⟩
    · exact Nat.lt_succ_self _
    · exact Nat.lt_succ_of_lt (Heap.lt_size (I.imh _ ho).1)
  · obtain ⟨t, rfl⟩ := val _ _ hv
    exact k _ _ _ h' tk h (St.int ⟨nd, m, cm, im, mu, I.afterWalk hk', hl, hk, hm⟩ _ _)
theorem CallB.range1 {b : Int} {Φ : D → Mt → Prop} (h : Φ (.range 0 b 1) mt) : CallB c n f (.type "range") [.int b] loc mt Φ := .one <| by
  intro A g Z stk s Q E u R hu H k
  obtain ⟨t, rfl⟩ := H.isInt hu
  obtain ⟨nd, m, cm, im, mu, I, hl, hk, hm⟩ := id H
  refine range1_rows I.fr allOf_news fun h' tk t₁ u₁ v₁ hR F N keep => ?_
  obtain ⟨q1, q2, q3, q4, _⟩ := I.fresh (Nat.le_refl _)
  have sb : ∀ {x : Addr × Obj}, ∀ q ∈ im, q ∈ x :: im := fun q hq => .tail _ hq
  refine k _ _ _ h' tk h ⟨nd, m, cm, _, mu, (I.grow keep).addIm hR q1 q2 q3 q4, locMono sb hl, fun q hq => ?_, hm.mono sb⟩
  rcases List.mem_cons.mp hq with rfl | hq
  · exact ⟨_, _, _, _, rfl, .head _⟩
  · exact (hk q hq).mono sb
theorem CallB.range2 {a b : Int} {Φ : D → Mt → Prop} (h : Φ (.range a b 1) mt) : CallB c n f (.type "range") [.int a, .int b] loc mt Φ := .two <| by
  intro A g Z stk s Q E u₁ u₂ R e1 e2 H k
  obtain ⟨t, rfl⟩ := H.isInt e1; obtain ⟨u, rfl⟩ := H.isInt e2
  obtain ⟨nd, m, cm, im, mu, I, hl, hk, hm⟩ := id H
  refine range2_rows I.fr allOf_news fun h' tk t₁ u₁ v₁ hR F N keep => ?_
  obtain ⟨q1, q2, q3, q4, _⟩ := I.fresh (Nat.le_refl _)
  have sb : ∀ {x : Addr × Obj}, ∀ q ∈ im, q ∈ x :: im := fun q hq => .tail _ hq
  refine k _ _ _ h' tk h ⟨nd, m, cm, _, mu, (I.grow keep).addIm hR q1 q2 q3 q4, locMono sb hl, fun q hq => ?_, hm.mono sb⟩
  rcases List.mem_cons.mp hq with rfl | hq
  · exact ⟨_, _, _, _, rfl, .head _⟩
  · exact (hk q hq).mono sb
theorem CallB.range3 {a b st : Int} {Φ : D → Mt → Prop} (h0 : st ≠ 0) (hp : Builtin.divisionGoesByPylong (b - a) st = false) (h : Φ (.range a b st) mt) : CallB c n f (.type "range") [.int a, .int b, .int st] loc mt Φ := by
  intro A g Z stk s Q E vs R hl' hz H k
  obtain ⟨v₁, v₂, v₃, rfl⟩ := len3 hl'
  obtain ⟨t, rfl⟩ := H.isInt (hz (_, v₁) (.head _)); obtain ⟨u, rfl⟩ := H.isInt (hz (_, v₂) (.tail _ (.head _))); obtain ⟨w, rfl⟩ := H.isInt (hz (_, v₃) (.tail _ (.tail _ (.head _))))
  obtain ⟨nd, m, cm, im, mu, I, hl, hk, hm⟩ := id H
  refine range3_rows I.fr allOf_news h0 (fun h' tk t₁ u₁ v₁ hR F N keep => ?_) (.inl hp)
  obtain ⟨q1, q2, q3, q4, _⟩ := I.fresh (Nat.le_refl _)
  have sb : ∀ {x : Addr × Obj}, ∀ q ∈ im, q ∈ x :: im := fun q hq => .tail _ hq
  refine k _ _ _ h' tk h ⟨nd, m, cm, _, mu, (I.grow keep).addIm hR q1 q2 q3 q4, locMono sb hl, fun q hq => ?_, hm.mono sb⟩
  rcases List.mem_cons.mp hq with rfl | hq
  · exact ⟨_, _, _, _, rfl, .head _⟩
  · exact (hk q hq).mono sb
theorem CallB.listM {d : D} {xs : List D} {Φ : D → Mt → Prop} (h₁ : LstD mt d xs) (hz : xs.length ≤ 1000) (h : ∀ a, Φ (.ref a) ((a, .lst xs) :: mt)) : CallB c n f (.type "list") [d] loc mt Φ := .one <| by
  intro A g Z stk s Q E u R hu H k
  obtain ⟨nd, m, cm, im, mu, I, hl, hk, hm⟩ := id H
  obtain ⟨a, vs, ka, rfl, ga, hne, ra⟩ := lstAt I hm (hk _ hu) h₁
  have l1 := ra.length
  refine kup_listOf I.fr allOf_news (mem_allOf hne ga) rfl (fun D cc h' F N hD => ?_) (by rw [sizeLine_eq]; omega)
  refine k _ _ _ _ s.toks (h _) ⟨nd, _, cm, im, _, I.newAtM F N hD, hl, fun q hq => ?_, ⟨_, _, rfl, ⟨_, cc, rfl, by simpa using ra⟩, hm⟩⟩
  rcases List.mem_cons.mp hq with rfl | hq
  · exact rfl
  · exact hk q hq
theorem CallB.tuple {d : D} {xs : List D} {Φ : D → Mt → Prop} (h₁ : LstD mt d xs) (hz : xs.length ≤ 1000) (h : Φ (.tup xs) mt) : CallB c n f (.type "tuple") [d] loc mt Φ := .one <| by
  intro A g Z stk s Q E u R hu H k
  obtain ⟨nd, m, cm, im, mu, I, hl, hk, hm⟩ := id H
  obtain ⟨a, vs, ka, rfl, ga, hne, ra⟩ := lstAt I hm (hk _ hu) h₁
  have l1 := ra.length
  refine kde_tupleOf I.fr allOf_news (isListOf ga) (by simp at l1; omega) rfl (fun D h' F N hD => ?_)
  have sb : ∀ {x : Addr × Obj}, ∀ q ∈ im, q ∈ x :: im := fun q hq => .tail _ hq
  refine k _ _ _ _ s.toks h ⟨nd, _, cm, _, mu, I.newAt F N hD, locMono sb hl, fun q hq => ?_, hm.mono sb⟩
  rcases List.mem_cons.mp hq with rfl | hq
  · exact ⟨D, _, 0, rfl, .head _, by simpa using ra.mono sb⟩
  · exact (hk q hq).mono sb
end
end Mine

namespace Mine

inductive StK (c : Cx) (g : Heap) (Z : List Addr) (f : Fm) (loc : Lc) (stk : List (D × Value)) (mt : Mt) (K : Led) (h : Heap) : Prop
  | mk (nd : (loc.map (·.1)).Nodup) (m : PySem.Str → Option Value) (cm : Addr → Option Value) (im mu : Led) (r : StI c g Z f m cm (im ++ K) mu h ∧ LocOk f m cm c.P (im ++ K) loc ∧ StkOk c.P (im ++ K) stk ∧ MuOk c.P (im ++ K) mt mu)
section
variable {c : Cx} {n : Nat} {f f' : Fm} {g g' : Heap} {Z : List Addr} {loc loc' : Lc} {stk stk' : List (D × Value)} {mt mt' : Mt} {h h' : Heap} {m m' : PySem.Str → Option Value} {cm cm' : Addr → Option Value} {im im' mu mu' : Led} {S : Scope} {K : Led}
theorem StK.sub (H : StK c g Z f loc stk mt K h) (hs : ∀ q ∈ stk', q ∈ stk) : StK c g Z f loc stk' mt K h := by
  obtain ⟨nd, m, cm, im, mu, I, hl, hk, hm⟩ := H
  exact ⟨nd, m, cm, im, mu, I, hl, fun q hq => hk q (hs q hq), hm⟩
theorem StK.locSub (H : StK c g Z f loc stk mt K h) (hs : List.Sublist loc' loc) : StK c g Z f loc' stk mt K h := by
  obtain ⟨nd, m, cm, im, mu, I, hl, hk, hm⟩ := H
  exact ⟨nd.sublist (hs.map _), m, cm, im, mu, I, fun q hq => hl q (hs.subset hq), hk, hm⟩
theorem StK.work (H : StK c g Z f loc stk mt K h) : ∃ g', St c g' Z f loc stk mt h ∧ ∀ loc' stk' mt' h', St c g' Z f loc' stk' mt' h' → StK c g Z f loc' stk' mt' K h' ∧ ∀ z ∈ Z, ∀ o, h.get? z = some o → h'.get? z = some o := by
  obtain ⟨nd, m, cm, im, mu, I, hl, hk, hm⟩ := H
  obtain ⟨g', J, gg, gmax⟩ := I.maxBase
  refine ⟨g', ⟨nd, m, cm, _, mu, J, hl, hk, hm⟩, fun loc' stk' mt' h' H' => ⟨?_, fun z hz o ho => ?_⟩⟩
  · obtain ⟨nd', m', cm', im', mu', J', hl', hk', hm'⟩ := H'
    have gK : ∀ q ∈ K, g'.get? q.1 = some q.2 ∧ q.1 ≠ f.env.locals ∧ q.1 ∉ f.oc ∧ q.1 ∉ Z := fun q hq => by
      have hq' : q ∈ im ++ K := List.mem_append_right _ hq
      exact ⟨gmax _ _ (I.imh q hq').1 (I.imh q hq').2.1 (I.imh q hq').2.2.1 (fun p hp => I.mi p hp q hq'), (I.imh q hq').2⟩
    have sb : ∀ q ∈ im', q ∈ im' ++ K := fun q hq => List.mem_append_left _ hq
    exact ⟨nd', m', cm', im', mu', StI.unbase I.base I.rc (J'.merge gK) gg, locMono sb hl', stkMono sb hk', hm'.mono sb⟩
  · obtain ⟨nd', m', cm', im', mu', J', _⟩ := H'
    exact J'.keep _ _ (gmax _ _ ho (I.zin z hz).2.1 (I.zin z hz).2.2.1 fun q hq e => (I.muh q hq).2.2.2.2 (e ▸ hz))
theorem StK.zChange {z : Addr} (H : StK c g Z f loc stk mt K h) (hz : z ∈ Z) (hg : g.get? z = none) (hk : ∀ b o, b ≠ z → h.get? b = some o → h'.get? b = some o) (hz' : ∃ o, h'.get? z = some o) : StK c g Z f loc stk mt K h' := by
  obtain ⟨nd, m, cm, im, mu, I, r⟩ := H
  exact ⟨nd, m, cm, im, mu, I.zChange hz hg hk hz', r⟩
noncomputable def EmW (c : Cx) (n : Nat) (f : Fm) (t : Value → Sem Unit) (loc : Lc) (ds : List D) (mt : Mt) (Ψ : List D → Mt → Prop) : Prop :=
  ∀ ⦃A : Around⦄ ⦃g : Heap⦄ ⦃Z : List Addr⦄ ⦃K : Led⦄ ⦃stk : List (D × Value)⦄ ⦃s : Shared⦄ ⦃Q : Unit → Shared → Prop⦄ ⦃E : Value → Shared → Prop⦄ ⦃acc : Addr⦄ ⦃vs : Array Value⦄ ⦃k : Nat⦄,
    Room A n → acc ∈ Z → g.get? acc = none → ds.length = vs.size → ds.length ≤ 1000 → s.heap.get? acc = some (listOf vs k) → StK c g Z f loc (ds.zip vs.toList ++ stk) mt K s.heap →
    (∀ ds' vs' k' loc' mt' h' tk, Ψ ds' mt' → List.Sublist loc loc' → ds'.length = (vs' : Array Value).size → h'.get? acc = some (listOf vs' k') → StK c g Z f loc' (ds'.zip vs'.toList ++ stk) mt' K h' → (∀ z ∈ Z, z ≠ acc → ∀ o, s.heap.get? z = some o → h'.get? z = some o) → Q () { s with heap := h', toks := tk }) →
    wpAny (model c.prog c.w) A (t (.ref acc)) Q E s
theorem zip_snoc {ds : List D} {vs : List Value} {d : D} {v : Value} (hl : ds.length = vs.length) : (ds ++ [d]).zip (vs ++ [v]) = ds.zip vs ++ [(d, v)] := by
  rw [List.zip_append hl]; rfl
theorem EmW.elt {elt : PySem.Expr} {ds : List D} {Ψ : List D → Mt → Prop} (h : TW c n f (eval elt f.env) loc mt (fun r mt' => Ψ (ds ++ [r]) mt')) :
    EmW c n f (fun acc => do let _ ← call (.builtin "list.append") [acc, ← eval elt f.env]) loc ds mt Ψ := by
  intro A g Z K stk s Q E acc vs k R hz hg hl hL ha H kk
  obtain ⟨g', W, back⟩ := H.work
  refine wpAny_bind (h R W fun r v mt' h' tk p H' => ?_)
  obtain ⟨HK, hZ⟩ := back _ _ _ _ H'
  have ha' := hZ acc hz _ ha
  refine wpAny_bind (wpAny_list_append_plain (s := { s with heap := h', toks := tk }) ⟨k, ha'⟩ (fun h'' hp hs => ?_) (by rw [sizeLine_eq, ← hl]; omega))
  obtain ⟨k'', hk''⟩ := hp
  refine wpAny_pure (kk _ (vs.push v) k'' loc _ _ _ p (List.Sublist.refl _) (by simp [hl]) hk'' ?_ fun z hz' hne o ho => (hs.2 z hne).trans (hZ z hz' o ho))
  refine (HK.zChange hz hg (fun b o hb e => (hs.2 b hb).trans e) ⟨_, hk''⟩).sub fun q hq => ?_
  rw [Array.toList_push, zip_snoc (by simpa using hl)] at hq
  rcases List.mem_append.mp hq with hq | hq
  · rcases List.mem_append.mp hq with hq | hq
    · exact .tail _ (List.mem_append_left _ hq)
    · rw [List.mem_singleton.mp hq]; exact .head _
  · exact .tail _ (List.mem_append_right _ hq)
inductive CLoop (c : Cx) (g : Heap) (Z : List Addr) (f : Fm) (loc : Lc) (stk : List (D × Value)) (K : Led) (acc : Addr) (J : Nat → List D → Mt → Prop) (W : Nat → Heap → Prop) (X : Heap → Prop) (N : Nat) (s : Shared) (kk : Nat) (s' : Shared) : Prop
  | mk (i : Nat) (ds : List D) (vs : Array Value) (k : Nat) (mt : Mt) (h : Heap) (tk : Nat) (ek : kk = N + 1 - i) (hi : i ≤ N) (es : s' = { s with heap := h, toks := tk }) (hJ : J i ds mt) (hw : W i h) (hl : ds.length = vs.size) (ha : h.get? acc = some (listOf vs k))
      (H : StK c g Z f loc (ds.zip vs.toList ++ stk) mt K h) (hz : X h)
theorem compLoop_gen {A : Around} {s : Shared} {R : Result → Shared → Prop} {e : PySem.Expr} {depth : Nat} {target : PySem.Expr} {p : Pos} {mid : Value → Sem Unit} {I acc : Addr} {items : List D} {fp : List Addr} {P : Nat → Value → Prop} {St0 : Nat → Heap → Prop} {vs : Array Value} {k : Nat} {ds : List D}
    (J : Nat → List D → Mt → Prop)
    (he : compTurn e depth (.ref I) (.ref acc) f.env = (do
      standAt p
      match ← pyNext (.ref I) with
      | none => pure (.done .next)
      | some v =>
        letOwnedTupleGo target (.ref I) v
        PySem.assign target f.env v
        mid (.ref acc)
        again (.compLoop e depth (.ref I) (.ref acc) f.env)))
    (hden : (model c.prog c.w).den (.compLoop e depth (.ref I) (.ref acc) f.env) = (compTurn e depth (.ref I) (.ref acc) f.env).onRaise (fun x => do noteFrame x f.env; theTreesLotGoes x))
    (hund : A.under (.compLoop e depth (.ref I) (.ref acc) f.env) = A) (hq : (Code.compLoop e depth (.ref I) (.ref acc) f.env).quiet = true)
    (Rm : Room A n) (W : Walks c.prog c.w A I fp [I] items.length P St0) (w0 : St0 0 s.heap) (wfp : ∀ b ∈ fp, b = I ∨ ∃ o, (b, o) ∈ K) (wit : ∀ i v, P i v → ∃ d, items[i]? = some d ∧ ∀ im', (∀ q ∈ K, q ∈ im') → Rep c.P im' d v)
    (wcl : ∀ i h, St0 i h → ∃ o nm, h.get? I = some o ∧ o.cls = .type nm ∧ nm ∈ ["list_iterator", "tuple_iterator", "range_iterator"])
    (hIZ : I ∈ Z) (hgI : g.get? I = none) (hIa : I ≠ acc) (haZ : acc ∈ Z) (hga : g.get? acc = none) (hl : ds.length = vs.size) (ha : s.heap.get? acc = some (listOf vs k)) (H : StK c g Z f loc (ds.zip vs.toList ++ stk) mt K s.heap) (hJ : J 0 ds mt)
    (hlen : ∀ i ds mt, J i ds mt → ds.length ≤ 1000)
    (turn : ∀ i d' ds mt', items[i]? = some d' → J i ds mt' → AsW c n f (PySem.assign target f.env) d' loc mt' (fun loc₂ mt₂ => List.Sublist loc loc₂ ∧ EmW c n f mid loc₂ ds mt₂ (fun ds' mt'' => J (i + 1) ds' mt'')))
    (hR : ∀ ds' vs' k' mt' h' tk, J items.length ds' mt' → ds'.length = (vs' : Array Value).size → h'.get? acc = some (listOf vs' k') → StK c g Z f loc (ds'.zip vs'.toList ++ stk) mt' K h' ∨ (∃ h₀, StK c g Z f loc (ds'.zip vs'.toList ++ stk) mt' K h₀ ∧ ∀ b o, b ≠ I → h₀.get? b = some o → h'.get? b = some o) →
      (∀ z ∈ Z, z ≠ acc → z ≠ I → ∀ o, s.heap.get? z = some o → h'.get? z = some o) → R (.ok .next) { s with heap := h', toks := tk }) :
    codeAny (model c.prog c.w) A (.compLoop e depth (.ref I) (.ref acc) f.env) R s := by
  refine codeAny_loop hq (CLoop c g Z f loc stk K acc J St0 (fun h' => ∀ z ∈ Z, z ≠ acc → z ≠ I → ∀ o, s.heap.get? z = some o → h'.get? z = some o) items.length s) ?_ (items.length + 1)
    ⟨0, ds, vs, k, mt, s.heap, s.toks, rfl, Nat.zero_le _, rfl, hJ, w0, hl, ha, H, fun _ _ _ _ _ e => e⟩
  rintro kk s' ⟨i, ds', vs', k', mt', h', tk', rfl, hi, rfl, hJ', hw, hl', ha', H', hz'⟩
  rw [hund, hden]
  refine wpAny_noted ?_
  rw [he]
  refine wpAny_bind (wpAny_standAt (wpAny_bind ?_))
  by_cases hlt : i < items.length
  · refine W.item i _ _ _ hlt hw fun v h'' tk'' hP hw' hkeep => ?_
    obtain ⟨oI, nm, hoI, hcI, hnm⟩ := wcl _ _ hw'
    have keepI : ∀ b o, b ≠ I → h'.get? b = some o → h''.get? b = some o := fun b o hb e => hkeep b o (fun hm => hb (List.mem_singleton.mp hm)) e
    have H'' := H'.zChange hIZ hgI keepI ⟨oI, hoI⟩
    refine wpAny_bind (letOwned_plain hoI hcI hnm ?_)
    obtain ⟨d', hd', hrep⟩ := wit _ _ hP
    have Hd : StK c g Z f loc ((d', v) :: (ds'.zip vs'.toList ++ stk)) mt' K h'' := by
      obtain ⟨nd, m, cm, im, mu, I₀, hl₀, hk₀, hm₀⟩ := H''
      refine ⟨nd, m, cm, im, mu, I₀, hl₀, fun q hq => ?_, hm₀⟩
      rcases List.mem_cons.mp hq with rfl | hq
      · exact hrep _ fun p hp => List.mem_append_right _ hp
      · exact hk₀ q hq
    obtain ⟨g', Wk, back⟩ := Hd.work
    refine wpAny_bind (turn i d' ds' mt' hd' hJ' Rm (.head _) Wk fun loc₂ mt₂ h₂ tk₂ p₂ H₂ => ?_)
    obtain ⟨HK, hZ⟩ := back _ _ _ _ H₂
    obtain ⟨hsub, em⟩ := p₂
    have ha'' : h''.get? acc = some (listOf vs' k') := keepI _ _ (Ne.symm hIa) ha'
    refine wpAny_bind (em (stk := (d', v) :: stk) Rm haZ hga hl' (hlen _ _ _ hJ') (hZ acc haZ _ ha'') (HK.sub fun q hq => ?_) fun ds₃ vs₃ k₃ loc₃ mt₃ h₃ tk₃ hJ₃ hsub₃ hl₃ ha₃ H₃ hz₃ => ?_)
    · rcases List.mem_append.mp hq with hq | hq
      · exact .tail _ (List.mem_append_left _ hq)
      · rcases List.mem_cons.mp hq with rfl | hq
        · exact .head _
        · exact .tail _ (List.mem_append_right _ hq)
    · refine wpAny_pure ⟨rfl, items.length + 1 - (i + 1), by omega, i + 1, ds₃, vs₃, k₃, mt₃, h₃, tk₃, rfl, hlt, rfl, hJ₃, W.frame _ _ _ hw' fun b hb o e => ?_, hl₃, ha₃, (H₃.locSub (hsub.trans hsub₃)).sub fun q hq => ?_, fun z hz hne hnI o e => ?_⟩
      · rcases wfp b hb with rfl | ⟨ob, hob⟩
        · exact hz₃ _ hIZ hIa _ (hZ _ hIZ _ e)
        · obtain ⟨_, _, _, _, _, I₃, _⟩ := H₃
          obtain ⟨_, _, _, _, _, I₂, _⟩ := H''
          have e2 := (I₂.imh (b, ob) (List.mem_append_right _ hob)).1
          rw [e2] at e
          cases e
          exact (I₃.imh (b, ob) (List.mem_append_right _ hob)).1
      · rcases List.mem_append.mp hq with hq | hq
        · exact List.mem_append_left _ hq
        · exact List.mem_append_right _ (.tail _ hq)
      · exact hz₃ z hz hne _ (hZ z hz _ (keepI _ _ hnI (hz' z hz hne hnI o e)))
  · have e : i = items.length := by omega
    subst e
    refine W.done _ _ _ hw fun h'' tk'' hkeep => ?_
    have keepI : ∀ b o, b ≠ I → h'.get? b = some o → h''.get? b = some o := fun b o hb e => hkeep b o (fun hm => hb (List.mem_singleton.mp hm)) e
    exact wpAny_pure (hR ds' vs' k' mt' h'' tk'' hJ' hl' (keepI _ _ (Ne.symm hIa) ha') (.inr ⟨h', H', keepI⟩) fun z hz hne hnI o e => keepI _ _ hnI (hz' z hz hne hnI o e))
end
end Mine

namespace Mine

theorem closure_of {scope : Scope} {env : Env} (hc : ∀ x, (x, NameKind.free) ∈ scope.names → ∃ a, env.cells.lookup x = some a) :
    ∃ cl : List (PySem.Str × Addr), closureFor scope env = pure cl ∧ ∀ x, (x, NameKind.free) ∈ scope.names → cl.lookup x = env.cells.lookup x := by
  have main : ∀ (names : List (PySem.Str × NameKind)) (acc : List (PySem.Str × Addr)), (∀ x, (x, NameKind.free) ∈ names → ∃ a, env.cells.lookup x = some a) → (∀ x a, (x, a) ∈ acc → env.cells.lookup x = some a) →
      ∃ cl : List (PySem.Str × Addr), (forIn names acc fun (p : PySem.Str × NameKind) (r : List (PySem.Str × Addr)) => (if (p.2 == NameKind.free) = true then do let a ← cellOf env p.1; pure (ForInStep.yield ((p.1, a) :: r)) else pure (ForInStep.yield r) : Sem (ForInStep (List (PySem.Str × Addr))))) = pure cl ∧
        (∀ x a, (x, a) ∈ cl → env.cells.lookup x = some a) ∧ (∀ x, (x, NameKind.free) ∈ names → ∃ a, (x, a) ∈ cl) ∧ ∀ q ∈ acc, q ∈ cl := by
    intro names
    induction names with
    | nil => intro acc _ h2; exact ⟨acc, rfl, h2, fun x hx => (nomatch hx), fun q hq => hq⟩
    | cons p r ih =>
      intro acc h1 h2
      obtain ⟨x, k⟩ := p
      rw [List.forIn_cons]
      by_cases hk : k = NameKind.free
      · subst hk
        obtain ⟨a, ha⟩ := h1 x (.head _)
        obtain ⟨cl, e, c1, c2, c3⟩ := ih ((x, a) :: acc) (fun y hy => h1 y (.tail _ hy)) (fun y b hm => by
          rcases List.mem_cons.mp hm with e | hm
          · cases e; exact ha
          · exact h2 y b hm)
        refine ⟨cl, ?_, c1, fun y hy => ?_, fun q hq => c3 q (.tail _ hq)⟩
        · rw [← e]
          simp only [beq_self_eq_true, if_true]
          unfold cellOf
          rw [ha]
          rfl
        · rcases List.mem_cons.mp hy with e | hy
          · cases e; exact ⟨a, c3 _ (.head _)⟩
          · exact c2 y hy
      · obtain ⟨cl, e, c1, c2, c3⟩ := ih acc (fun y hy => h1 y (.tail _ hy)) h2
        refine ⟨cl, ?_, c1, fun y hy => ?_, c3⟩
        · rw [← e]
          have hb : (k == NameKind.free) = false := by simpa using hk
          simp only [hb, Bool.false_eq_true, if_false]
          rfl
        · rcases List.mem_cons.mp hy with e | hy
          · cases e; exact absurd rfl hk
          · exact c2 y hy
  obtain ⟨cl, e, c1, c2, _⟩ := main scope.names [] hc (fun _ _ h => nomatch h)
  refine ⟨cl, ?_, fun x hx => ?_⟩
  · unfold closureFor
    have : (forIn scope.names ([] : List (PySem.Str × Addr)) fun (x : PySem.Str × NameKind) (r : List (PySem.Str × Addr)) => (match x with
      | (name, kind) => if (kind == NameKind.free) = true then do let a ← cellOf env name; pure (ForInStep.yield ((name, a) :: r)) else pure (ForInStep.yield r) : Sem (ForInStep (List (PySem.Str × Addr))))) = pure cl := e
    first
      | (rw [this]; rfl)
      | (simp only [this]; rfl)
      | exact (by simpa using this)
  · obtain ⟨a, ha⟩ := c2 x hx
    have e1 := c1 x a ha
    have e2 : (cl.lookup x).isSome = true := by
      have : ∀ {l : List (PySem.Str × Addr)}, (x, a) ∈ l → (l.lookup x).isSome = true := by
        intro l
        induction l with
        | nil => intro h; exact nomatch h
        | cons p l ih =>
          intro h
          rw [List.lookup_cons]
          by_cases hp : x == p.1
          · rw [hp]; rfl
          · rcases List.mem_cons.mp h with e | h
            · subst e; simp at hp
            · simp only [hp]; exact ih h
      exact this ha
    obtain ⟨b, hb⟩ := Option.isSome_iff_exists.mp e2
    rw [hb, c1 x b (mem_of_lookup hb)]
theorem relabel_look {env : Env} {x : PySem.Str} {k : NameKind} (hk : k ≠ .free) : ∀ {names : List (PySem.Str × NameKind)}, names.lookup x = some k →
    (names.map fun (n, k) => if (k == NameKind.free && env.scope.kind == .function && env.kindOf n == some .cell) then (n, NameKind.cell) else (n, k)).lookup x = some k
  | (y, j) :: r, h => by
    rw [List.lookup_cons] at h
    rw [List.map_cons]
    show List.lookup x ((if (j == NameKind.free && env.scope.kind == .function && env.kindOf y == some .cell) = true then (y, NameKind.cell) else (y, j)) :: _) = _
    cases hx : x == y with
    | true =>
      rw [hx] at h
      have e : j = k := Option.some.inj h
      subst e
      have hb : ¬ (j == NameKind.free && env.scope.kind == .function && env.kindOf y == some .cell) = true := by simp [hk]
      rw [if_neg hb, List.lookup_cons]; simp only [hx]
    | false =>
      rw [hx] at h
      have ih := relabel_look (env := env) hk h
      by_cases hb : (j == NameKind.free && env.scope.kind == .function && env.kindOf y == some .cell) = true
      · rw [if_pos hb, List.lookup_cons]; simp only [hx]; exact ih
      · rw [if_neg hb, List.lookup_cons]; simp only [hx]; exact ih
theorem relabel_free {env : Env} {x : PySem.Str} : ∀ {names : List (PySem.Str × NameKind)}, names.lookup x = some .free →
    (names.map fun (n, k) => if (k == NameKind.free && env.scope.kind == .function && env.kindOf n == some .cell) then (n, NameKind.cell) else (n, k)).lookup x = some .cell ∨
    (names.map fun (n, k) => if (k == NameKind.free && env.scope.kind == .function && env.kindOf n == some .cell) then (n, NameKind.cell) else (n, k)).lookup x = some .free
  | (y, j) :: r, h => by
    rw [List.lookup_cons] at h
    rw [List.map_cons]
    show List.lookup x ((if (j == NameKind.free && env.scope.kind == .function && env.kindOf y == some .cell) = true then (y, NameKind.cell) else (y, j)) :: _) = _ ∨ List.lookup x ((if (j == NameKind.free && env.scope.kind == .function && env.kindOf y == some .cell) = true then (y, NameKind.cell) else (y, j)) :: _) = _
    cases hx : x == y with
    | true =>
      rw [hx] at h
      have e : j = .free := Option.some.inj h
      subst e
      by_cases hb : (NameKind.free == NameKind.free && env.scope.kind == .function && env.kindOf y == some .cell) = true
      · left; rw [if_pos hb, List.lookup_cons]; simp only [hx]
      · right; rw [if_neg hb, List.lookup_cons]; simp only [hx]
    | false =>
      rw [hx] at h
      rcases relabel_free (env := env) h with ih | ih
      · left
        by_cases hb : (j == NameKind.free && env.scope.kind == .function && env.kindOf y == some .cell) = true
        · rw [if_pos hb, List.lookup_cons]; simp only [hx]; exact ih
        · rw [if_neg hb, List.lookup_cons]; simp only [hx]; exact ih
      · right
        by_cases hb : (j == NameKind.free && env.scope.kind == .function && env.kindOf y == some .cell) = true
        · rw [if_pos hb, List.lookup_cons]; simp only [hx]; exact ih
        · rw [if_neg hb, List.lookup_cons]; simp only [hx]; exact ih
noncomputable def compOk (scope S : Scope) : Bool := (scope.kind == .function) && scope.names.all fun q => (q.2 != .cell) && !(q.1 == ("__classdict__" : PySem.Str)) && (q.2 != .local || scope.names.lookup q.1 == some .local) &&
  (q.2 != .free || S.names.lookup q.1 == some .cell || S.names.lookup q.1 == some .free)
structure CompOk (scope S : Scope) : Prop where
  kind : scope.kind = .function
  cell : ∀ q ∈ scope.names, q.2 ≠ .cell
  cd : ∀ q ∈ scope.names, (q.1 == ("__classdict__" : PySem.Str)) = false
  loc : ∀ q ∈ scope.names, q.2 = .local → scope.names.lookup q.1 = some .local
  free : ∀ q ∈ scope.names, q.2 = .free → S.names.lookup q.1 = some .cell ∨ S.names.lookup q.1 = some .free
theorem CompOk.of {scope S : Scope} (h : compOk scope S = true) : CompOk scope S := by
  unfold compOk at h
  obtain ⟨h1, h2⟩ := Bool.and_eq_true_iff.mp h
  have h3 := List.all_eq_true.mp h2
  refine ⟨by simpa using h1, fun q hq e => ?_, fun q hq => ?_, fun q hq e => ?_, fun q hq e => ?_⟩
  · have := h3 q hq; rw [e] at this; simp at this
  · have := h3 q hq; simp at this; simpa using this.1.1.2
  · have := h3 q hq; rw [e] at this; simp at this; exact this.2
  · have := h3 q hq; rw [e] at this; simp at this; exact this.2
section
variable {c : Cx} {n : Nat} {f : Fm} {g g' : Heap} {Z : List Addr} {loc loc' lf : Lc} {stk stk' : List (D × Value)} {mt mt' : Mt} {h h' : Heap} {m m' : PySem.Str → Option Value} {cm cm' : Addr → Option Value} {im im' mu mu' : Led} {S scope : Scope} {K : Led}
theorem StI.addMu {a : Addr} {o : Obj} (I : StI c g Z f m cm im mu h) (ha : h.get? a = some o) (h1 : a ≠ f.env.locals) (h2 : a ∉ f.oc) (h3 : a ∉ Z) (h4 : ∀ q ∈ mu, q.1 ≠ a) (h5 : ∀ q ∈ im, q.1 ≠ a) (h6 : g.get? a = none) : StI c g Z f m cm im ((a, o) :: mu) h := { I with
  muh := fun q hq => by
    rcases List.mem_cons.mp hq with rfl | hq
    · exact ⟨ha, h1, h2, h6, h3⟩
    · exact I.muh q hq
  mnd := List.nodup_cons.mpr ⟨fun hm => by obtain ⟨q, hq, e⟩ := List.mem_map.mp hm; exact h4 q hq e, I.mnd⟩
  mi := fun q hq r hr => by
    rcases List.mem_cons.mp hq with rfl | hq
    · exact fun e => h5 r hr e.symm
    · exact I.mi q hq r hr }
noncomputable abbrev TurnW (c : Cx) (n : Nat) (f : Fm) (target : PySem.Expr) (mid : Env → Value → Sem Unit) (lf : Lc) (items : List D) (J : Nat → List D → Mt → Prop) : Prop :=
  ∀ i d' ds mt', items[i]? = some d' → J i ds mt' → AsW c n f (PySem.assign target f.env) d' lf mt' (fun loc₂ mt₂ => List.Sublist lf loc₂ ∧ EmW c n f (mid f.env) loc₂ ds mt₂ (fun ds' mt'' => J (i + 1) ds' mt''))
theorem compRun {A : Around} {s : Shared} {E : Value → Shared → Prop} {e target iter : PySem.Expr} {ifs : List PySem.Expr} {rest : List Comprehension} {elt : PySem.Expr} {pos : Pos} {cl : List (PySem.Str × Addr)} {d : D} {v : Value} {items : List D} {mid : Env → Value → Sem Unit} {R : Value → Addr → Result → Shared → Prop} {p : Pos}
    (J : Nat → List D → Mt → Prop) (Rm : Room A n) (G : GF f S) (ok : CompOk scope S) (hcl : ∀ x, (x, NameKind.free) ∈ scope.names → cl.lookup x = f.env.cells.lookup x)
    (hlf : ∀ q ∈ lf, q ∈ loc ∧ scope.names.lookup q.1 = some .free) (hlfn : (lf.map (·.1)).Nodup) (hd : ItD d items)
    (ee : e = .ListComp elt (⟨target, iter, ifs, 0⟩ :: rest) scope pos)
    (he : ∀ I acc env, compTurn e 0 (.ref I) (.ref acc) env = (do
      standAt p
      match ← pyNext (.ref I) with
      | none => pure (.done .next)
      | some v =>
        letOwnedTupleGo target (.ref I) v
        PySem.assign target env v
        mid env (.ref acc)
        again (.compLoop e 0 (.ref I) (.ref acc) env)))
    (H : St c g Z f loc ((d, v) :: stk) mt s.heap) (hJ : J 0 [] mt) (hlen : ∀ i ds mt, J i ds mt → ds.length ≤ 1000)
    (turn : ∀ f', GF f' scope → TurnW c n f' target mid lf items J)
    (hR : ∀ acc C ds mt' h' tk m', J items.length ds mt' → (h' : Heap).Ns C m' → St c g (C :: Z) f loc ((.ref acc, .ref acc) :: stk) ((acc, .lst ds) :: mt') h' → C ∉ Z → g.get? C = none → R (.ref acc) C (.ok .next) { s with heap := h', toks := tk }) :
    wpAny (model c.prog c.w) A (pyIter v) (fun it s₂ => wpAny (model c.prog c.w) A (newList []) (fun acc s₃ => wpAny (model c.prog c.w) A (newFunctionEnv scope f.env.globals cl [] f.env.qual none .none (some f.env)) (fun cenv s₄ =>
      codeAny (model c.prog c.w) A (.compStart e 0 it acc { cenv with scope := relabel scope f.env }) (R acc cenv.locals) s₄) E s₃) E s₂) E s := by
  obtain ⟨nd, m, cm, im, mu, I₀, hloc, hk, hm⟩ := H
  refine iter_walk Rm.1 I₀ hd (hk _ (.head _)) fun it hfr W => wpAny_newList ?_ (by simp [sizeLine_eq])
  obtain ⟨fp, P, St0, W, w0, wfp, wit, wcl⟩ := W
  refine wpAny_newFunctionEnv ok.cell (fun _ hb => (nomatch hb)) (fun h₄ hns₄ hsb₄ => ?_) ok.kind
  dsimp only at hns₄ hsb₄ ⊢
  have z2 : (s.heap.push it).objs.size = s.heap.objs.size + 1 := Heap.size_push ..
  generalize hacc : ({ cls := .type "list", data := .seq ([] : List Value).toArray } : Obj) = oacc at hns₄ hsb₄ ⊢
  have z3 : ((s.heap.push it).push oacc).objs.size = s.heap.objs.size + 2 := by rw [Heap.size_push, z2]
  generalize hC : ((s.heap.push it).push oacc).objs.size = C at hns₄ hsb₄ ⊢
  have hCv : C = s.heap.objs.size + 2 := by rw [← hC]; exact z3
  have keep4 : ∀ b o, ((s.heap.push it).push oacc).get? b = some o → h₄.get? b = some o := fun b o e => hsb₄.extBut b o (by rw [hCv, ← z3]; exact Nat.ne_of_lt (Heap.lt_size e)) (Heap.get?_push_of_some _ e)
  have old4 : ∀ b o, s.heap.get? b = some o → h₄.get? b = some o := fun b o e => keep4 b o (Heap.get?_push_of_some _ (Heap.get?_push_of_some _ e))
  have gIt : h₄.get? s.heap.objs.size = some it := keep4 _ _ (Heap.get?_push_of_some _ (Heap.get?_push_size _ hfr))
  have gAcc : h₄.get? (s.heap.objs.size + 1) = some oacc := keep4 _ _ (z2 ▸ Heap.get?_push_size _ (by rw [← hacc]; rfl))
  let rc' : List (Addr × Value) := (f.oc.filterMap fun a => (cm a).map fun v => (a, v)) ++ f.rc
  let f' : Fm := ⟨{ newEnv scope C f.env.globals cl f.env.qual none .none (some f.env) 0 with scope := relabel scope f.env }, [], rc'⟩
  have eL : f'.env.locals = C := rfl
  have kind' : ∀ x, f'.env.kindOf x = (relabel scope f.env).names.lookup x := fun _ => rfl
  have fr : ∀ x, scope.names.lookup x = some .free → (f'.env.kindOf x = some .cell ∨ f'.env.kindOf x = some .free) ∧ ∃ a, f'.env.cells.lookup x = some a ∧ f.env.cells.lookup x = some a := fun x hx => by
    have hm := mem_of_lookup hx
    obtain ⟨_, a, ha⟩ := G.cl x (ok.free _ hm rfl)
    exact ⟨relabel_free hx, a, (hcl x hm).trans ha, ha⟩
  have G' : GF f' scope := {
    kind := ok.kind
    glob := G.glob
    blt := G.blt
    gi := fun x hx => relabel_look (by decide) hx
    loc := fun x hx => relabel_look (by decide) hx
    cell := fun x hx => relabel_look (by decide) hx
    own := fun x hx => absurd rfl (ok.cell _ (mem_of_lookup hx))
    cl := fun x hx => by
      rcases hx with hx | hx
      · exact absurd rfl (ok.cell _ (mem_of_lookup hx))
      · obtain ⟨h1, a, h2, _⟩ := fr x hx
        exact ⟨h1, a, h2⟩ }
  have J₀ : StI c (hideAll s.heap (mu.map (·.1))) (f.env.locals :: f.oc ++ Z) f' (fun _ => none) cm im mu h₄ := by
    refine I₀.enter old4 hns₄ (by rw [eL, hCv]; omega) (fun a ha => (nomatch ha)) (fun q hq => ?_) (fun x y a ha => (nomatch ha))
    rcases List.mem_append.mp hq with hq | hq
    · obtain ⟨a, ha, e⟩ := List.mem_filterMap.mp hq
      cases e' : cm a with
      | none => rw [e'] at e; cases e
      | some u =>
        rw [e'] at e
        cases e
        refine ⟨e' ▸ (I₀.cell a ha).1, fun hm => ?_⟩
        obtain ⟨r, hr, e⟩ := List.mem_map.mp hm
        exact (I₀.muh r hr).2.2.1 (e ▸ ha)
    · obtain ⟨o, ho, hd⟩ := I₀.rc q hq
      refine ⟨⟨o, I₀.keep _ _ ho, hd⟩, fun hm => ?_⟩
      obtain ⟨r, hr, e⟩ := List.mem_map.mp hm
      have := (I₀.muh r hr).2.2.2.1
      rw [e, ho] at this
      cases this
  obtain ⟨i1, i2, i3, i4, i5, i6⟩ := I₀.fresh (Nat.le_refl _)
  obtain ⟨a1, a2, a3, a4, a5, a6⟩ := I₀.fresh (Nat.le_succ s.heap.objs.size)
  obtain ⟨c1, c2, c3, c4, c5, c6⟩ := I₀.fresh (a := C) (by omega)
  have noG : ∀ a, s.heap.objs.size ≤ a → (hideAll s.heap (mu.map (·.1))).get? a = none := fun a ha => by
    cases e : (hideAll s.heap (mu.map (·.1))).get? a with
    | none => rfl
    | some o => exact absurd (Heap.lt_size (of_hideAll _ e)) (Nat.not_lt.mpr ha)
  have J₁ := (J₀.moreZ ⟨_, gAcc⟩ (by rw [eL, hCv]; exact Nat.ne_of_lt (Nat.lt_succ_self _)) (fun h => (nomatch h)) (Frag.none_of J₀.base.k (noG _ (Nat.le_succ _))) a5 a4).moreZ ⟨_, gIt⟩ (by show s.heap.objs.size ≠ C; rw [hCv]; exact Nat.ne_of_lt (Nat.lt_add_of_pos_right (by decide))) (fun h => (nomatch h)) (Frag.none_of J₀.base.k (noG _ (Nat.le_refl _))) i5 i4
  have hloc' : ∀ q ∈ lf, (q.1 == ("__debug__" : PySem.Str)) = false ∧ ∃ v, VarIs f' (fun _ => none) cm q.1 v ∧ Rep c.P ([] ++ im) q.2 v := fun q hq => by
    obtain ⟨hql, hqf⟩ := hlf q hq
    obtain ⟨hd, u, hu, hr⟩ := hloc q hql
    refine ⟨hd, u, ?_, hr⟩
    obtain ⟨h1, a, h2, h3⟩ := fr _ hqf
    have gk := (G.cl _ (ok.free _ (mem_of_lookup hqf) rfl)).1
    rcases hu with ⟨h4, _⟩ | ⟨b, h4, h5, h6⟩
    · rw [h4] at gk; rcases gk with gk | gk <;> cases gk
    · rw [h3] at h5
      cases h5
      refine .inr ⟨a, h1.imp id fun e => ⟨e, ok.cd _ (mem_of_lookup hqf)⟩, h2, .inr ?_⟩
      rcases h6 with ⟨h6, h7⟩ | h6
      · exact List.mem_append_left _ (List.mem_filterMap.mpr ⟨a, h6, by rw [h7]; rfl⟩)
      · exact List.mem_append_right _ h6
  have HK : StK c (hideAll s.heap (mu.map (·.1))) (s.heap.objs.size :: (s.heap.objs.size + 1) :: (f.env.locals :: f.oc ++ Z)) f' lf (([] : List D).zip (#[] : Array Value).toList ++ stk) mt im h₄ :=
    ⟨hlfn, _, _, [], mu, J₁, hloc', fun q hq => hk q (.tail _ hq), hm⟩
  have loop : ∀ s₄ : Shared, s₄ = { s with heap := h₄, toks := s.toks + ([] : List (PySem.Str × Value)).length } →
      codeAny (model c.prog c.w) A (.compLoop e 0 (.ref s.heap.objs.size) (.ref (s.heap.objs.size + 1)) f'.env) (R (.ref (s.heap.objs.size + 1)) C) s₄ := by
    rintro s₄ rfl
    refine compLoop_gen (s := { s with heap := h₄, toks := s.toks + ([] : List (PySem.Str × Value)).length }) (f := f') (n := n) (target := target) (p := p) (mid := mid f'.env) (ds := []) (vs := #[]) (k := 0) (stk := stk) (mt := mt) (loc := lf) (K := im) J (he _ _ _) (by rw [ee]; rfl) (by rw [ee]; exact Around.under_of_weight rfl) (by rw [ee]; rfl) Rm W
      (W.frame _ _ _ w0 fun b hb o e => keep4 b o (Heap.get?_push_of_some _ e)) (fun b hb => wfp b hb) wit wcl (.head _) (noG _ (Nat.le_refl _)) (Nat.ne_of_lt (Nat.lt_succ_self _)) (.tail _ (.head _)) (noG _ (Nat.le_succ _)) rfl (by rw [← hacc] at gAcc; exact gAcc) HK hJ hlen (turn f' G') ?_
    intro ds' vs' k' mt' h' tk hJ' hl' ha' hend hz
    have hend' : ∃ h₀, StK c (hideAll s.heap (mu.map (·.1))) (s.heap.objs.size :: (s.heap.objs.size + 1) :: (f.env.locals :: f.oc ++ Z)) f' lf (ds'.zip vs'.toList ++ stk) mt' im h₀ ∧ ∀ b o, b ≠ s.heap.objs.size → h₀.get? b = some o → h'.get? b = some o := by
      rcases hend with h | h
      · exact ⟨h', h, fun _ _ _ e => e⟩
      · exact h
    obtain ⟨h₀, ⟨_, m₁, cm₁, im₁, mu₁, J₂, _, hk₂, hm₂⟩, keepI⟩ := hend'
    have J₃ : StI c (hideAll s.heap (mu.map (·.1))) ((s.heap.objs.size + 1) :: (f.env.locals :: f.oc ++ Z)) f' m₁ cm₁ (im₁ ++ im) mu₁ h' := by
      refine J₂.zDrop (fun hm => ?_) (noG _ (Nat.le_refl _)) keepI
      rcases List.mem_cons.mp hm with hm | hm
      · exact absurd hm (Nat.ne_of_lt (Nat.lt_succ_self _))
      · rcases List.mem_append.mp hm with hm | hm
        · rcases List.mem_cons.mp hm with hm | hm
          · exact i1 hm
          · exact i2 hm
        · exact i3 hm
    have accIm : ∀ q ∈ im₁ ++ im, q.1 ≠ s.heap.objs.size + 1 := fun q hq e => (J₃.imh q hq).2.2.2 (e ▸ .head _)
    have accMu : ∀ q ∈ mu₁, q.1 ≠ s.heap.objs.size + 1 := fun q hq e => (J₃.muh q hq).2.2.2.2 (e ▸ .head _)
    have L := I₀.leave J₃.lessZ (fun b o _ e => e)
    have im2 : ∀ q ∈ im₁ ++ im ++ im, q.1 ≠ s.heap.objs.size + 1 := fun q hq => by
      rcases List.mem_append.mp hq with hq | hq
      · exact accIm q hq
      · exact a5 q hq
    have L2 := L.addMu ha' a1 a2 a3 accMu im2 a6
    have nsC : h'.Ns C m₁ := J₃.ns
    obtain ⟨oC, esC, epC, hoC, rC⟩ := id nsC
    have L3 := L2.moreZ (z := C) ⟨oC, hoC⟩ c1 c2 (Frag.none_of I₀.base.k c6) (fun q hq => by
        rcases List.mem_append.mp hq with hq | hq
        · exact (J₃.imh q hq).2.1
        · exact c5 q hq) (fun q hq => by
        rcases List.mem_cons.mp hq with rfl | hq
        · rw [hCv]; exact Nat.ne_of_lt (Nat.lt_succ_self _)
        · exact (J₃.muh q hq).2.1)
    have sb : ∀ q ∈ im, q ∈ im₁ ++ im ++ im := fun q hq => List.mem_append_right _ hq
    have sb' : ∀ q ∈ im₁ ++ im, q ∈ im₁ ++ im ++ im := fun q hq => List.mem_append_left _ hq
    refine hR (s.heap.objs.size + 1) C ds' mt' h' tk m₁ hJ' nsC ⟨nd, m, cm, _, _, L3, locMono sb hloc, fun q hq => ?_, ⟨_, mu₁, rfl, ⟨vs', k', rfl, (repL_zip (by simpa using hl') fun q hq => hk₂ q (List.mem_append_left _ hq)).mono sb'⟩, hm₂.mono sb'⟩⟩ c3 c6
    rcases List.mem_cons.mp hq with rfl | hq
    · exact rfl
    · exact (hk q (.tail _ hq)).mono sb
  have lp := loop _ rfl
  have accA : (Value.ref (s.heap.push it).objs.size) = Value.ref (s.heap.objs.size + 1) := by rw [z2]
  subst ee
  show codeAny _ _ (.compStart _ 0 (.ref s.heap.objs.size) (.ref (s.heap.push it).objs.size) f'.env) (R (.ref (s.heap.push it).objs.size) C) _
  rw [z2]
  exact codeAny_compStart_list lp (W.self 0 _ _ _ (W.frame _ _ _ w0 fun b hb o e => keep4 b o (Heap.get?_push_of_some _ e)) lp)
end
end Mine

namespace Mine

noncomputable abbrev emit1 (elt : PySem.Expr) (env : Env) (acc : Value) : Sem Unit := do let _ ← call (.builtin "list.append") [acc, ← eval elt env]
noncomputable abbrev emitT (cnd elt : PySem.Expr) (env : Env) (acc : Value) : Sem Unit := do
  let ok ← isTrue cnd env (eval cnd env)
  if ok then emit1 elt env acc else pure ()
theorem turn1 (elt target iter : PySem.Expr) (scope : Scope) (pos : Pos) (I acc : Addr) (env : Env) :
    compTurn (.ListComp elt [⟨target, iter, [], 0⟩] scope pos) 0 (.ref I) (.ref acc) env = (do
      standAt iter.pos
      match ← pyNext (.ref I) with
      | none => pure (.done .next)
      | some v =>
        letOwnedTupleGo target (.ref I) v
        PySem.assign target env v
        emit1 elt env (.ref acc)
        again (.compLoop (.ListComp elt [⟨target, iter, [], 0⟩] scope pos) 0 (.ref I) (.ref acc) env)) := by rfl
theorem turnT (cnd elt target iter : PySem.Expr) (scope : Scope) (pos : Pos) (I acc : Addr) (env : Env) :
    compTurn (.ListComp elt [⟨target, iter, [cnd], 0⟩] scope pos) 0 (.ref I) (.ref acc) env = (do
      standAt iter.pos
      match ← pyNext (.ref I) with
      | none => pure (.done .next)
      | some v =>
        letOwnedTupleGo target (.ref I) v
        PySem.assign target env v
        emitT cnd elt env (.ref acc)
        again (.compLoop (.ListComp elt [⟨target, iter, [cnd], 0⟩] scope pos) 0 (.ref I) (.ref acc) env)) := by
  rw [compTurn_list]
  refine bind_congr fun _ => bind_congr fun r => ?_
  cases r with
  | none => rfl
  | some v =>
    refine bind_congr fun _ => bind_congr fun _ => ?_
    simp only [emitT, List.forIn_cons, List.forIn_nil, if_true, bind_assoc, pure_bind]
    refine bind_congr fun ok => ?_
    cases ok with
    | true => simp only [if_true, bind_assoc, emit1]; rfl
    | false => rfl
noncomputable abbrev emit2 (e : PySem.Expr) (iter₂ : PySem.Expr) (env : Env) (acc : Value) : Sem Unit := do
  let x ← eval iter₂ env
  standAt iter₂.pos
  let x ← foldedSetIterable iter₂ env x
  let _ ← runOwn (.compStart e 1 (← holding [x] (pyIter x)) acc env) env
theorem turn2 (elt target iter target₂ iter₂ : PySem.Expr) (scope : Scope) (pos : Pos) (I acc : Addr) (env : Env) :
    compTurn (.ListComp elt [⟨target, iter, [], 0⟩, ⟨target₂, iter₂, [], 0⟩] scope pos) 0 (.ref I) (.ref acc) env = (do
      standAt iter.pos
      match ← pyNext (.ref I) with
      | none => pure (.done .next)
      | some v =>
        letOwnedTupleGo target (.ref I) v
        PySem.assign target env v
        emit2 (.ListComp elt [⟨target, iter, [], 0⟩, ⟨target₂, iter₂, [], 0⟩] scope pos) iter₂ env (.ref acc)
        again (.compLoop (.ListComp elt [⟨target, iter, [], 0⟩, ⟨target₂, iter₂, [], 0⟩] scope pos) 0 (.ref I) (.ref acc) env)) := by
  unfold compTurn
  simp only [List.forIn_nil, pure_bind, if_true, emit2, bind_assoc, bne_self_eq_false, Bool.false_eq_true, if_false, List.getElem?_cons_zero, List.getElem?_cons_succ, Nat.zero_add]
  rfl
theorem turn2b (elt target iter target₂ iter₂ : PySem.Expr) (scope : Scope) (pos : Pos) (I acc : Addr) (env : Env) :
    compTurn (.ListComp elt [⟨target, iter, [], 0⟩, ⟨target₂, iter₂, [], 0⟩] scope pos) 1 (.ref I) (.ref acc) env = (do
      standAt iter₂.pos
      match ← pyNext (.ref I) with
      | none => pure (.done .next)
      | some v =>
        letOwnedTupleGo target₂ (.ref I) v
        PySem.assign target₂ env v
        emit1 elt env (.ref acc)
        again (.compLoop (.ListComp elt [⟨target, iter, [], 0⟩, ⟨target₂, iter₂, [], 0⟩] scope pos) 1 (.ref I) (.ref acc) env)) := by rfl
section
variable {c : Cx} {n : Nat} {f f' : Fm} {g g' : Heap} {Z : List Addr} {loc loc' lf : Lc} {stk stk' : List (D × Value)} {mt mt' : Mt} {h h' : Heap} {m m' : PySem.Str → Option Value} {cm cm' : Addr → Option Value} {im im' mu mu' : Led} {S scope : Scope} {K : Led}
theorem EmW.test {cnd elt : PySem.Expr} {ds : List D} {Ψ : List D → Mt → Prop}
    (h : BW c n f (isTrue cnd f.env (eval cnd f.env)) loc mt (fun b mt₁ => (b = true → TW c n f (eval elt f.env) loc mt₁ (fun r mt' => Ψ (ds ++ [r]) mt')) ∧ (b = false → Ψ ds mt₁))) : EmW c n f (emitT cnd elt f.env) loc ds mt Ψ := by
  intro A g Z K stk s Q E acc vs k R hz hg hl hL ha H kk
  obtain ⟨g', W, back⟩ := H.work
  refine wpAny_bind (h R W fun b mt' h' tk p H' => ?_)
  obtain ⟨HK, hZ⟩ := back _ _ _ _ H'
  have ha' := hZ acc hz _ ha
  cases b with
  | true =>
    exact (EmW.elt (p.1 rfl)) R hz hg hl hL (s := { s with heap := h', toks := tk }) ha' HK fun ds' vs' k' loc' mt'' h'' tk' p' hs hl' ha'' H'' hz' => kk ds' vs' k' loc' mt'' h'' tk' p' hs hl' ha'' H'' fun z hz₁ hne o e => hz' z hz₁ hne o (hZ z hz₁ o e)
  | false => exact wpAny_pure (kk ds vs k loc mt' h' tk (p.2 rfl) (List.Sublist.refl _) hl ha' HK fun z hz₁ _ o e => hZ z hz₁ o e)
theorem codeAny_compStart_gen {prog : Program} {w : World} {A : Around} {R : Result → Shared → Prop} {s : Shared} {elt : PySem.Expr} {gens : List Comprehension} {gn : Comprehension} {scope : Scope} {pos : Pos} {depth : Nat} {it acc : Value} {env : Env} (hg : gens[depth]? = some gn) (ha : gn.is_async = 0)
    (hund : A.under (.compStart (.ListComp elt gens scope pos) depth it acc env) = A) (hden : (model prog w).den (.compStart (.ListComp elt gens scope pos) depth it acc env) = (compStart (.ListComp elt gens scope pos) depth it acc env).onRaise (fun x => do noteFrame x env; standAt theWindowsPlace))
    (hq : (Code.compStart (.ListComp elt gens scope pos) depth it acc env).quiet = true) (hq' : ∀ it, (Code.compLoop (.ListComp elt gens scope pos) depth it acc env).quiet = true)
    (h0 : codeAny (model prog w) A (.compLoop (.ListComp elt gens scope pos) depth it acc env) R s)
    (h : wpAny (model prog w) A (pyIter it) (fun it' s' => codeAny (model prog w) A (.compLoop (.ListComp elt gens scope pos) depth it' acc env) R s') (notedBy (model prog w) A env fun x s' => R (.error x) s') s) :
    codeAny (model prog w) A (.compStart (.ListComp elt gens scope pos) depth it acc env) R s := by
  refine codeAny_of_tree ?_
  rw [hund, hden]
  refine wpAny_notedAt ?_
  unfold compStart
  have hc : (clausesOf (.ListComp elt gens scope pos))[depth]? = some gn := hg
  rw [hc]
  simp only [Option.elim, ha, bne_self_eq_false, Bool.false_eq_true, if_false]
  refine wpAny_bind (wpAny_askSetting (wpAny_ite ?_))
  split
  · first
      | exact wpAny_bind (wpAny_pure (wpAny_pure (And.intro (hq' _) h0)))
      | exact wpAny_pure (And.intro (hq' _) h0)
  · refine wpAny_bind (wpAny_rule ?_)
    exact wpAny_bind (wpAny_standAt (wpAny_bind (wpAny_mono h (fun it' s' h' => wpAny_pure (And.intro (hq' _) h')) fun _ _ x => x)))
theorem EmW.inner {elt target iter target₂ iter₂ : PySem.Expr} {pos : Pos} {ds : List D} {Ψ : List D → Mt → Prop}
    (h : TW c n f (eval iter₂ f.env) loc mt (fun d mt₁ => ∃ items, ∃ J : Nat → List D → Mt → Prop, ItD d items ∧ J 0 ds mt₁ ∧ (∀ i ds mt, J i ds mt → ds.length ≤ 1000) ∧
      (∀ i d' ds mt', items[i]? = some d' → J i ds mt' → AsW c n f (PySem.assign target₂ f.env) d' loc mt' (fun loc₂ mt₂ => List.Sublist loc loc₂ ∧ TW c n f (eval elt f.env) loc₂ mt₂ (fun r mt₃ => J (i + 1) (ds ++ [r]) mt₃))) ∧
      (∀ ds' mt', J items.length ds' mt' → Ψ ds' mt')))
    (hs : ∀ env x, foldedSetIterable iter₂ env x = pure x := by intros; rfl) :
    EmW c n f (emit2 (.ListComp elt [⟨target, iter, [], 0⟩, ⟨target₂, iter₂, [], 0⟩] scope pos) iter₂ f.env) loc ds mt Ψ := by
  intro A g Z K stk s Q E acc vs k R hz hg hl hL ha H kk
  obtain ⟨g', W, back⟩ := H.work
  refine wpAny_bind (h R W fun d v mt₁ h₁ tk₁ p₁ H₁ => ?_)
  obtain ⟨items, J, hd, hJ, hlen, turn, fin⟩ := p₁
  refine wpAny_bind (wpAny_standAt (wpAny_bind (wpAny_of_eq (hs _ _) ?_)))
  obtain ⟨HK, hZ⟩ := back _ _ _ _ H₁
  have ha₁ := hZ acc hz _ ha
  obtain ⟨nd, m, cm, im, mu, I₀, hloc, hk, hm⟩ := id HK
  refine wpAny_bind (wpAny_holding (iter_walk R.1 I₀ hd (hk _ (.head _)) fun it hfr W => ?_))
  obtain ⟨fp, P, St0, W, w0, wfp, wit, wcl⟩ := W
  obtain ⟨i1, i2, i3, i4, i5, i6⟩ := I₀.fresh (Nat.le_refl _)
  have gIt : (h₁.push it).get? h₁.objs.size = some it := Heap.get?_push_size _ hfr
  have up : ∀ b o, h₁.get? b = some o → (h₁.push it).get? b = some o := fun b o e => Heap.get?_push_of_some _ e
  have I₁ := (I₀.grow up).moreZ ⟨_, gIt⟩ i1 i2 (Frag.none_of I₀.base.k i6) i5 i4
  have HK₁ : StK c g (h₁.objs.size :: Z) f loc (ds.zip vs.toList ++ stk) mt₁ (im ++ K) (h₁.push it) := ⟨nd, m, cm, [], mu, I₁, hloc, fun q hq => hk q (.tail _ hq), hm⟩
  have accI : h₁.objs.size ≠ acc := fun e => i3 (e ▸ hz)
  have finish : ∀ ds' vs' k' mt' h' tk, J items.length ds' mt' → ds'.length = (vs' : Array Value).size → h'.get? acc = some (listOf vs' k') → (StK c g (h₁.objs.size :: Z) f loc (ds'.zip vs'.toList ++ stk) mt' (im ++ K) h' ∨ (∃ h₀, StK c g (h₁.objs.size :: Z) f loc (ds'.zip vs'.toList ++ stk) mt' (im ++ K) h₀ ∧ ∀ b o, b ≠ h₁.objs.size → h₀.get? b = some o → h'.get? b = some o)) →
      (∀ z ∈ h₁.objs.size :: Z, z ≠ acc → z ≠ h₁.objs.size → ∀ o, (h₁.push it).get? z = some o → h'.get? z = some o) → Q () { s with heap := h', toks := tk } := fun ds' vs' k' mt' h' tk hJ' hl' ha' hend hz' => by
    have hend' : ∃ h₀, StK c g (h₁.objs.size :: Z) f loc (ds'.zip vs'.toList ++ stk) mt' (im ++ K) h₀ ∧ ∀ b o, b ≠ h₁.objs.size → h₀.get? b = some o → h'.get? b = some o := by
      rcases hend with h | h
      · exact ⟨h', h, fun _ _ _ e => e⟩
      · exact h
    obtain ⟨h₀, ⟨nd₂, m₂, cm₂, im₂, mu₂, J₂, hl₂, hk₂, hm₂⟩, keepI⟩ := hend'
    have J₃ := J₂.zDrop i3 i6 keepI
    rw [← List.append_assoc] at J₃ hl₂ hk₂ hm₂
    exact kk ds' vs' k' loc mt' h' tk (fin _ _ hJ') (List.Sublist.refl _) hl' ha' ⟨nd₂, m₂, cm₂, im₂ ++ im, mu₂, J₃, hl₂, hk₂, hm₂⟩ fun z hz₁ hne o e => hz' z (.tail _ hz₁) hne (fun e => i3 (e ▸ hz₁)) o (up _ _ (hZ z hz₁ o e))
  refine wpAny_bind (wpAny_runOwn ?_)
  have lp : codeAny (model c.prog c.w) A (.compLoop (.ListComp elt [⟨target, iter, [], 0⟩, ⟨target₂, iter₂, [], 0⟩] scope pos) 1 (.ref h₁.objs.size) (.ref acc) f.env) (fun r s' => match r with | .ok _ => wpAny (model c.prog c.w) A (pure ()) Q E s' | .error e => cameBackBy (model c.prog c.w) A f.env E e s') { s with heap := h₁.push it, toks := tk₁ } := by
    refine compLoop_gen (s := { s with heap := h₁.push it, toks := tk₁ }) (f := f) (n := n) (target := target₂) (p := iter₂.pos) (mid := emit1 elt f.env) (ds := ds) (vs := vs) (k := k) (stk := stk) (mt := mt₁) (loc := loc) (K := im ++ K) J (turn2b ..) rfl (Around.under_of_weight rfl) rfl R W w0 wfp wit wcl
      (.head _) i6 accI (.tail _ hz) hg hl (up _ _ ha₁) HK₁ hJ hlen (fun i d' ds mt' hi hJ' => ?_) fun ds' vs' k' mt' h' tk hJ' hl' ha' hend hz' => wpAny_pure (finish ds' vs' k' mt' h' tk hJ' hl' ha' hend hz')
    intro A' g'' Z' stk' s' Q' E' u R' hu H' kk'
    exact turn i d' ds mt' hi hJ' R' hu H' fun loc₂ mt₂ h₂ tk₂ p H₂ => kk' loc₂ mt₂ h₂ tk₂ ⟨p.1, EmW.elt p.2⟩ H₂
  exact codeAny_compStart_gen (gn := ⟨target₂, iter₂, [], 0⟩) rfl rfl (Around.under_of_weight rfl) rfl rfl (fun _ => rfl) lp (W.self 0 _ _ _ w0 lp)
end
end Mine

namespace Mine

inductive CompE (elt : PySem.Expr) (scope : Scope) (pos : Pos) : PySem.Expr → PySem.Expr → PySem.Expr → (Env → Value → Sem Unit) → Prop
  | one (target iter : PySem.Expr) : CompE elt scope pos (.ListComp elt [⟨target, iter, [], 0⟩] scope pos) target iter (emit1 elt)
  | test (target iter cnd : PySem.Expr) : CompE elt scope pos (.ListComp elt [⟨target, iter, [cnd], 0⟩] scope pos) target iter (emitT cnd elt)
  | two (target iter target₂ iter₂ : PySem.Expr) : CompE elt scope pos (.ListComp elt [⟨target, iter, [], 0⟩, ⟨target₂, iter₂, [], 0⟩] scope pos) target iter (emit2 (.ListComp elt [⟨target, iter, [], 0⟩, ⟨target₂, iter₂, [], 0⟩] scope pos) iter₂)
theorem CompE.turn {elt e target iter : PySem.Expr} {scope : Scope} {pos : Pos} {mid : Env → Value → Sem Unit} (h : CompE elt scope pos e target iter mid) : ∃ ifs rest, e = .ListComp elt (⟨target, iter, ifs, 0⟩ :: rest) scope pos ∧
    ∀ I acc env, compTurn e 0 (.ref I) (.ref acc) env = (do
      standAt iter.pos
      match ← pyNext (.ref I) with
      | none => pure (.done .next)
      | some v =>
        letOwnedTupleGo target (.ref I) v
        PySem.assign target env v
        mid env (.ref acc)
        again (.compLoop e 0 (.ref I) (.ref acc) env)) := by
  cases h with
  | one => exact ⟨[], [], rfl, fun I acc env => turn1 elt target iter scope pos I acc env⟩
  | test t i cnd => exact ⟨[cnd], [], rfl, fun I acc env => turnT cnd elt target iter scope pos I acc env⟩
  | two t i t₂ i₂ => exact ⟨[], _, rfl, fun I acc env => turn2 elt target iter t₂ i₂ scope pos I acc env⟩
section
variable {c : Cx} {n : Nat} {f f' : Fm} {g g' : Heap} {Z : List Addr} {loc loc' lf : Lc} {stk stk' : List (D × Value)} {mt mt' : Mt} {h h' : Heap} {m m' : PySem.Str → Option Value} {cm cm' : Addr → Option Value} {im im' mu mu' : Led} {S scope : Scope} {K : Led}
noncomputable def CompW (c : Cx) (n : Nat) (f : Fm) (S scope : Scope) (target iter : PySem.Expr) (mid : Env → Value → Sem Unit) (lf : Lc) (loc : Lc) (mt : Mt) (Φ : List D → Mt → Prop) : Prop :=
  compOk scope S = true ∧ (∀ q ∈ lf, q ∈ loc ∧ scope.names.lookup q.1 = some .free) ∧ (lf.map (·.1)).Nodup ∧
  TW c n f (eval iter f.env) loc mt (fun d mt₁ => ∃ items, ∃ J : Nat → List D → Mt → Prop, ItD d items ∧ J 0 [] mt₁ ∧ (∀ i ds mt, J i ds mt → ds.length ≤ 1000) ∧
    (∀ f', GF f' scope → TurnW c n f' target mid lf items J) ∧ (∀ ds mt', J items.length ds mt' → Φ ds mt'))
theorem TW.compM {elt e target iter : PySem.Expr} {pos : Pos} {mid : Env → Value → Sem Unit} {Φ : D → Mt → Prop} (lf : Lc) (G : GF f S) (ce : CompE elt scope pos e target iter mid)
    (h : CompW c n f S scope target iter mid lf loc mt (fun ds mt' => ∀ a, Φ (.ref a) ((a, .lst ds) :: mt'))) (hs : ∀ env x, foldedSetIterable iter env x = pure x := by intros; rfl) : TW c n f (eval e f.env) loc mt Φ := by
  intro A g Z stk s Q E R H k
  obtain ⟨hok, hlf, hnd, h⟩ := h
  have ok := CompOk.of hok
  obtain ⟨ifs, rest, rfl, he⟩ := ce.turn
  obtain ⟨cl, hclos, hcl⟩ := closure_of (scope := scope) (env := f.env) fun x hx => (G.cl x (ok.free _ hx rfl)).2
  rw [eval_ListComp]
  refine wpAny_comprehension_free (use := Option.none) (e := .ListComp elt (⟨target, iter, ifs, 0⟩ :: rest) scope pos) (g := ⟨target, iter, ifs, 0⟩) (gs := rest) rfl (hs f.env) hclos ok.kind ok.loc (h R H fun d v mt₁ h₁ tk₁ p₁ H₁ => ?_)
  obtain ⟨items, J, hd, hJ, hlen, turn, fin⟩ := p₁
  refine compRun (s := { s with heap := h₁, toks := tk₁ }) (R := compPost (model c.prog c.w) A E Option.none Q) J R G ok hcl hlf hnd hd rfl he H₁ hJ hlen turn fun acc C ds mt' h' tk m' hJ' hns HC hCZ hgC => ?_
  refine ⟨m', hns, fun h'' hsb => ?_⟩
  refine k _ _ _ _ _ (fin _ _ hJ' acc) ?_
  obtain ⟨nd, m, cm, im, mu, I, r⟩ := HC
  exact ⟨nd, m, cm, im, mu, I.zDrop hCZ hgC fun b o hb e => (hsb.2 b hb).trans e, r⟩
theorem TW.comp {elt e target iter : PySem.Expr} {pos : Pos} {mid : Env → Value → Sem Unit} {Φ : D → Mt → Prop} (lf : Lc) (G : GF f S) (ce : CompE elt scope pos e target iter mid)
    (h : CompW c n f S scope target iter mid lf loc mt (fun ds mt' => Φ (.list ds) mt')) (hs : ∀ env x, foldedSetIterable iter env x = pure x := by intros; rfl) : TW c n f (eval e f.env) loc mt Φ := by
  refine TW.frz (TW.compM lf G ce ?_ hs)
  obtain ⟨h1, h2, h3, h4⟩ := h
  refine ⟨h1, h2, h3, h4.mono fun d mt₁ p => ?_⟩
  obtain ⟨items, J, hd, hJ, hlen, turn, fin⟩ := p
  exact ⟨items, J, hd, hJ, hlen, turn, fun ds mt' hJ' a => ⟨a, ds, mt', rfl, .head, fin ds mt' hJ'⟩⟩
theorem ExW.assignCM {elt e target iter : PySem.Expr} {x : PySem.Str} {px pos spos : Pos} {mid : Env → Value → Sem Unit} {Φ : Fl → Lc → Mt → Prop} (lf : Lc) (G : GF f S) (hx : Sto S x) (ce : CompE elt scope pos e target iter mid)
    (hsw : swapsWith e (some (.Name x px)) spos.line f.env = pure true)
    (h : CompW c n f S scope target iter mid lf loc mt (fun ds mt' => ∀ a, ∃ loc', SetL x (.ref a) loc loc' ∧ Φ .next loc' ((a, .lst ds) :: mt'))) (hs : ∀ env x, foldedSetIterable iter env x = pure x := by intros; rfl) :
    ExW c n f (exec (.Assign [.Name x px] e spos) f.env) loc mt Φ := by
  intro A g Z stk s Q E R H k
  obtain ⟨hok, hlf, hnd, h⟩ := h
  have ok := CompOk.of hok
  rw [exec_Assign_Name_used _ _ _ _ hsw]
  obtain ⟨ifs, rest, rfl, he⟩ := ce.turn
  obtain ⟨cl, hclos, hcl⟩ := closure_of (scope := scope) (env := f.env) fun x hx => (G.cl x (ok.free _ hx rfl)).2
  refine wpAny_bind (wpAny_standAt (wpAny_bind ?_))
  show wpAny _ A (do let _ ← comprehension (.ListComp elt (⟨target, iter, ifs, 0⟩ :: rest) scope pos) scope f.env _ (newList []) false (eval iter f.env) (some (PySem.assign (.Name x px) f.env))) _ _ s
  refine wpAny_bind (wpAny_mono (wpAny_comprehension_free (use := some (PySem.assign (.Name x px) f.env)) (Q := fun _ s' => Q .next s') (g := ⟨target, iter, ifs, 0⟩) (gs := rest) rfl (hs f.env) hclos ok.kind ok.loc (h R H fun d v mt₁ h₁ tk₁ p₁ H₁ => ?_)) (fun _ s' hq => wpAny_pure (wpAny_pure hq)) fun _ _ e => e)
  obtain ⟨items, J, hd, hJ, hlen, turn, fin⟩ := p₁
  refine compRun (s := { s with heap := h₁, toks := tk₁ }) (R := compPost (model c.prog c.w) A E (some (PySem.assign (.Name x px) f.env)) (fun _ s' => Q .next s')) J R G ok hcl hlf hnd hd rfl he H₁ hJ hlen turn fun acc C ds mt' h' tk m' hJ' hns HC hCZ hgC => ?_
  show wpAny _ A (PySem.assign (.Name x px) f.env (.ref acc)) _ _ _
  obtain ⟨loc', hl, hΦ⟩ := fin _ _ hJ' acc
  obtain ⟨nd, m, cm, im, mu, I, hloc, hk, hm⟩ := id HC
  obtain ⟨g', J', gg, gmax⟩ := I.maxBase
  obtain ⟨oC, esC, epC, hoC, rC⟩ := hns
  have zC := (I.zin C (.head _)).2
  have gC := gmax C oC hoC zC.1 zC.2.1 (fun q hq e => (I.muh q hq).2.2.2.2 (e ▸ .head _))
  have HC' : St c g' (C :: Z) f loc ((.ref acc, .ref acc) :: stk) ((acc, .lst ds) :: mt') h' := ⟨nd, m, cm, im, mu, J', hloc, hk, hm⟩
  refine wpAny_assign_Name (HC'.store (s := { s with heap := h', toks := tk }) (.head _) G.kind (hx.kind G) hx.2 hl fun h'' tk'' H'' => ?_)
  obtain ⟨nd₂, m₂, cm₂, im₂, mu₂, J₂, hl₂, hk₂, hm₂⟩ := H''
  refine ⟨_, ⟨oC, esC, epC, J₂.keep _ _ gC, rC⟩, fun h₃ hsb => ?_⟩
  have I₂ := StI.unbase I.base I.rc J₂ gg
  exact k .next _ [] _ _ _ _ hΦ ⟨rfl, rfl⟩ ⟨nd₂, m₂, cm₂, im₂, mu₂, I₂.zDrop hCZ hgC fun b o hb e => (hsb.2 b hb).trans e, hl₂, fun q hq => hk₂ q (.tail _ hq), hm₂⟩
theorem ExW.frz {t : Sem Flow} {Φ : Fl → Lc → Mt → Prop} (h : ExW c n f t loc mt (fun fl loc₁ mt₁ => fl = .next ∧ ∃ x a ds loc₂ mt₂, (x, D.ref a) ∈ loc₁ ∧ Rem a (.lst ds) mt₁ mt₂ ∧ SetAt x (.list ds) loc₁ loc₂ ∧ Φ .next loc₂ mt₂)) : ExW c n f t loc mt Φ := by
  intro A g Z stk s Q E R H k
  refine h R H fun fl w l loc₁ mt₁ h₁ tk₁ p hfl H₁ => ?_
  obtain ⟨rfl, x, a, ds, loc₂, mt₂, hx, hr, hset, hΦ⟩ := p
  obtain ⟨rfl, rfl⟩ := hfl
  obtain ⟨pre, post, rfl, rfl⟩ := hr.split
  refine k .next _ [] loc₂ _ _ _ hΦ ⟨rfl, rfl⟩ ?_
  obtain ⟨nd, m, cm, im, mu, I, hl, hk, hm⟩ := H₁.freeze
  refine ⟨hset.names.1 ▸ nd, m, cm, im, mu, I, fun q hq => ?_, fun q hq => hk q (.tail _ hq), hm⟩
  rcases hset.mem nd q hq with rfl | ⟨hq, _⟩
  · obtain ⟨hd, v, hv, hr⟩ := hl _ hx
    have e : v = .ref a := hr
    subst e
    exact ⟨hd, _, hv, hk _ (.head _)⟩
  · exact hl q hq
end
end Mine

namespace Mine

theorem RepF.get {P : Params} {im : Led} {x : PySem.Str} {d : D} : ∀ {fs : List (PySem.Str × D)} {es : List DictEntry}, RepF P im fs es → fs.lookup x = some d → ∃ v, getL x es = some (some v) ∧ Rep P im d v
  | [], _, _, h => nomatch h
  | (y, e) :: fs, _, h, hl => by
    obtain ⟨t, v, r, rfl, h1, h2⟩ := h
    rw [List.lookup_cons] at hl
    cases hxy : x == y with
    | true =>
      rw [hxy] at hl
      cases hl
      refine ⟨v, ?_, h1⟩
      unfold getL
      rw [List.find?_cons]
      have : (Value.str y t).isStr x = true := by show (y == x) = true; rw [beq_iff_eq] at hxy ⊢; exact hxy.symm
      simp only [this]
    | false =>
      rw [hxy] at hl
      obtain ⟨u, e1, e2⟩ := RepF.get h2 hl
      refine ⟨u, ?_, e2⟩
      rw [← e1]
      unfold getL
      rw [List.find?_cons]
      have : (Value.str y t).isStr x = false := by
        show (y == x) = false
        cases q : y == x with
        | false => rfl
        | true => rw [beq_iff_eq] at q; rw [q] at hxy; simp at hxy
      simp only [this]
      have hr : (⟨PyData.keyHash P y, .str y t, v⟩ : DictEntry).refKey = false := rfl
      rw [List.any_cons, hr, Bool.false_or]
theorem RepF.keys {P : Params} {im : Led} : ∀ {fs : List (PySem.Str × D)} {es : List DictEntry}, RepF P im fs es → (∀ x, x ∉ fs.map (·.1) → es.find? (·.key.isStr x) = none) ∧ es.any (·.refKey) = false ∧ es.length = fs.length
  | [], _, h => by rw [h]; exact ⟨fun _ _ => rfl, rfl, rfl⟩
  | (y, e) :: fs, _, h => by
    obtain ⟨t, v, r, rfl, h1, h2⟩ := h
    obtain ⟨i1, i2, i3⟩ := RepF.keys h2
    refine ⟨fun x hx => ?_, ?_, by simp [i3]⟩
    · rw [List.find?_cons]
      have : (Value.str y t).isStr x = false := by
        show (y == x) = false
        cases q : y == x with
        | false => rfl
        | true => exact absurd (.head _) (beq_iff_eq.mp q ▸ hx)
      simp only [this]
      exact i1 x fun h => hx (.tail _ h)
    · have hr : (⟨PyData.keyHash P y, .str y t, v⟩ : DictEntry).refKey = false := rfl
      rw [List.any_cons, hr, i2]; rfl
theorem RepF.none {P : Params} {im : Led} {x : PySem.Str} {fs : List (PySem.Str × D)} {es : List DictEntry} (h : RepF P im fs es) (hx : x ∉ fs.map (·.1)) : getL x es = some Option.none := by
  obtain ⟨i1, i2, _⟩ := h.keys
  unfold getL
  rw [i1 x hx]
  simp [i2]
theorem RepF.snoc {P : Params} {im : Led} {x : PySem.Str} {d : D} {t : Tok} {v : Value} (hd : Rep P im d v) : ∀ {fs : List (PySem.Str × D)} {es : List DictEntry}, RepF P im fs es → x ∉ fs.map (·.1) →
    putL x (PyData.keyHash P x) (.str x t) v es = es ++ [⟨PyData.keyHash P x, .str x t, v⟩] ∧ RepF P im (fs ++ [(x, d)]) (es ++ [⟨PyData.keyHash P x, .str x t, v⟩])
  | [], _, h, _ => by rw [h]; exact ⟨rfl, t, v, [], rfl, hd, rfl⟩
  | (y, e) :: fs, _, h, hx => by
    obtain ⟨u, w, r, rfl, h1, h2⟩ := h
    obtain ⟨i1, i2⟩ := RepF.snoc (t := t) hd h2 fun h => hx (.tail _ h)
    refine ⟨?_, u, w, _, rfl, h1, i2⟩
    have : (Value.str y u).isStr x = false := by
      show (y == x) = false
      cases q : y == x with
      | false => rfl
      | true => exact absurd (.head _) (beq_iff_eq.mp q ▸ hx)
    simp only [putL, this, Bool.false_eq_true, if_false, i1, List.cons_append]
structure ClsK (K : Frag) (C : Addr) : Prop where
  get : ∀ x, plainGet K C x = true
  dict : hasDictIn K C = true
  set : findIn K (.ref C) "__setattr__" = some (some (.builtin "object.__setattr__"))
  over : plainOver K C = true
theorem handedRep {P : Params} {im : Led} : ∀ {d : D} {v : Value}, Rep P im d v → handedIn v = true
  | .none, _, h => by rw [h]; rfl
  | .bool _, _, h => by rw [h]; rfl
  | .int _, _, h => by obtain ⟨_, rfl⟩ := h; rfl
  | .str _, _, h => by obtain ⟨_, rfl⟩ := h; rfl
  | .list _, _, h => by obtain ⟨_, _, _, rfl, _⟩ := h; rfl
  | .tup _, _, h => by obtain ⟨_, _, _, rfl, _⟩ := h; rfl
  | .ref _, _, h => by rw [h]; rfl
  | .inst _ _, _, h => by obtain ⟨_, _, _, _, rfl, _⟩ := h; rfl
  | .slf _ _, _, h => by obtain ⟨_, rfl, _⟩ := h; rfl
  | .range _ _ _, _, h => by obtain ⟨_, _, _, _, rfl, _⟩ := h; rfl
section
variable {c : Cx} {n : Nat} {f : Fm} {g g' : Heap} {Z : List Addr} {loc loc' : Lc} {stk stk' : List (D × Value)} {mt mt' : Mt} {h h' : Heap} {m m' : PySem.Str → Option Value} {cm cm' : Addr → Option Value} {im im' mu mu' : Led} {S : Scope}
theorem StI.updNs {l r : Led} {a : Addr} {o o' : Obj} (I : StI c g Z f m cm im (l ++ (a, o) :: r) h) (kp : ∀ b x, b ≠ a → b ≠ f.env.locals → h.get? b = some x → h'.get? b = some x) (hn : h'.Ns f.env.locals m') (ho : h'.get? a = some o') : StI c g Z f m' cm im (l ++ (a, o') :: r) h' := by
  have A := I.muh (a, o) (List.mem_append_right _ (.head _))
  have nd := I.mnd
  have off : ∀ q ∈ l ++ r, q.1 ≠ a := by
    rw [List.map_append, List.map_cons, List.nodup_append] at nd
    obtain ⟨n1, n2, n3⟩ := nd
    intro q hq e
    rcases List.mem_append.mp hq with hq | hq
    · exact n3 q.1 (List.mem_map_of_mem hq) a (.head _) e
    · have := (List.nodup_cons.mp n2).1
      exact this (List.mem_map.mpr ⟨q, hq, e⟩)
  exact {
    base := I.base
    keep := fun b x e => kp b x (by rintro rfl; rw [A.2.2.2.1] at e; cases e) (by rintro rfl; rw [I.lg] at e; cases e) (I.keep b x e)
    zin := fun z hz => ⟨(I.zin z hz).1.imp fun x e => kp z x (by rintro rfl; exact A.2.2.2.2 hz) (I.zin z hz).2.1 e, (I.zin z hz).2⟩
    ns := hn
    lg := I.lg
    cell := fun b hb => by
      obtain ⟨⟨x, hx, hd⟩, h2⟩ := I.cell b hb
      exact ⟨⟨x, kp _ _ (by rintro rfl; exact A.2.2.1 hb) h2.2 hx, hd⟩, h2⟩
    rc := I.rc
    cinj := I.cinj
    imh := fun q hq => ⟨kp _ _ (fun e => I.mi (a, o) (List.mem_append_right _ (.head _)) q hq e.symm) (I.imh q hq).2.1 (I.imh q hq).1, (I.imh q hq).2⟩
    muh := fun q hq => by
      rcases List.mem_append.mp hq with hq | hq
      · have B := I.muh q (List.mem_append_left _ hq)
        exact ⟨kp _ _ (off q (List.mem_append_left _ hq)) B.2.1 B.1, B.2⟩
      · rcases List.mem_cons.mp hq with rfl | hq
        · exact ⟨ho, A.2⟩
        · have B := I.muh q (List.mem_append_right _ (.tail _ hq))
          exact ⟨kp _ _ (off q (List.mem_append_right _ hq)) B.2.1 B.1, B.2⟩
    mnd := by simpa using I.mnd
    mi := fun q hq s hs' => by
      rcases List.mem_append.mp hq with hq | hq
      · exact I.mi q (List.mem_append_left _ hq) s hs'
      · rcases List.mem_cons.mp hq with rfl | hq
        · exact I.mi (a, o) (List.mem_append_right _ (.head _)) s hs'
        · exact I.mi q (List.mem_append_right _ (.tail _ hq)) s hs' }
inductive InsD (mt : Mt) : D → Addr → List (PySem.Str × D) → Prop
  | inst (C : Addr) (fs : List (PySem.Str × D)) : InsD mt (.inst C fs) C fs
  | slf {C dx : Addr} {fs : List (PySem.Str × D)} : (dx, .dct fs) ∈ mt → InsD mt (.slf C dx) C fs
theorem insAt {d : D} {v : Value} {C : Addr} {fs : List (PySem.Str × D)} (I : StI c g Z f m cm im mu h) (hm : MuOk c.P im mt mu) (hr : Rep c.P im d v) (hi : InsD mt d C fs) :
    ∃ x dx es k, v = .ref x ∧ InstAt h x (instObj C dx) C (some (dictOf es k)) ∧ RepF c.P im fs es := by
  cases hi with
  | inst =>
    obtain ⟨x, dx, es, k, rfl, h1, h2, h3⟩ := hr
    exact ⟨x, dx, es, k, rfl, ⟨(I.imh _ h1).1, rfl, rfl, (I.imh _ h2).1⟩, h3⟩
  | slf hd =>
    obtain ⟨x, rfl, h1⟩ := hr
    obtain ⟨o, h2, es, k, rfl, h3⟩ := hm.get hd
    exact ⟨x, _, es, k, rfl, ⟨(I.imh _ h1).1, rfl, rfl, (I.muh _ h2).1⟩, h3⟩
theorem TW.attr {o : PySem.Expr} {x : PySem.Str} {pos : Pos} {Φ : D → Mt → Prop}
    (h : TW c n f (eval o f.env) loc mt (fun d mt₁ => ∃ C fs d' attr, InsD mt₁ d C fs ∧ ClsK c.K C ∧ findIn c.K (.ref C) x = some attr ∧ noGet c.K attr = true ∧ fs.lookup x = some d' ∧ Φ d' mt₁))
    (he : ∀ env, eval (.Attribute o x pos) env = (do
      let ov ← eval o env
      standAt pos.atName
      let r ← holding [ov] (getAttr ov x true)
      letTemporaryGo o ov r
      pure r) := by intro _; with_unfolding_all rfl) : TW c n f (eval (.Attribute o x pos) f.env) loc mt Φ := by
  intro A g Z stk s Q E R H k
  refine Attribute_any_ (h R H fun d v mt₁ h₁ tk₁ p₁ H₁ => ?_) (he _)
  obtain ⟨C, fs, d', attr, hi, ck, ha, hn, hl, hΦ⟩ := p₁
  obtain ⟨nd, m, cm, im, mu, I, hloc, hk, hm⟩ := id H₁
  obtain ⟨y, dx, es, kk, rfl, hI, hF⟩ := insAt I hm (hk _ (.head _)) hi
  obtain ⟨u, e1, e2⟩ := hF.get hl
  exact get_value (s := { s with heap := h₁, toks := tk₁ }) (I.base.k.keeps I.keep) hI (plainGet_of (ck.get x)).1 (findObj_own ck.dict ha hn e1) (handedRep e2)
    (k d' u mt₁ h₁ _ hΦ ⟨nd, m, cm, im, mu, I, hloc, fun q hq => by
      rcases List.mem_cons.mp hq with rfl | hq
      · exact e2
      · exact hk q (.tail _ hq), hm⟩)
theorem ExW.setAttr {o e : PySem.Expr} {x : PySem.Str} {px pos : Pos} {Φ : Fl → Lc → Mt → Prop}
    (h : TW c n f (eval e f.env) loc mt (fun d mt₁ => TW c n f (eval o f.env) loc mt₁ (fun d₁ mt₂ => ∃ C dx fs G, d₁ = .slf C dx ∧ At dx (.dct fs) mt₂ G ∧ ClsK c.K C ∧ takerIn c.K C x = some Option.none ∧ x ∉ fs.map (·.1) ∧ fs.length ≤ 100 ∧ Φ .next loc (G (.dct (fs ++ [(x, d)]))))))
    (hs : ∀ env, swapsWith e (some (.Attribute o x px)) pos.line env = pure false := by intro _; rfl) : ExW c n f (exec (.Assign [.Attribute o x px] e pos) f.env) loc mt Φ := by
  intro A g Z stk s Q E R H k
  refine plainObj_wpAny_Assign_Attribute (h R H fun d v mt₁ h₁ tk₁ p₁ H₁ => p₁ R H₁ fun d₁ v₁ mt₂ h₂ tk₂ p₂ H₂ => ?_) (hs _)
  obtain ⟨C, dx, fs, G, rfl, hG, ck, ht, hx, hz, hΦ⟩ := p₂
  obtain ⟨nd, m, cm, im, mu, I, hloc, hk, hm⟩ := id H₂
  obtain ⟨pre, post, rfl, eG⟩ := hG.split
  obtain ⟨l, ob, r, rfl, ho, hm1, hm2⟩ := hm.split
  obtain ⟨es, kk, rfl, hF⟩ := ho
  obtain ⟨y, rfl, hy⟩ := hk _ (.head _)
  have A1 := I.muh (dx, dictOf es kk) (List.mem_append_right _ (.head _))
  have hI : InstAt h₂ y (instObj C dx) C (some (dictOf es kk)) := ⟨(I.imh _ hy).1, rfl, rfl, A1.1⟩
  have Xs := I.base.k.keeps I.keep
  obtain ⟨e1, e2⟩ := hF.snoc (x := x) (t := tk₂ + 1) (hk _ (.tail _ (.head _))) hx
  have hlen := hF.keys.2.2
  -- the ledger of all, this dict in front
  have F0 := I.fr
  have N0 : News noHeap f.env.locals h₂ ([] ++ (dx, dictOf es kk) :: (allOf h₂ f.env.locals).filter (fun q => !(q.1 == dx))) := fun q hq => by
    rcases List.mem_cons.mp hq with rfl | hq
    · exact ⟨A1.1, A1.2.1, noHeap_get _⟩
    · exact allOf_news q (List.mem_filter.mp hq).1
  refine set_plain (s := { s with heap := h₂, toks := tk₂ }) Xs hI ck.set (osa_dict (s := { s with heap := h₂, toks := tk₂ + 1 }) (es := es ++ [⟨PyData.keyHash c.P x, .str x (tk₂ + 1), v⟩]) F0 N0 Xs hI rfl ck.over ht ck.dict (by rw [lookIn_dict, hF.none hx]; rfl) (fun _ hp => (nomatch hp)) (fun q hq => by
    have := (List.mem_filter.mp hq).2
    simpa using this) (putName_dict ..) (by rw [show (tk₂ + 1 : Nat) = tk₂ + 1 from rfl, e1]) (by simp; omega) fun h' F' N' => ?_)
  rw [e1] at N'
  have n1 := N' _ (.head _)
  have kp : ∀ b o, b ≠ dx → b ≠ f.env.locals → h₂.get? b = some o → h'.get? b = some o := fun b o hb hl e => (N' (b, o) (.tail _ (List.mem_filter.mpr ⟨mem_allOf hl e, by simpa using hb⟩))).1
  have J := I.updNs kp F'.ns n1.1
  refine k _ _ [] loc _ h' _ hΦ ⟨rfl, rfl⟩ ?_
  rw [eG]
  exact ⟨nd, m, cm, im, _, J, hloc, fun q hq => hk q (.tail _ (.tail _ hq)), MuOk.join (post := (dx, .dct (fs ++ [(x, d)])) :: post) (r := (dx, _) :: r) ⟨_, _, rfl, ⟨_, _, rfl, e2⟩, hm2⟩ hm1⟩
theorem St.freezeD {x dx C : Addr} {fs : List (PySem.Str × D)} {pre post : Mt} (H : St c g Z f loc stk (pre ++ (dx, .dct fs) :: post) h) (hx : (D.slf C dx, Value.ref x) ∈ stk) : St c g Z f loc ((.inst C fs, .ref x) :: stk) (pre ++ post) h := by
  obtain ⟨nd, m, cm, im, mu, I, hl, hk, hm⟩ := H
  obtain ⟨l, o, r, rfl, ho, h1, h2⟩ := MuOk.split hm
  have sb : ∀ q ∈ im, q ∈ (dx, o) :: im := fun q hq => .tail _ hq
  refine ⟨nd, m, cm, (dx, o) :: im, l ++ r, I.freeze, locMono sb hl, fun q hq => ?_, MuOk.join (h2.mono sb) (h1.mono sb)⟩
  rcases List.mem_cons.mp hq with rfl | hq
  · obtain ⟨es, kk, rfl, hF⟩ := ho
    obtain ⟨y, e, hy⟩ := hk _ hx
    cases e
    exact ⟨x, dx, es, kk, rfl, .tail _ hy, .head _, hF.mono sb⟩
  · exact (hk q hq).mono sb
theorem TW.new {x : PySem.Str} {px pos : Pos} {e : PySem.Expr} {rest : List PySem.Expr} {C fI : Addr} {Φ : D → Mt → Prop} (G : GF f S) (hx : S.names.lookup x = some .globalImplicit) (hn : nsIn c.K mainGlobals x = some (some (.ref C))) (hk : keepIn c.K (.ref C) = true)
    (hm : makesIn c.K C = true) (hi : findIn c.K (.ref C) "__init__" = some (some (.ref fI))) (hf : isFn c.K (.ref fI) = true)
    (h : AW c (n + 1) f (spliced (backTo pos (starEach (e :: rest) f.env))) loc mt (fun ds mt₁ => ∀ dx, CallW c n (.ref fI) (.slf C dx :: ds) ((dx, .dct []) :: mt₁) (fun d mt₂ => d = .none ∧ ∃ fs mt₃, Rem dx (.dct fs) mt₂ mt₃ ∧ Φ (.inst C fs) mt₃)))
    (hd : (x == ("__debug__" : PySem.Str)) = false := by decide)
    (he : ∀ env, starEach (e :: rest) env = (false, eval e env) :: starEach rest env := by intro _; rfl) (hplain : ∀ env, (backTo pos (starEach rest env)).any (·.1) = false := by intro _; rfl) :
    TW c (n + 1) f (eval (.Call (.Name x px) (e :: rest) [] pos) f.env) loc mt Φ := by
  intro A g Z stk s Q E R H k
  obtain ⟨nd, m, cm, im, mu, I, hl, hs, hm'⟩ := id H
  refine Call_ (I.globalName G hx hn hd (callWith_K I.base.k hk (h R H fun ds vs mt₁ h₁ tk₁ hl' p₁ H₁ => ?_) (he _) (hplain _)))
  obtain ⟨nd₁, m₁, cm₁, im₁, mu₁, I₁, hl₁, hs₁, hm₁⟩ := id H₁
  refine ⟨I₁.base.k.keeps I₁.keep, wpAny_call (make_K (s := { s with heap := h₁, toks := tk₁ }) I₁.fr allOf_news (I₁.base.k.keeps I₁.keep) hm hi (beq_iff_eq.mp hf) fun y dx h₂ F₂ N₂ lt₁ lt₂ => ?_)⟩
  have ny := N₂ (y, instObj C dx) (.head _)
  have nx := N₂ (dx, emptyDict) (.tail _ (.head _))
  have J₁ := I₁.newAtM (d := dx) (o := emptyDict) F₂ (fun q hq => by
    rcases List.mem_cons.mp hq with rfl | hq
    · exact nx
    · exact N₂ q (.tail _ (.tail _ hq))) lt₁
  obtain ⟨o1, o2, o3, o4, o5⟩ := I₁.off (d := y) (fun q hq => Nat.lt_trans (lt₁ q hq) lt₂) ny.2.1
  have J₂ := J₁.addIm ny.1 o1 o2 o3 (fun q hq => by
    rcases List.mem_cons.mp hq with rfl | hq
    · exact Nat.ne_of_lt lt₂
    · exact o4 q hq)
  have sb : ∀ q ∈ im₁, q ∈ (y, instObj C dx) :: im₁ := fun q hq => .tail _ hq
  have H₂ : St c g Z f loc ((.slf C dx, .ref y) :: (ds.zip vs ++ stk)) ((dx, .dct []) :: mt₁) h₂ := ⟨nd₁, m₁, cm₁, _, _, J₂, locMono sb hl₁, fun q hq => by
    rcases List.mem_cons.mp hq with rfl | hq
    · exact ⟨y, rfl, .head _⟩
    · exact (hs₁ q hq).mono sb, ⟨_, mu₁, rfl, ⟨[], 0, rfl, rfl⟩, hm₁.mono sb⟩⟩
  refine p₁ dx (s := { s with heap := h₂, toks := tk₁ }) ⟨R.1, by have := R.2.1; show A.depth + 1 + 3 * n ≤ 900; omega, by have := R.2.2; show A.units + 1 + 50 * n ≤ 9000; omega⟩ (by simp [hl']) (fun q hq => ?_) H₂ fun d v mt₃ h₃ tk₃ hΦ H₃ => ?_
  · rcases List.mem_cons.mp hq with rfl | hq
    · exact .head _
    · exact .tail _ (List.mem_append_left _ hq)
  · obtain ⟨rfl, fs, mt₄, hr, hΦ⟩ := hΦ
    obtain ⟨pre, post, rfl, rfl⟩ := hr.split
    refine ⟨H₃.isNone (.head _), ?_⟩
    refine k _ _ _ _ _ hΦ ((H₃.freezeD (x := y) (.tail _ (.head _))).sub fun q hq => ?_)
    rcases List.mem_cons.mp hq with rfl | hq
    · exact .head _
    · exact .tail _ (.tail _ (.tail _ (List.mem_append_right _ hq)))
theorem TW.meth {o e : PySem.Expr} {x : PySem.Str} {ap pos : Pos} {rest : List PySem.Expr} {pl : Env → Sem Bool} {Φ : D → Mt → Prop}
    (h : TW c n f (eval o f.env) loc mt (fun d mt₁ => ∃ C fs fa, InsD mt₁ d C fs ∧ ClsK c.K C ∧ findIn c.K (.ref C) x = some (some (.ref fa)) ∧ isFn c.K (.ref fa) = true ∧ keepIn c.K (.ref fa) = true ∧ x ∉ fs.map (·.1) ∧
      AW c n f (spliced (backTo pos (starEach (e :: rest) f.env))) loc mt₁ (fun ds mt₂ => CallW c n (.ref fa) (d :: ds) mt₂ Φ)))
    (hs : ∀ env, starEach (e :: rest) env = (false, eval e env) :: starEach rest env := by intro _; rfl) (hplain : ∀ env, (backTo pos (starEach rest env)).any (·.1) = false := by intro _; rfl)
    (he : ∀ env, eval (.Call (.Attribute o x ap) (e :: rest) [] pos) env = (do
      let ov ← eval o env
      standAt ap.atName
      let (f, first) ← holding [ov] (getMethod ov x (pl env))
      callWith pos f first (backTo pos (starEach (e :: rest) env)) []) := by intro _; rfl) : TW c n f (eval (.Call (.Attribute o x ap) (e :: rest) [] pos) f.env) loc mt Φ := by
  intro A g Z stk s Q E R H k
  refine MethodCall_ (h R H fun d v mt₁ h₁ tk₁ p₁ H₁ => ?_) (he _)
  obtain ⟨C, fs, fa, hi, ck, hfi, hfn, hkp, hx, p₁⟩ := p₁
  obtain ⟨nd, m, cm, im, mu, I, hloc, hk, hm⟩ := id H₁
  obtain ⟨y, dx, es, kk, rfl, hI, hF⟩ := insAt I hm (hk _ (.head _)) hi
  obtain ⟨pg1, pg2⟩ := plainGet_of (ck.get x)
  refine method_fn (s := { s with heap := h₁, toks := tk₁ }) (I.base.k.keeps I.keep) hI pg1 pg2 hfi (beq_iff_eq.mp hfn) (by show (lookIn x (dictOf es kk)).map _ = _; rw [lookIn_dict, hF.none hx]; rfl) ?_
  refine callWith_K I.base.k hkp (p₁ R H₁ fun ds vs mt₂ h₂ tk₂ hl' p₂ H₂ => ?_) (hs _) (hplain _)
  obtain ⟨nd₂, m₂, cm₂, im₂, mu₂, I₂, _⟩ := id H₂
  refine ⟨I₂.base.k.keeps I₂.keep, wpAny_call (p₂ (vs := .ref y :: vs) R (by simp [hl']) (fun q hq => ?_) H₂ fun d' v' mt' h' tk p H' => ?_)⟩
  · rcases List.mem_cons.mp hq with rfl | hq
    · exact List.mem_append_right _ (.head _)
    · exact List.mem_append_left _ hq
  · exact k d' v' mt' h' tk p (H'.sub fun q hq => by
      rcases List.mem_cons.mp hq with rfl | hq
      · exact .head _
      · exact .tail _ (List.mem_append_right _ (.tail _ hq)))
theorem TW.meth0 {o : PySem.Expr} {x : PySem.Str} {ap pos : Pos} {pl : Env → Sem Bool} {Φ : D → Mt → Prop}
    (h : TW c n f (eval o f.env) loc mt (fun d mt₁ => ∃ C fs fa, InsD mt₁ d C fs ∧ ClsK c.K C ∧ findIn c.K (.ref C) x = some (some (.ref fa)) ∧ isFn c.K (.ref fa) = true ∧ keepIn c.K (.ref fa) = true ∧ x ∉ fs.map (·.1) ∧ CallW c n (.ref fa) [d] mt₁ Φ))
    (he : ∀ env, eval (.Call (.Attribute o x ap) [] [] pos) env = (do
      let ov ← eval o env
      standAt ap.atName
      let (f, first) ← holding [ov] (getMethod ov x (pl env))
      callWith pos f first (backTo pos (starEach [] env)) []) := by intro _; rfl) : TW c n f (eval (.Call (.Attribute o x ap) [] [] pos) f.env) loc mt Φ := by
  intro A g Z stk s Q E R H k
  refine MethodCall_ (h R H fun d v mt₁ h₁ tk₁ p₁ H₁ => ?_) (he _)
  obtain ⟨C, fs, fa, hi, ck, hfi, hfn, hkp, hx, p₁⟩ := p₁
  obtain ⟨nd, m, cm, im, mu, I, hloc, hk, hm⟩ := id H₁
  obtain ⟨y, dx, es, kk, rfl, hI, hF⟩ := insAt I hm (hk _ (.head _)) hi
  obtain ⟨pg1, pg2⟩ := plainGet_of (ck.get x)
  refine method_fn (s := { s with heap := h₁, toks := tk₁ }) (I.base.k.keeps I.keep) hI pg1 pg2 hfi (beq_iff_eq.mp hfn) (by show (lookIn x (dictOf es kk)).map _ = _; rw [lookIn_dict, hF.none hx]; rfl) ?_
  refine callWith_K0 (s := { s with heap := h₁, toks := tk₁ }) (I.base.k.keeps I.keep) hkp (wpAny_call (p₁ (vs := [.ref y]) R rfl (fun q hq => ?_) H₁ fun d' v' mt' h' tk p H' => k d' v' mt' h' tk p H'.pop))
  rw [List.mem_singleton.mp hq]
  exact .head _
theorem TW.top {x : PySem.Str} {pos : Pos} {v : Value} {d : D} {Φ : D → Mt → Prop} (L : Led) (G : GF f S) (hx : S.names.lookup x = some .globalImplicit) (hn : nsIn c.K mainGlobals x = some (some v)) (hL : ∀ q ∈ L, c.K.lookup q.1 = some q.2) (hr : Rep c.P L d v) (h : Φ d mt)
    (hd : (x == ("__debug__" : PySem.Str)) = false := by decide) : TW c n f (eval (.Name x pos) f.env) loc mt Φ := by
  intro A g Z stk s Q E R H k
  obtain ⟨nd, m, cm, im, mu, I, hl, hs, hm⟩ := H
  have J : StI c g Z f m cm (im ++ L) mu s.heap := I.merge fun q hq => by
    have e := I.base.k _ _ (hL q hq)
    refine ⟨e, fun h1 => ?_, fun h2 => ?_, fun h3 => ?_⟩
    · rw [h1, I.lg] at e; cases e
    · rw [(I.cell _ h2).2.1] at e; cases e
    · have := (I.zin _ h3).2.2.2; rw [hL q hq] at this; cases this
  have sb : ∀ q ∈ im, q ∈ im ++ L := fun q hq => List.mem_append_left _ hq
  refine I.globalName G hx hn hd (k d v mt s.heap s.toks h ⟨nd, m, cm, _, mu, J, locMono sb hl, fun q hq => ?_, hm.mono sb⟩)
  rcases List.mem_cons.mp hq with rfl | hq
  · exact hr.mono fun q hq => List.mem_append_right _ hq
  · exact (hs q hq).mono sb
theorem BW.chain {l r₁ r₂ : PySem.Expr} {op₁ op₂ : CmpOp} {pos : Pos} {whole : Sem Value} {Φ : Bool → Mt → Prop}
    (h : TW c n f (eval l f.env) loc mt (fun d mt₁ => TW c n f (eval r₁ f.env) loc mt₁ (fun d₁ mt₂ => T2 c n f (compareOp op₁) d d₁ loc mt₂ (fun b mt₃ => B1 c n f truthy b loc mt₃ (fun t mt₄ =>
      (t = true → TW c n f (eval r₂ f.env) loc mt₄ (fun d₂ mt₅ => T2 c n f (compareOp op₂) d₁ d₂ loc mt₅ (fun b' mt₆ => B1 c n f truthy b' loc mt₆ Φ))) ∧ (t = false → Φ false mt₄))))))
    (hm : lastMarks [op₁, op₂] [r₁, r₂] = false := by with_unfolding_all rfl) : BW c n f (isTrue (.Compare l [op₁, op₂] [r₁, r₂] pos) f.env whole) loc mt Φ := by
  intro A g Z stk s Q E R H k
  refine isTrue_chain (h R H fun d v mt₁ h₁ tk₁ p₁ H₁ => test_link (p₁ R H₁ fun d₁ v₁ mt₂ h₂ tk₂ p₂ H₂ => p₂ R (.tail _ (.head _)) (.head _) H₂ fun b u mt₃ h₃ tk₃ p₃ H₃ => p₃ R (.head _) H₃ fun t mt₄ h₄ tk₄ p₄ H₄ => ?_)) hm
  cases t with
  | false => exact k _ _ _ _ (p₄.2 rfl) H₄.tl.tl.tl
  | true =>
    refine test_last (p₄.1 rfl R H₄ fun d₂ v₂ mt₅ h₅ tk₅ p₅ H₅ => p₅ R (.tail _ (.tail _ (.head _))) (.head _) H₅ fun b' u' mt₆ h₆ tk₆ p₆ H₆ => p₆ R (.head _) H₆ fun t' mt' h' tk p H' => ?_)
    exact k _ _ _ _ p H'.tl.tl.tl.tl.tl
end
end Mine

namespace Mine

section
variable {c : Cx} {n : Nat} {f : Fm} {loc loc' : Lc} {mt mt' : Mt} {S : Scope}
theorem T2.le {a b : Int} {Φ : D → Mt → Prop} (h : Φ (.bool (decide (a ≤ b))) mt) : T2 c n f (compareOp .LtE) (.int a) (.int b) loc mt Φ := by
  intro A g Z stk s Q E u₁ u₂ R h₁ h₂ H k
  obtain ⟨t, rfl⟩ := H.isInt h₁; obtain ⟨u, rfl⟩ := H.isInt h₂
  exact PyProof.Rows.le_int (k _ _ _ s.heap s.toks h (H.bool _))
theorem T2.ge {a b : Int} {Φ : D → Mt → Prop} (h : Φ (.bool (decide (b ≤ a))) mt) : T2 c n f (compareOp .GtE) (.int a) (.int b) loc mt Φ := by
  intro A g Z stk s Q E u₁ u₂ R h₁ h₂ H k
  obtain ⟨t, rfl⟩ := H.isInt h₁; obtain ⟨u, rfl⟩ := H.isInt h₂
  exact PyProof.Rows.ge_int (k _ _ _ s.heap s.toks h (H.bool _))
theorem T2.eqB {a b : Bool} {Φ : D → Mt → Prop} (h : Φ (.bool (a == b)) mt) : T2 c n f (compareOp .Eq) (.bool a) (.bool b) loc mt Φ := by
  intro A g Z stk s Q E u₁ u₂ R h₁ h₂ H k
  rw [H.isBool h₁, H.isBool h₂]
  exact PyProof.Rows.eq_bool (k _ _ _ s.heap s.toks h (H.bool _))
theorem T2.pow {a b : Int} {Φ : D → Mt → Prop} (hn : 0 ≤ b) (hs : (Builtin.Int.intBits a : Int) * b ≤ 2 ^ 27) (h : Φ (.int (a ^ b.toNat)) mt) : T2 c n f (binaryOp .Pow) (.int a) (.int b) loc mt Φ := by
  intro A g Z stk s Q E u₁ u₂ R h₁ h₂ H k
  obtain ⟨t, rfl⟩ := H.isInt h₁; obtain ⟨u, rfl⟩ := H.isInt h₂
  exact PyProof.Rows.pow_int hn hs (k _ _ _ s.heap _ h (H.int _ _))
theorem T2.notNone {d : D} {Φ : D → Mt → Prop} (h : Φ (.bool (!d.isNone)) mt) : T2 c n f (compareOp .IsNot) d .none loc mt Φ := by
  intro A g Z stk s Q E u₁ u₂ R h₁ h₂ H k
  rw [H.isNone h₂]
  obtain ⟨nd, m, cm, im, mu, I, hl, hs, hm⟩ := id H
  refine PySem.isNot_none ?_
  rw [(hs _ h₁).isNone]
  exact k _ _ _ s.heap s.toks h (H.bool _)
inductive ArgL : List Arg → List D → Lc → Prop
  | nil : ArgL [] [] []
  | cons {x an p as d ds l} : ArgL as ds l → ArgL (⟨x, an, p⟩ :: as) (d :: ds) ((x, d) :: l)
theorem ArgL.zip {as : List Arg} {ds : List D} {l : Lc} (h : ArgL as ds l) : (as.map (·.arg)).length = ds.length ∧ (as.map (·.arg)).zip ds = l := by
  induction h with
  | nil => exact ⟨rfl, rfl⟩
  | cons _ ih => exact ⟨by simpa using ih.1, by simp [← ih.2]⟩
theorem allZ {P : List Value → Prop} (h : P []) : ∀ vs : List Value, vs.length = 0 → P vs := fun _ e => List.length_eq_zero_iff.mp e ▸ h
theorem allS {P : List Value → Prop} {k : Nat} (h : ∀ v : Value, ∀ vs : List Value, vs.length = k → P (v :: vs)) : ∀ vs : List Value, vs.length = k + 1 → P vs := fun vs e => by
  cases vs with
  | nil => cases e
  | cons v vs => exact h v vs (Nat.succ.inj e)
theorem CallW.dfn {ds : List D} {Φ : D → Mt → Prop} {fa : Addr} {name qual : PySem.Str} {params : Arguments} {body : List Stmt} {scope : Scope} {dV kV doc pm cdv ct oc : Value} {an od : Option Addr} {osl : Array (Option Value)} {l : Lc}
    (ho : c.K.lookup fa = some ⟨oc, od, .func (fnOf name qual params body scope dV kV doc pm an cdv ct), osl⟩) (hcd : codeIn c.K cdv qual = true)
    (hbind : ∀ vs : List Value, vs.length = (params.args.map (·.arg)).length → bindArgs (fnOf name qual params body scope dV kV doc pm an cdv ct) ⟨vs, []⟩ = pure ((params.args.map (·.arg)).zip vs))
    (hl : ArgL params.args ds l) (hnd : (params.args.map (·.arg)).Nodup) (hkind : ((params.args.map (·.arg)).all fun y => (scope.names.lookup y == some .local || scope.names.lookup y == some .cell) && !(y == ("__debug__" : PySem.Str))) = true)
    (hcn : ((cellsFrom 0 scope.names []).map (·.1)).Nodup) (hfr : (scope.names.all fun q => !(q.2 == .free)) = true)
    (hco : scope.isCoroutine = false) (hgen : scope.isGenerator = false) (hk : scope.kind = .function)
    (h : ∀ f, GF f scope → ExW c n f (execs body f.env) l mt (fun fl _ mt' => RetW fl mt' Φ)) : CallW c (n + 1) (.ref fa) ds mt Φ := by
  refine CallW.enter _ ho hcd hbind hl.zip.1 hnd hkind hcn hfr ?_ hco hgen hk
  rw [hl.zip.2]
  exact h
theorem T2.modP {a b : Int} {Φ : D → Mt → Prop} (hb : 0 < b) (h : Φ (.int (a % b)) mt) : T2 c n f (binaryOp .Mod) (.int a) (.int b) loc mt Φ :=
  T2.mod (by omega) (by rw [Int.fmod_eq_emod_of_nonneg _ (by omega)]; exact h)
theorem T2.fdivP {a b : Int} {Φ : D → Mt → Prop} (hb : 0 < b) (hp : b < 1073741824) (h : Φ (.int (a / b)) mt) : T2 c n f (binaryOp .FloorDiv) (.int a) (.int b) loc mt Φ :=
  T2.fdiv (by omega) (PyProof.noPylong_small (by omega)) (by rw [Int.fdiv_eq_ediv_of_nonneg _ (by omega)]; exact h)
noncomputable def PutW (d d₁ d₂ : D) (mt : Mt) (Ψ : Mt → Prop) : Prop := ∃ a ds k G, d₁ = .ref a ∧ d₂ = .int k ∧ 0 ≤ k ∧ k < (ds : List D).length ∧ k < 2 ^ 63 ∧ At a (.lst ds) mt G ∧ Ψ (G (.lst (ds.set k.toNat d)))
theorem PutW.mk {a : Addr} {ds : List D} {k : Int} {G : M → Mt} {d : D} {Ψ : Mt → Prop} (hat : At a (.lst ds) mt G) (h0 : 0 ≤ k) (h1 : k < ds.length) (h2 : k < 2 ^ 63) (h : Ψ (G (.lst (ds.set k.toNat d)))) : PutW d (.ref a) (.int k) mt Ψ := ⟨a, ds, k, G, rfl, rfl, h0, h1, h2, hat, h⟩
theorem ExW.setItemP {o i e : PySem.Expr} {ps pos : Pos} {Φ : Fl → Lc → Mt → Prop}
    (h : TW c n f (eval e f.env) loc mt (fun d mt₁ => TW c n f (eval o f.env) loc mt₁ (fun d₁ mt₂ => TW c n f (eval i f.env) loc mt₂ (fun d₂ mt₃ => PutW d d₁ d₂ mt₃ (fun mt' => Φ .next loc mt')))))
    (hs : ∀ env, swapsWith e (some (.Subscript o i ps)) pos.line env = pure false := by intro _; rfl) : ExW c n f (exec (.Assign [.Subscript o i ps] e pos) f.env) loc mt Φ := ExW.setItem h hs
noncomputable def AppE (a : Addr) (d : D) (mt : Mt) (Φ : D → Mt → Prop) : Prop := ∃ ds G, At a (.lst ds) mt G ∧ ds.length ≤ 1000 ∧ Φ .none (G (.lst (ds ++ [d])))
theorem AppE.mk {a : Addr} {ds : List D} {G : M → Mt} {d : D} {Φ : D → Mt → Prop} (hat : At a (.lst ds) mt G) (h1 : ds.length ≤ 1000) (h : Φ .none (G (.lst (ds ++ [d])))) : AppE a d mt Φ := ⟨ds, G, hat, h1, h⟩
noncomputable def AppO (c : Cx) (n : Nat) (f : Fm) (e : PySem.Expr) (loc : Lc) (d₁ : D) (mt : Mt) (Φ : D → Mt → Prop) : Prop := ∃ a, d₁ = .ref a ∧ (∃ ds, (a, .lst ds) ∈ mt) ∧ TW c n f (eval e f.env) loc mt (fun d mt₂ => AppE a d mt₂ Φ)
theorem AppO.mk {e : PySem.Expr} {a : Addr} {ds : List D} {Φ : D → Mt → Prop} (hm : (a, .lst ds) ∈ mt) (h : TW c n f (eval e f.env) loc mt (fun d mt₂ => AppE a d mt₂ Φ)) : AppO c n f e loc (.ref a) mt Φ := ⟨a, rfl, ⟨ds, hm⟩, h⟩
theorem TW.appendP {o e : PySem.Expr} {ap pos : Pos} {pl : Env → Sem Bool} {Φ : D → Mt → Prop}
    (h : TW c n f (eval o f.env) loc mt (fun d₁ mt₁ => AppO c n f e loc d₁ mt₁ Φ))
    (hs : ∀ env, starEach [e] env = (false, eval e env) :: starEach [] env := by intro _; rfl)
    (he : ∀ env, eval (.Call (.Attribute o "append" ap) [e] [] pos) env = (do
      let ov ← eval o env
      standAt ap.atName
      let (f, first) ← holding [ov] (getMethod ov "append" (pl env))
      callWith pos f first (backTo pos (starEach [e] env)) []) := by intro _; rfl) : TW c n f (eval (.Call (.Attribute o "append" ap) [e] [] pos) f.env) loc mt Φ := TW.append (pl := pl) h hs he
noncomputable def FldW (c : Cx) (x : PySem.Str) (d : D) (mt : Mt) (Φ : D → Mt → Prop) : Prop := ∃ C fs d' attr, InsD mt d C fs ∧ ClsK c.K C ∧ findIn c.K (.ref C) x = some attr ∧ noGet c.K attr = true ∧ fs.lookup x = some d' ∧ Φ d' mt
theorem FldW.mk {x : PySem.Str} {d d' : D} {C : Addr} {fs : List (PySem.Str × D)} {attr : Option Value} {Φ : D → Mt → Prop} (hi : InsD mt d C fs) (hc : ClsK c.K C) (hf : findIn c.K (.ref C) x = some attr) (hn : noGet c.K attr = true) (hl : fs.lookup x = some d') (h : Φ d' mt) : FldW c x d mt Φ := ⟨C, fs, d', attr, hi, hc, hf, hn, hl, h⟩
theorem TW.attrP {o : PySem.Expr} {x : PySem.Str} {pos : Pos} {Φ : D → Mt → Prop}
    (h : TW c n f (eval o f.env) loc mt (fun d mt₁ => FldW c x d mt₁ Φ))
    (he : ∀ env, eval (.Attribute o x pos) env = (do
      let ov ← eval o env
      standAt pos.atName
      let r ← holding [ov] (getAttr ov x true)
      letTemporaryGo o ov r
      pure r) := by intro _; with_unfolding_all rfl) : TW c n f (eval (.Attribute o x pos) f.env) loc mt Φ := TW.attr h he
theorem SetL.new {x : PySem.Str} {d : D} {loc : Lc} (h : (loc.map (·.1)).contains x = false) : SetL x d loc ((x, d) :: loc) := .inr ⟨by simpa using h, rfl⟩
theorem SetL.old {x : PySem.Str} {d : D} {loc loc' : Lc} (h : SetAt x d loc loc') : SetL x d loc loc' := .inl h
theorem At.re {a : Addr} {x : M} {mt : Mt} {G : M → Mt} (h : At a x mt G) (y : M) : At a y (G y) G := by
  induction h with
  | head => exact .head
  | tail _ ih => exact .tail ih
theorem SeqW.next {rest : List Stmt} {Φ : Fl → Lc → Mt → Prop} (h : ExW c n f (execs rest f.env) loc mt Φ) : SeqW c n f rest Φ .next loc mt := h
theorem SeqW.ret {rest : List Stmt} {Φ : Fl → Lc → Mt → Prop} {d : D} (h : Φ (.ret d) loc mt) : SeqW c n f rest Φ (.ret d) loc mt := h
theorem LoopW.next {J : Nat → Lc → Mt → Prop} {i : Nat} {Φ : Fl → Lc → Mt → Prop} (h : J (i + 1) loc mt) : LoopW J i Φ .next loc mt := h
theorem LoopW.ret {J : Nat → Lc → Mt → Prop} {i : Nat} {Φ : Fl → Lc → Mt → Prop} {d : D} (h : Φ (.ret d) loc mt) : LoopW J i Φ (.ret d) loc mt := h
theorem RetW.ret {d : D} {Φ : D → Mt → Prop} (h : Φ d mt') (hs : List.Sublist mt' mt) : RetW (.ret d) mt Φ := ⟨mt', hs, h⟩
theorem RetW.next {Φ : D → Mt → Prop} (h : Φ .none mt') (hs : List.Sublist mt' mt) : RetW .next mt Φ := ⟨mt', hs, h⟩
theorem Sto.here {x : PySem.Str} (h : S.names.lookup x = some .local) (hd : (x == ("__debug__" : PySem.Str)) = false := by decide) : Sto S x := ⟨.inl h, hd⟩
theorem Sto.held {x : PySem.Str} (h : S.names.lookup x = some .cell) (hd : (x == ("__debug__" : PySem.Str)) = false := by decide) : Sto S x := ⟨.inr h, hd⟩
theorem mulSmall {a b : Int} (h : a.natAbs < 2 ^ 63 ∨ b.natAbs < 2 ^ 63) : IntMulOk a b := by
  have key : ∀ x : Int, x.natAbs < 2 ^ 63 → Builtin.Int.intBits x ≤ 64 := fun x hx => by
    unfold Builtin.Int.intBits
    split
    · exact Nat.zero_le _
    · rename_i h0
      have h1 : x ≠ 0 := by simpa using h0
      have := (Nat.log2_lt (n := x.natAbs) (k := 63) (by omega)).mpr hx
      omega
  rcases h with h | h
  · exact IntMulOk.of_left (key a h)
  · exact IntMulOk.of_right (key b h)
end
end Mine

namespace Mine
noncomputable def Inv (loc : Lc) (mt : Mt) (L : Lc) (N : Mt) : Prop := loc = L ∧ mt = N
section
variable {c : Cx} {n : Nat} {f : Fm} {loc loc' : Lc} {mt mt' : Mt} {S : Scope}
theorem AsW.name {x : PySem.Str} {px : Pos} {d : D} {Φ : Lc → Mt → Prop} (G : GF f S) (hx : Sto S x) (h : ∃ loc', SetL x d loc loc' ∧ Φ loc' mt) : AsW c n f (PySem.assign (.Name x px) f.env) d loc mt Φ := by
  intro A g Z stk s Q E u R hu H k
  obtain ⟨loc', hl, hΦ⟩ := h
  exact wpAny_assign_Name (H.store hu G.kind (hx.kind G) hx.2 hl fun h' tk H' => k _ _ _ _ hΦ H')
theorem AsW.sub {t : Value → Sem Unit} {d : D} {Φ : Lc → Mt → Prop} (hs : List.Sublist loc' loc) (hm : List.Sublist mt' mt) (h : AsW c n f t d loc' mt' Φ) : AsW c n f t d loc mt Φ :=
  fun _ _ _ _ _ _ _ _ R hu H k => h R hu ((H.locSub hs).drop hm) k
noncomputable def Less (P : Lc → Mt → Prop) (loc : Lc) (mt : Mt) : Prop := ∃ loc' mt', List.Sublist loc' loc ∧ List.Sublist mt' mt ∧ P loc' mt'
theorem ExW.shrink {t : Sem Flow} {Φ : Fl → Lc → Mt → Prop} (h : ExW c n f t loc mt (fun fl loc₁ mt₁ => Less (Φ fl) loc₁ mt₁)) : ExW c n f t loc mt Φ := by
  intro A g Z stk s Q E R H k
  refine h R H fun fl w l loc₁ mt₁ h' tk p hf H' => ?_
  obtain ⟨loc₂, mt₂, h1, h2, p⟩ := p
  exact k fl w l loc₂ mt₂ h' tk p hf ((H'.locSub h1).drop h2)
theorem ExW.mono {t : Sem Flow} {Φ Ψ : Fl → Lc → Mt → Prop} (h : ExW c n f t loc mt Φ) (hs : ∀ fl loc mt, Φ fl loc mt → Ψ fl loc mt) : ExW c n f t loc mt Ψ :=
  fun _ _ _ _ _ _ _ R H k => h R H fun fl w l loc₁ mt₁ h' tk p hf H' => k fl w l loc₁ mt₁ h' tk (hs _ _ _ p) hf H'
noncomputable def ForW (c : Cx) (n : Nat) (f : Fm) (target : PySem.Expr) (body : List Stmt) (Φ : Fl → Lc → Mt → Prop) (loc : Lc) (d : D) (mt₁ : Mt) : Prop :=
  ∃ ds, ∃ J : Nat → Lc → Mt → Prop, ItD d ds ∧ J 0 loc mt₁ ∧
      (∀ i d' loc' mt', ds[i]? = some d' → J i loc' mt' → AsW c n f (PySem.assign target f.env) d' loc' mt' (fun loc₂ mt₂ => ExW c n f (execs body f.env) loc₂ mt₂ (LoopW (fun i => Less (J i)) i Φ))) ∧
      (∀ loc' mt', J ds.length loc' mt' → Φ .next loc' mt')
theorem ExW.forS {target iter : PySem.Expr} {body : List Stmt} {pos : Pos} {Φ : Fl → Lc → Mt → Prop}
    (h : TW c n f (eval iter f.env) loc mt (fun d mt₁ => ForW c n f target body Φ loc d mt₁))
    (hs : ∀ env x, foldedSetIterable iter env x = pure x := by intros; rfl) : ExW c n f (exec (.For target iter body [] pos) f.env) loc mt Φ := by
  refine ExW.shrink (ExW.for_ (h.mono fun d mt₁ p => ?_) hs)
  obtain ⟨ds, J, hd, hJ, turn, fin⟩ := p
  refine ⟨ds, fun i => Less (J i), hd, ⟨loc, mt₁, .refl _, .refl _, hJ⟩, fun i d' loc' mt' hi hJ' => ?_, fun loc' mt' hJ' => ?_⟩
  · obtain ⟨l, m, h1, h2, hJ'⟩ := hJ'
    refine AsW.sub h1 h2 ?_
    intro A g Z stk s Q E u R hu H k
    refine turn i d' l m hi hJ' R hu H fun loc₂ mt₂ h₂ tk₂ p₂ H₂ => k loc₂ mt₂ h₂ tk₂ (p₂.mono fun fl loc₃ mt₃ p₃ => ?_) H₂
    cases fl with
    | next => exact p₃
    | cont => exact p₃
    | brk => exact ⟨_, _, .refl _, .refl _, p₃⟩
    | ret d => exact ⟨_, _, .refl _, .refl _, p₃⟩
  · obtain ⟨l, m, h1, h2, hJ'⟩ := hJ'
    exact ⟨l, m, h1, h2, fin _ _ hJ'⟩
theorem Sto.all {xs : List PySem.Str} (h : xs.all (fun x => (S.names.lookup x == some .local || S.names.lookup x == some .cell) && !(x == ("__debug__" : PySem.Str))) = true) : ∀ x ∈ xs, Sto S x := fun x hx => by
  have := List.all_eq_true.mp h x hx
  simp only [Bool.and_eq_true, Bool.or_eq_true, beq_iff_eq, Bool.not_eq_true'] at this
  exact ⟨this.1, this.2⟩
theorem ItD.upto {a b : Int} (k : Nat) (hk : (k : Int) = b - a) (h1 : -4611686018427387904 ≤ a) (h2 : b < 4611686018427387904) : ItD (.range a b 1) (rangeItems a 1 k) := by
  refine .range (PySem.small_one (by omega) (by omega) (by omega) (by omega)) ?_
  unfold Builtin.Range.rangeSize; simp only [gt_iff_lt, Int.reduceLT, if_true, Int.ediv_one]; split <;> omega
theorem ItD.down {a b : Int} (k : Nat) (hk : (k : Int) = a - b) (h1 : -4611686018427387904 ≤ b) (h2 : a < 4611686018427387904) : ItD (.range a b (-1)) (rangeItems a (-1) k) := by
  refine .range (small_down (by omega) (by omega) (by omega) (by omega)) ?_
  rw [rangeSize_down]; split <;> omega
theorem rangeItems_get {a st : Int} {k i : Nat} {d : D} (h : (rangeItems a st k)[i]? = some d) : i < k ∧ d = .int (a + i * st) := by
  unfold rangeItems at h
  rw [List.getElem?_map] at h
  cases e : (List.range k)[i]? with
  | none => rw [e] at h; cases h
  | some j =>
    rw [e] at h
    obtain ⟨h1, h2⟩ := List.getElem?_eq_some_iff.mp e
    rw [List.getElem_range] at h2
    subst h2
    cases h
    exact ⟨by simpa using h1, rfl⟩
theorem rangeItems_get0 {k i : Nat} {d : D} (h : (rangeItems 0 1 k)[i]? = some d) : i < k ∧ d = .int i := by
  obtain ⟨h1, h2⟩ := rangeItems_get h
  exact ⟨h1, by rw [h2]; simp⟩
theorem rangeItems_get1 {a : Int} {k i : Nat} {d : D} (h : (rangeItems a 1 k)[i]? = some d) : i < k ∧ d = .int (a + i) := by
  obtain ⟨h1, h2⟩ := rangeItems_get h
  exact ⟨h1, by rw [h2]; simp⟩
theorem rangeItems_getM {a : Int} {k i : Nat} {d : D} (h : (rangeItems a (-1) k)[i]? = some d) : i < k ∧ d = .int (a - i) := by
  obtain ⟨h1, h2⟩ := rangeItems_get h
  exact ⟨h1, by rw [h2]; congr 1; omega⟩
theorem rangeItems_len {a st : Int} {k : Nat} : (rangeItems a st k).length = k := by simp [rangeItems]
theorem intBits_small {x : Int} (hx : x.natAbs < 2 ^ 63) : Builtin.Int.intBits x ≤ 64 := by
    unfold Builtin.Int.intBits
    split
    · exact Nat.zero_le _
    · rename_i h0
      have h1 : x ≠ 0 := by simpa using h0
      have := (Nat.log2_lt (n := x.natAbs) (k := 63) (by omega)).mpr hx
      omega
theorem T2.shlS {a b : Int} {Φ : D → Mt → Prop} (ha : a.natAbs < 2 ^ 63) (hb : 0 ≤ b) (hs : b ≤ 1000) (h : Φ (.int (a * 2 ^ b.toNat)) mt) : T2 c n f (binaryOp .LShift) (.int a) (.int b) loc mt Φ :=
  T2.shl hb (by have := intBits_small ha; have e : (2 : Int) ^ 27 = 134217728 := rfl; omega) h
noncomputable def SetF (c : Cx) (x : PySem.Str) (d d₁ : D) (mt : Mt) (Ψ : Mt → Prop) : Prop := ∃ C dx fs G, d₁ = .slf C dx ∧ At dx (.dct fs) mt G ∧ ClsK c.K C ∧ takerIn c.K C x = some Option.none ∧ x ∉ fs.map (·.1) ∧ fs.length ≤ 100 ∧ Ψ (G (.dct (fs ++ [(x, d)])))
theorem SetF.mk {x : PySem.Str} {d : D} {C dx : Addr} {fs : List (PySem.Str × D)} {G : M → Mt} {Ψ : Mt → Prop} (hat : At dx (.dct fs) mt G) (hc : ClsK c.K C) (ht : takerIn c.K C x = some Option.none) (hx : (fs.map (·.1)).contains x = false) (hl : fs.length ≤ 100) (h : Ψ (G (.dct (fs ++ [(x, d)])))) : SetF c x d (.slf C dx) mt Ψ :=
  ⟨C, dx, fs, G, rfl, hat, hc, ht, by simpa using hx, hl, h⟩
theorem ExW.setAttrP {o e : PySem.Expr} {x : PySem.Str} {px pos : Pos} {Φ : Fl → Lc → Mt → Prop}
    (h : TW c n f (eval e f.env) loc mt (fun d mt₁ => TW c n f (eval o f.env) loc mt₁ (fun d₁ mt₂ => SetF c x d d₁ mt₂ (fun mt' => Φ .next loc mt'))))
    (hs : ∀ env, swapsWith e (some (.Attribute o x px)) pos.line env = pure false := by intro _; rfl) : ExW c n f (exec (.Assign [.Attribute o x px] e pos) f.env) loc mt Φ := ExW.setAttr h hs
theorem iL_get {ks : List Int} {i : Nat} (h : i < ks.length) : (iL ks)[i]? = some (.int (ks.getD i 0)) := by simp [iL, List.getD, h]
theorem T2.itemI {value slice : PySem.Expr} {d : D} {ks : List Int} {i : Int} {Φ : D → Mt → Prop} (hs : SeqD mt d (iL ks)) (h0 : 0 ≤ i) (h1 : i < ks.length) (h2 : i < 2 ^ 63) (h : Φ (.int (ks.getD i.toNat 0)) mt)
    (he : ∀ a k t, subscripted slice false (.ref a) (.int k t) = operate [.ref a, .int k t] (getItem (.ref a) (.int k t)) := by intros; with_unfolding_all rfl) : T2 c n f (subscriptTail value slice) d (.int i) loc mt Φ :=
  T2.item hs h0 h2 (iL_get (by omega)) h he
theorem T2.shlC {a b : Int} {Φ : D → Mt → Prop} (k : Int) (hk : (2 : Int) ^ b.toNat = k) (ha : a.natAbs < 2 ^ 63) (hb : 0 ≤ b) (hs : b ≤ 1000) (h : Φ (.int (a * k)) mt) : T2 c n f (binaryOp .LShift) (.int a) (.int b) loc mt Φ :=
  T2.shlS ha hb hs (by rw [hk]; exact h)
theorem T2.powS {a b : Int} {Φ : D → Mt → Prop} (ha : a.natAbs < 2 ^ 63) (hb : 0 ≤ b) (hs : b ≤ 1000) (h : Φ (.int (a ^ b.toNat)) mt) : T2 c n f (binaryOp .Pow) (.int a) (.int b) loc mt Φ :=
  T2.pow hb (by
    have h1 := intBits_small ha
    have h2 : (Builtin.Int.intBits a : Int) * b ≤ 64 * 1000 := Int.mul_le_mul (by omega) hs hb (by omega)
    have e : (2 : Int) ^ 27 = 134217728 := rfl
    omega) h
end
end Mine

namespace Mine
section
variable {c : Cx} {n : Nat} {f : Fm} {loc loc' : Lc} {mt mt' : Mt} {S : Scope}
theorem pair_lt {prog : Program} {w : World} {A : Around} {s : Shared} {E : Value → Shared → Prop} {P : Fin → Shared → Prop} {a b : Addr} {x y u v : Int} {t1 t2 t3 t4 : Tok} {k k' : Nat}
    (ha : s.heap.get? a = some (tupOf #[.int x t1, .int y t2] k)) (hb : s.heap.get? b = some (tupOf #[.int u t3, .int v t4] k'))
    (h : P (.done (.ret (.bool (decide (x < u ∨ (x = u ∧ y < v)))))) s) : wpAny (model prog w) A (Builtin.«tuple.__lt__» ⟨[.ref a, .ref b], []⟩) P E s := by
  have hTb : s.TypeIs (.ref b) "tuple" := ⟨_, hb, rfl⟩
  show wpAny _ _ (isInstance (.ref b) (.type "tuple") >>= _) _ _ s
  refine wpAny_bind (wpAny_isInstance hTb isSubtype_tuple_tuple ?_)
  simp only [Bool.not_true, Bool.false_eq_true, if_false]
  refine wpAny_bind (wpAny_tupleItemsOf ha rfl ?_)
  refine wpAny_bind (wpAny_tupleItemsOf hb rfl ?_)
  simp only [List.zip_cons_cons, List.zip_nil_right, List.forIn_cons, List.forIn_nil]
  refine wpAny_bind (wpAny_bind (wpAny_bind (wpAny_eqBool_int ?_)))
  by_cases h1 : x = u
  · subst h1
    simp only [beq_self_eq_true, Bool.not_true, Bool.false_eq_true, if_false]
    refine wpAny_pure (wpAny_bind (wpAny_bind (wpAny_eqBool_int ?_)))
    by_cases h2 : y = v
    · subst h2
      simp only [beq_self_eq_true, Bool.not_true, Bool.false_eq_true, if_false]
      refine wpAny_pure (wpAny_pure (wpAny_pure ?_))
      have e : decide (x < x ∨ (x = x ∧ y < y)) = false := by simp
      rw [e] at h
      exact h
    · simp only [beq_eq_false_iff_ne.mpr h2, Bool.not_false, if_true]
      refine wpAny_bind (wpAny_rule (wpAny_bind (PyProof.Rows.lt_int (wpAny_bind (wpAny_pure (wpAny_pure (wpAny_pure (wpAny_pure ?_))))))))
      have e : decide (x < x ∨ (x = x ∧ y < v)) = decide (y < v) := by simp
      rw [e] at h
      exact h
  · simp only [beq_eq_false_iff_ne.mpr h1, Bool.not_false, if_true]
    refine wpAny_bind (wpAny_rule (wpAny_bind (PyProof.Rows.lt_int (wpAny_bind (wpAny_pure (wpAny_pure (wpAny_pure (wpAny_pure ?_))))))))
    have e : decide (x < u ∨ (x = u ∧ y < v)) = decide (x < u) := by simp [h1]
    rw [e] at h
    exact h
theorem T2.ltT {a b x y : Int} {Φ : D → Mt → Prop} (h : Φ (.bool (decide (a < x ∨ (a = x ∧ b < y)))) mt) : T2 c n f (compareOp .Lt) (.tup [.int a, .int b]) (.tup [.int x, .int y]) loc mt Φ := by
  intro A g Z stk s Q E u₁ u₂ R h₁ h₂ H k
  obtain ⟨nd, m, cm, im, mu, I, hl, hk, hm⟩ := id H
  obtain ⟨p, vs, kp, rfl, e1, v1, r1, r2, ⟨t1, rfl⟩, v2, r3, rfl, ⟨t2, rfl⟩, rfl⟩ := hk _ h₁
  obtain ⟨q, us, kq, rfl, e2, v3, r4, r5, ⟨t3, rfl⟩, v4, r6, rfl, ⟨t4, rfl⟩, rfl⟩ := hk _ h₂
  have g1 := (I.imh _ e1).1
  have g2 := (I.imh _ e2).1
  have w1 : vs = #[.int a t1, .int b t2] := by rw [← r2]
  have w2 : us = #[.int x t3, .int y t4] := by rw [← r5]
  subst w1 w2
  refine cmp_ofLt (wpAny_richCompare_same_room (op := .Lt) ⟨_, g1, rfl⟩ ⟨_, g2, rfl⟩ F.slot_tuple_lt
    (wpAny_call_entry F.slot_tuple_lt ⟨_, g1, rfl⟩ F.entry_tuple_lt (pair_lt g1 g2 ⟨_, rfl, (fun e => nomatch e), k _ _ _ s.heap s.toks h (H.bool _)⟩) (F.args_tuple_lt_2 _ _)) (by have := R.units; omega))
end
end Mine

namespace Mine

section
variable {prog : Program} {w : World} {A : Around} {E : Value → Shared → Prop} {s : Shared}
theorem nextOf_tuple {it t : Addr} {i : Nat} {items : Array Value} {Q : Value → Shared → Prop} (hh : A.handled = none) (hit : s.heap.IsTupleIter it t i) (ht : s.heap.IsTuple t items)
    (hQ : ∀ x h', items[i]? = some x → h'.IsTupleIter it t (i + 1) → Heap.SameBut it s.heap h' → Q x { s with heap := h' })
    (hE : ∀ h' e, items[i]? = none → Heap.ExtBut it s.heap h' → (∃ o, h'.get? e = some o ∧ o.cls = .type "StopIteration") → E (.ref e) { s with heap := h' }) :
    wpAny (model prog w) A (Builtin.SmallTypes.nextOf (.ref it)) Q E s := by
  obtain ⟨o, ho, hc, hd⟩ := id hit
  obtain ⟨ot, hot, _, nt, hdt⟩ := ht
  unfold Builtin.SmallTypes.nextOf
  refine wpAny_bind (wpAny_callSpecial?_slot (name := Str.ofString "__next__") hit.typeIs F.slot_tuple_iterator_next
    (wpAny_call_entry F.slot_tuple_iterator_next hit.typeIs F.entry_tuple_iterator_next ?_ (F.args_tuple_iterator_next_1 _)))
  show wpAny _ _ (field (.ref it) 0 >>= _) _ _ s
  refine wpAny_bind (wpAny_field ho hd (x := .ref t) rfl ?_)
  show wpAny _ _ (if (Value.ref t == Value.none) = true then _ else _) _ _ s
  rw [if_neg (show ¬ ((Value.ref t == Value.none) = true) from Bool.false_ne_true)]
  show wpAny _ _ (field (.ref it) 1 >>= _) _ _ s
  refine wpAny_bind (wpAny_field ho hd (x := .int i 0) rfl ?_)
  show wpAny _ _ (seqItems? (.ref t) >>= _) _ _ s
  refine wpAny_bind (wpAny_seqItems hot hdt ?_)
  cases hx : items[i]? with
  | some x =>
    simp only [Int.toNat_natCast, hx]
    refine wpAny_bind (wpAny_setField ho hd (by simp) (wpAny_pure ⟨x, rfl, wpAny_pure (hQ x _ hx ?_ (Heap.SameBut.update ..))⟩))
    exact ⟨_, Heap.get?_update_self _ ho (Obj.isFreed_of_fields (Obj.data_mapFields hd _)), (Obj.cls_mapFields ..).trans hc, by
      rw [Obj.data_mapFields hd]; simp [rawInt]⟩
  | none =>
    simp only [Int.toNat_natCast, hx]
    refine wpAny_bind (wpAny_rule (wpAny_bind (wpAny_setField ho hd (by simp) ?_)))
    show wpAny _ _ (newExc (.type "StopIteration") [] >>= _) _ _ _
    refine wpAny_bind ?_
    simp only [newExc, newTuple]
    refine wpAny_bind (wpAny_newObj_type ?_ (by size_fits))
    refine wpAny_bind (m := firstArgMember _ _) (wpAny_of_eq (a := Value.none) (by first | rfl | (simp only [firstArgMember]; rfl)) ?_)
    refine wpAny_newObj_type ?_ (by size_fits)
    simp only [raiseNew]
    refine wpAny_bind (wpAny_handled ?_)
    first | rw [show A.in1.handled = none from hh] | rw [hh]
    refine wpAny_bind (wpAny_pure (wpAny_throw ?_))
    exact hE _ _ hx (((Heap.SameBut.update ..).extBut.push _).push _) ⟨_, Heap.get?_push_size _ rfl, rfl⟩
noncomputable def ZipSt (h : Heap) (N l1 l2 : Addr) (xs ys : Array Value) (i : Nat) : Prop :=
  IsZip h (N + 4) (N + 2) (N + 3) .none ∧ IsPair h (N + 2) (.ref N) (.ref (N + 1)) ∧ (∃ a b, IsPair h (N + 3) a b) ∧ h.IsTupleIter N l1 i ∧ h.IsListIter (N + 1) l2 i ∧ h.IsTuple l1 xs ∧ h.IsList l2 ys
noncomputable def zWr (N : Addr) : List Addr := [N + 4, N + 3, N, N + 1, N + 2]
theorem zip_item {N l1 l2 : Addr} {xs ys : Array Value} {i : Nat} {x y : Value} {Q : Value → Shared → Prop} (hh : A.handled = none) (D : ZipApart (N + 4) (N + 2) (N + 3) N (N + 1) l1 l2)
    (hst : ZipSt s.heap N l1 l2 xs ys i) (hx : xs[i]? = some x) (hy : ys[i]? = some y)
    (hQ : ∀ h', IsZip h' (N + 4) (N + 2) (N + 3) (rawInt s.heap.objs.size) → IsPair h' (N + 3) x y → h'.IsTupleIter N l1 (i + 1) → h'.IsListIter (N + 1) l2 (i + 1) → IsPair h' s.heap.objs.size x y →
      (∀ c o, c ∉ zWr N ∨ c = N + 2 → s.heap.get? c = some o → h'.get? c = some o) → Q (.ref s.heap.objs.size) { s with heap := h' }) :
    wpAny (model prog w) A (Builtin.«zip.__next__» ⟨[.ref (N + 4)], []⟩) (fun fin s' => ∃ v, fin = .done (.ret v) ∧ Q v s') E s := by
  obtain ⟨hz, hTI, ⟨a, b, hTO⟩, h1, h2, hl1, hl2⟩ := hst
  show wpAny _ _ (field (.ref (N + 4)) 2 >>= _) _ _ _
  refine wpAny_bind (wpAny_field hz rfl (x := .bool false) rfl ?_)
  show wpAny _ _ (field (.ref (N + 4)) 3 >>= _) _ _ _
  refine wpAny_bind (wpAny_field hz rfl (x := .ref (N + 2)) rfl ?_)
  refine wpAny_bind (wpAny_seqItems hTI rfl ?_)
  show wpAny _ _ (Builtin.SmallTypes.ownedTupleIsFree (.ref (N + 4)) >>= _) _ _ _
  refine wpAny_bind ?_
  unfold Builtin.SmallTypes.ownedTupleIsFree
  refine wpAny_bind (wpAny_field hz rfl (x := .none) rfl (wpAny_pure ?_))
  simp only [if_true]
  refine wpAny_bind (wpAny_rule ?_)
  refine wpAny_bind (wpAny_field hz rfl (x := .ref (N + 3)) rfl ?_)
  refine wpAny_bind (wpAny_setField_rec hz (by simp) fun h₁ hz₁ hs₁ => ?_)
  replace hz₁ : IsZip h₁ (N + 4) (N + 2) (N + 3) .ellipsis := hz₁
  refine wpAny_bind ?_
  simp only [List.zipIdx_cons, List.zipIdx_nil, List.forIn_cons, List.forIn_nil]
  refine wpAny_bind (wpAny_bind (wpAny_onRaise ?_))
  show wpAny _ _ (Builtin.SmallTypes.nextOf (.ref N) >>= _) _ _ _
  refine wpAny_bind (nextOf_tuple hh (h1.extBut hs₁.extBut D.i1z) (hl1.extBut hs₁.extBut D.l1z) (fun x' h₂ ex h1₂ hs₂ => wpAny_pure ?_) (fun h' e hn => by rw [hx] at hn; cases hn))
  rw [hx] at ex
  cases ex
  have hTO₂ : IsPair h₂ (N + 3) a b := hs₂.extBut _ _ D.TOi1 (hs₁.extBut _ _ D.TOz hTO)
  refine wpAny_bind (wpAny_seqItems hTO₂ rfl ?_)
  refine wpAny_bind (wpAny_updateSeq_pair hTO₂ fun h₃ hTO₃ hs₃ => ?_)
  replace hTO₃ : IsPair h₃ (N + 3) x b := hTO₃
  refine wpAny_bind (wpAny_letGo (wpAny_pure ?_))
  refine wpAny_bind (wpAny_bind (wpAny_onRaise ?_))
  show wpAny _ _ (Builtin.SmallTypes.nextOf (.ref (N + 1)) >>= _) _ _ _
  refine wpAny_bind (wpAny_nextOf_list_item (((h2.extBut hs₁.extBut D.i2z).extBut hs₂.extBut D.i12.symm).extBut hs₃.extBut D.TOi2.symm)
    (((hl2.extBut hs₁.extBut D.l2z).extBut hs₂.extBut D.l2i1).extBut hs₃.extBut D.l2TO) hy fun h₄ h2₄ hs₄ => wpAny_pure ?_)
  have hTO₄ : IsPair h₄ (N + 3) x b := hs₄.extBut _ _ D.TOi2 hTO₃
  refine wpAny_bind (wpAny_seqItems hTO₄ rfl ?_)
  refine wpAny_bind (wpAny_updateSeq_pair hTO₄ fun h₅ hTO₅ hs₅ => ?_)
  replace hTO₅ : IsPair h₅ (N + 3) x y := hTO₅
  refine wpAny_bind (wpAny_letGo (wpAny_pure (wpAny_pure ?_)))
  refine wpAny_bind (wpAny_seqItems hTO₅ rfl ?_)
  refine wpAny_bind (wpAny_newTuple ?_)
  have hsz : h₅.objs.size = s.heap.objs.size := by rw [hs₅.1, hs₄.1, hs₃.1, hs₂.1, hs₁.1]
  have hz₅ : IsZip h₅ (N + 4) (N + 2) (N + 3) .ellipsis := hs₅.extBut _ _ D.TOz.symm (hs₄.extBut _ _ D.i2z.symm (hs₃.extBut _ _ D.TOz.symm (hs₂.extBut _ _ D.i1z.symm hz₁)))
  have hk₅ : ∀ c o, c ≠ N + 4 → c ≠ N + 3 → c ≠ N → c ≠ N + 1 → s.heap.get? c = some o → h₅.get? c = some o := fun c o c1 c2 c3 c4 e =>
    hs₅.extBut _ _ c2 (hs₄.extBut _ _ c4 (hs₃.extBut _ _ c2 (hs₂.extBut _ _ c3 (hs₁.extBut _ _ c1 e))))
  have h1₅ : h₅.IsTupleIter N l1 (i + 1) := ((h1₂.extBut hs₃.extBut D.TOi1.symm).extBut hs₄.extBut D.i12).extBut hs₅.extBut D.TOi1.symm
  have h2₅ : h₅.IsListIter (N + 1) l2 (i + 1) := h2₄.extBut hs₅.extBut D.TOi2.symm
  have hzlt : N + 4 < h₅.objs.size := Heap.lt_size hz₅
  show wpAny _ _ (Builtin.SmallTypes.ownedTupleHandOut (.ref (N + 4)) (.ref h₅.objs.size) >>= _) _ _ _
  refine wpAny_bind ?_
  unfold Builtin.SmallTypes.ownedTupleHandOut
  have hz₆ : IsZip (h₅.push { cls := .type "tuple", data := .seq #[x, y] }) (N + 4) (N + 2) (N + 3) .ellipsis := Heap.get?_push_of_some _ hz₅
  refine wpAny_bind (wpAny_setField_rec hz₆ (by simp) fun h₇ hz₇ hs₇ => ?_)
  replace hz₇ : IsZip h₇ (N + 4) (N + 2) (N + 3) (rawInt h₅.objs.size) := hz₇
  refine wpAny_setField_rec hz₇ (by simp) fun h₈ hz₈ hs₈ => ?_
  replace hz₈ : IsZip h₈ (N + 4) (N + 2) (N + 3) (rawInt h₅.objs.size) := hz₈
  have up : ∀ c o, c ≠ N + 4 → h₅.get? c = some o → h₈.get? c = some o := fun c o c1 e => hs₈.extBut _ _ c1 (hs₇.extBut _ _ c1 (Heap.get?_push_of_some _ e))
  have hT₈ : IsPair h₈ h₅.objs.size x y := hs₈.extBut _ _ (Nat.ne_of_gt hzlt) (hs₇.extBut _ _ (Nat.ne_of_gt hzlt) (Heap.get?_push_size _ rfl))
  rw [hsz] at hz₈ hT₈
  refine wpAny_pure ⟨_, rfl, ?_⟩
  show Q (.ref h₅.objs.size) _
  rw [hsz]
  refine hQ h₈ hz₈ (up _ _ D.TOz hTO₅) (h1₅.at fun o e => up _ o D.i1z e) (h2₅.at fun o e => up _ o D.i2z e) hT₈ fun c o hc e => ?_
  have c1 : c ≠ N + 4 ∧ c ≠ N + 3 ∧ c ≠ N ∧ c ≠ N + 1 := by
    rcases hc with hc | rfl
    · simp only [zWr, List.mem_cons, List.not_mem_nil, or_false, not_or] at hc
      exact ⟨hc.1, hc.2.1, hc.2.2.1, hc.2.2.2.1⟩
    · exact ⟨D.TIz, D.TITO, D.TIi1, D.TIi2⟩
  exact up c o c1.1 (hk₅ c o c1.1 c1.2.1 c1.2.2.1 c1.2.2.2 e)
theorem zip_end {N l1 l2 : Addr} {xs ys : Array Value} {i : Nat} {Q : Fin → Shared → Prop} (hh : A.handled = none) (D : ZipApart (N + 4) (N + 2) (N + 3) N (N + 1) l1 l2)
    (hst : ZipSt s.heap N l1 l2 xs ys i) (hx : xs[i]? = none)
    (hE : ∀ h' e, (∀ c o, c ∉ zWr N → s.heap.get? c = some o → h'.get? c = some o) → (∃ o, h'.get? e = some o ∧ o.cls = .type "StopIteration") → E (.ref e) { s with heap := h' }) :
    wpAny (model prog w) A (Builtin.«zip.__next__» ⟨[.ref (N + 4)], []⟩) Q E s := by
  obtain ⟨hz, hTI, ⟨a, b, hTO⟩, h1, h2, hl1, hl2⟩ := hst
  show wpAny _ _ (field (.ref (N + 4)) 2 >>= _) _ _ _
  refine wpAny_bind (wpAny_field hz rfl (x := .bool false) rfl ?_)
  show wpAny _ _ (field (.ref (N + 4)) 3 >>= _) _ _ _
  refine wpAny_bind (wpAny_field hz rfl (x := .ref (N + 2)) rfl ?_)
  refine wpAny_bind (wpAny_seqItems hTI rfl ?_)
  show wpAny _ _ (Builtin.SmallTypes.ownedTupleIsFree (.ref (N + 4)) >>= _) _ _ _
  refine wpAny_bind ?_
  unfold Builtin.SmallTypes.ownedTupleIsFree
  refine wpAny_bind (wpAny_field hz rfl (x := .none) rfl (wpAny_pure ?_))
  simp only [if_true]
  refine wpAny_bind (wpAny_rule ?_)
  refine wpAny_bind (wpAny_field hz rfl (x := .ref (N + 3)) rfl ?_)
  refine wpAny_bind (wpAny_setField_rec hz (by simp) fun h₁ hz₁ hs₁ => ?_)
  replace hz₁ : IsZip h₁ (N + 4) (N + 2) (N + 3) .ellipsis := hz₁
  refine wpAny_bind ?_
  simp only [List.zipIdx_cons, List.zipIdx_nil, List.forIn_cons, List.forIn_nil]
  refine wpAny_bind (wpAny_bind (wpAny_onRaise ?_))
  show wpAny _ _ (Builtin.SmallTypes.nextOf (.ref N) >>= _) _ _ _
  refine wpAny_bind (nextOf_tuple hh (h1.extBut hs₁.extBut D.i1z) (hl1.extBut hs₁.extBut D.l1z) (fun x' h₂ ex => by rw [hx] at ex; cases ex) (fun h₂ e _ hs₂ he => ?_))
  obtain ⟨oe, hoe, hce⟩ := he
  have hz₂ : IsZip h₂ (N + 4) (N + 2) (N + 3) .ellipsis := hs₂ _ _ D.i1z.symm hz₁
  have hez : e ≠ N + 4 := fun x => by subst x; rw [hz₂] at hoe; cases hoe; simp at hce
  refine wpAny_setField_rec hz₂ (by simp) fun h₃ _ hs₃ => hE h₃ e (fun c o hc x => ?_) ⟨oe, hs₃.extBut _ _ hez hoe, hce⟩
  simp only [zWr, List.mem_cons, List.not_mem_nil, or_false, not_or] at hc
  exact hs₃.extBut _ _ hc.1 (hs₂ _ _ hc.2.2.1 (hs₁.extBut _ _ hc.1 x))
noncomputable abbrev zpA (h : Heap) (l1 : Addr) : Heap := h.push { cls := .type "tuple_iterator", data := .fields #[.ref l1, .int 0 0] }
noncomputable abbrev zpB (h : Heap) (l1 l2 : Addr) : Heap := (zpA h l1).push { cls := .type "list_iterator", data := .fields #[.ref l2, .int 0 0] }
noncomputable abbrev zpC (h : Heap) (l1 l2 : Addr) : Heap := (zpB h l1 l2).push { cls := .type "tuple", data := .seq #[.ref h.objs.size, .ref (zpA h l1).objs.size] }
noncomputable abbrev zpD (h : Heap) (l1 l2 : Addr) : Heap := (zpC h l1 l2).push { cls := .type "tuple", data := .seq #[.none, .none] }
noncomputable abbrev zpE (h : Heap) (l1 l2 : Addr) : Heap := (zpD h l1 l2).push { cls := .type "zip", data := .fields #[.none, .bool false, .bool false, .ref (zpB h l1 l2).objs.size, .ref (zpC h l1 l2).objs.size] }
theorem zip_new (l1 l2 : Addr) (xs ys : Array Value) (k1 k2 : Nat) : Meets (Builtin.«zip.__new__» ⟨[.type "zip", .ref l1, .ref l2], []⟩) (fun _ R s => s.heap.get? l1 = some (tupOf xs k1) ∧ s.heap.get? l2 = some (listOf ys k2) ∧
      R (.ok (.ret (.ref (zpD s.heap l1 l2).objs.size))) { s with heap := zpE s.heap l1 l2 }) :=
    .of_wp fun prog w A R s h => by
      obtain ⟨hp, g, d, tk, os⟩ := s; obtain ⟨hl1, hl2, h⟩ := h
      have hsub := sub_zip
      have hL1 : Heap.IsTuple (Shared.heap ⟨hp, g, d, tk, os⟩) l1 xs := ⟨_, hl1, rfl, k1, rfl⟩
      have hL2 : Heap.IsList (Shared.heap ⟨hp.push { cls := .type "tuple_iterator", data := .fields #[.ref l1, .int 0 0] }, g, d, tk, os⟩) l2 ys := Heap.IsList.push ⟨_, hl2, rfl, k2, rfl⟩ _
      wp_walk using wpAny_pyIter_tuple hL1, wpAny_pyIter_list hL2
      exact ⟨_, rfl, h⟩
theorem zip_make {l1 l2 : Addr} {xs ys : Array Value} {k1 k2 : Nat} {Q : Value → Shared → Prop} (hl1 : s.heap.get? l1 = some (tupOf xs k1)) (hl2 : s.heap.get? l2 = some (listOf ys k2))
    (h : ∀ h', ZipSt h' s.heap.objs.size l1 l2 xs ys 0 → h'.objs.size = s.heap.objs.size + 5 → (∀ c o, s.heap.get? c = some o → h'.get? c = some o) → Q (.ref (s.heap.objs.size + 4)) { s with heap := h' }) :
    wpAny (model prog w) A (call (.type "zip") [.ref l1, .ref l2]) Q E s := by
  refine callType_new F.called_zip (by decide) (F.typeCall_zip_2 _ _) (F.newCall_zip_2 _ _) (fun obj => F.args_object_init_3 obj _ _) F.entry_zip_new
    (zip_new l1 l2 xs ys k1 k2) ⟨hl1, hl2, ?_⟩
  have z1 : (zpA s.heap l1).objs.size = s.heap.objs.size + 1 := Heap.size_push ..
  have z2 : (zpB s.heap l1 l2).objs.size = s.heap.objs.size + 2 := by rw [Heap.size_push, z1]
  have z3 : (zpC s.heap l1 l2).objs.size = s.heap.objs.size + 3 := by rw [Heap.size_push, z2]
  have z4 : (zpD s.heap l1 l2).objs.size = s.heap.objs.size + 4 := by rw [Heap.size_push, z3]
  have z5 : (zpE s.heap l1 l2).objs.size = s.heap.objs.size + 5 := by rw [Heap.size_push, z4]
  have g5 : (zpE s.heap l1 l2).get? (zpD s.heap l1 l2).objs.size = some _ := Heap.get?_push_size _ rfl
  have g4 : (zpE s.heap l1 l2).get? (zpC s.heap l1 l2).objs.size = some _ := Heap.get?_push_of_some _ (Heap.get?_push_size _ rfl)
  have g3 : (zpE s.heap l1 l2).get? (zpB s.heap l1 l2).objs.size = some _ := Heap.get?_push_of_some _ (Heap.get?_push_of_some _ (Heap.get?_push_size _ rfl))
  have g2 : (zpE s.heap l1 l2).get? (zpA s.heap l1).objs.size = some _ := Heap.get?_push_of_some _ (Heap.get?_push_of_some _ (Heap.get?_push_of_some _ (Heap.get?_push_size _ rfl)))
  have g1 : (zpE s.heap l1 l2).get? s.heap.objs.size = some _ := Heap.get?_push_of_some _ (Heap.get?_push_of_some _ (Heap.get?_push_of_some _ (Heap.get?_push_of_some _ (Heap.get?_push_size _ rfl))))
  have keep : ∀ c o, s.heap.get? c = some o → (zpE s.heap l1 l2).get? c = some o := fun c o x => Heap.get?_push_of_some _ (Heap.get?_push_of_some _ (Heap.get?_push_of_some _ (Heap.get?_push_of_some _ (Heap.get?_push_of_some _ x))))
  show _ ∧ _
  rw [z2, z3, z4] at g5
  rw [z1, z2] at g3
  rw [z3] at g4
  rw [z1] at g2
  rw [z4]
  exact ⟨⟨_, g5, rfl⟩, h _ ⟨g5, g3, ⟨_, _, g4⟩, ⟨_, g1, rfl, rfl⟩, ⟨_, g2, rfl, rfl⟩, ⟨_, keep _ _ hl1, rfl, k1, rfl⟩, ⟨_, keep _ _ hl2, rfl, k2, rfl⟩⟩ z5 keep⟩
end
end Mine

namespace Mine

theorem zWr_mem {N b : Addr} (h : b ∈ zWr N) : N ≤ b ∧ b < N + 5 := by
  simp only [zWr, List.mem_cons, List.not_mem_nil, or_false] at h
  rcases h with rfl | rfl | rfl | rfl | rfl
  · exact ⟨Nat.le_add_right _ 4, Nat.add_lt_add_left (by decide) N⟩
  · exact ⟨Nat.le_add_right _ 3, Nat.add_lt_add_left (by decide) N⟩
  · exact ⟨Nat.le_refl _, Nat.lt_add_of_pos_right (by decide)⟩
  · exact ⟨Nat.le_add_right _ 1, Nat.add_lt_add_left (by decide) N⟩
  · exact ⟨Nat.le_add_right _ 2, Nat.add_lt_add_left (by decide) N⟩
theorem ZipSt.keep {h h' : Heap} {N l1 l2 : Addr} {xs ys : Array Value} {i : Nat} (S : ZipSt h N l1 l2 xs ys i) (k : ∀ b ∈ zWr N, ∀ o, h.get? b = some o → h'.get? b = some o) (k1 : ∀ o, h.get? l1 = some o → h'.get? l1 = some o) (k2 : ∀ o, h.get? l2 = some o → h'.get? l2 = some o) : ZipSt h' N l1 l2 xs ys i := by
  obtain ⟨hz, hTI, ⟨a, b, hTO⟩, h1, h2, ⟨o1, ho1, r1⟩, ⟨o2, ho2, r2⟩⟩ := S
  exact ⟨k _ (by simp [zWr]) _ hz, k _ (by simp [zWr]) _ hTI, ⟨a, b, k _ (by simp [zWr]) _ hTO⟩, h1.at fun o e => k _ (by simp [zWr]) o e, h2.at fun o e => k _ (by simp [zWr]) o e, ⟨o1, k1 _ ho1, r1⟩, ⟨o2, k2 _ ho2, r2⟩⟩
theorem ZipSt.live {h : Heap} {N l1 l2 : Addr} {xs ys : Array Value} {i : Nat} (S : ZipSt h N l1 l2 xs ys i) : ∀ b ∈ zWr N, ∃ o, h.get? b = some o := by
  obtain ⟨hz, hTI, ⟨a, b, hTO⟩, ⟨o1, h1, _⟩, ⟨o2, h2, _⟩, _⟩ := S
  intro b hb
  simp only [zWr, List.mem_cons, List.not_mem_nil, or_false] at hb
  rcases hb with rfl | rfl | rfl | rfl | rfl
  · exact ⟨_, hz⟩
  · exact ⟨_, hTO⟩
  · exact ⟨_, h1⟩
  · exact ⟨_, h2⟩
  · exact ⟨_, hTI⟩
section
variable {prog : Program} {w : World} {A : Around} {E : Value → Shared → Prop} {s : Shared}
theorem zip_turn {elts : List PySem.Expr} {k : Nat} {pos : Pos} {N l1 l2 : Addr} {xs ys : Array Value} {i : Nat} {x y : Value} {Q : Option Value → Shared → Prop} (hh : A.handled = none) (h1 : l1 < N) (h2 : l2 < N)
    (hst : ZipSt s.heap N l1 l2 xs ys i) (hx : xs[i]? = some x) (hy : ys[i]? = some y)
    (hQ : ∀ h', h'.get? s.heap.objs.size = some (tupOf #[x, y] 0) → (∀ b ∈ zWr N, ∃ o, h'.get? b = some o) → (∀ c o, c ∉ zWr N → s.heap.get? c = some o → h'.get? c = some o) →
      (∀ Q' E', (∀ h'', ZipSt h'' N l1 l2 xs ys (i + 1) → h''.get? s.heap.objs.size = some (tupOf #[x, y] 0) → (∀ c o, c ∉ zWr N → s.heap.get? c = some o → h''.get? c = some o) → Q' () { s with heap := h'' }) →
        wpAny (model prog w) A (letOwnedTupleGo (.Tuple elts k pos) (.ref (N + 4)) (.ref s.heap.objs.size)) Q' E' { s with heap := h' }) →
      Q (some (.ref s.heap.objs.size)) { s with heap := h' }) : wpAny (model prog w) A (pyNext (.ref (N + 4))) Q E s := by
  have D := zipApart_new (n := N) h1 h2
  have hT : s.TypeIs (.ref (N + 4)) "zip" := ⟨_, hst.1, rfl⟩
  obtain ⟨_, hTI, ⟨ta, tb, hTO⟩, ⟨oi, hi1, _⟩, ⟨oj, hi2, _⟩, hl1, hl2⟩ := id hst
  have lt : ∀ {c o}, s.heap.get? c = some o → c ≠ s.heap.objs.size := fun e => Nat.ne_of_lt (Heap.lt_size e)
  have nw : s.heap.objs.size ∉ zWr N := by
    simp only [zWr, List.mem_cons, List.not_mem_nil, or_false, not_or]
    exact ⟨fun e => lt hst.1 e.symm, fun e => lt hTO e.symm, fun e => lt hi1 e.symm, fun e => lt hi2 e.symm, fun e => lt hTI e.symm⟩
  unfold pyNext
  refine wpAny_bind (wpAny_attempt (wpAny_callSpecial?_slot (name := Str.ofString "__next__") hT F.slot_zip_next
    (wpAny_call_entry F.slot_zip_next hT F.entry_zip_next (zip_item hh D hst hx hy fun h' a1 a2 a3 a4 a5 a6 => wpAny_pure ?_) (F.args_zip_next_1 _))))
  have m1 : l1 ∉ zWr N := fun hm => absurd (zWr_mem hm).1 (Nat.not_le.mpr h1)
  have m2 : l2 ∉ zWr N := fun hm => absurd (zWr_mem hm).1 (Nat.not_le.mpr h2)
  obtain ⟨p1, q1, r1⟩ := hl1
  obtain ⟨p2, q2, r2⟩ := hl2
  have hTI' := a6 _ _ (.inr rfl) hTI
  obtain ⟨ui, vi1, wi⟩ := a3
  obtain ⟨uj, vj1, wj⟩ := a4
  refine hQ h' a5 (fun b hb => ?_) (fun c o hc e => a6 c o (.inl hc) e) fun Q' E' hQ' => ?_
  · simp only [zWr, List.mem_cons, List.not_mem_nil, or_false] at hb
    rcases hb with rfl | rfl | rfl | rfl | rfl
    · exact ⟨_, a1⟩
    · exact ⟨_, a2⟩
    · exact ⟨_, vi1⟩
    · exact ⟨_, vj1⟩
    · exact ⟨_, hTI'⟩
  · refine wpAny_letOwnedTupleGo_zip a1 fun h'' b1 b2 => hQ' h'' ⟨b1, b2.extBut _ _ D.TIz hTI', ⟨_, _, b2.extBut _ _ D.TOz a2⟩, ⟨ui, b2.extBut _ _ D.i1z vi1, wi⟩, ⟨uj, b2.extBut _ _ D.i2z vj1, wj⟩,
      ⟨p1, b2.extBut _ _ D.l1z (a6 _ _ (.inl m1) q1), r1⟩, ⟨p2, b2.extBut _ _ D.l2z (a6 _ _ (.inl m2) q2), r2⟩⟩ (b2.extBut _ _ (fun e => nw (by rw [e]; simp [zWr])) a5) fun c o hc e => ?_
    refine b2.extBut _ _ (fun e' => hc (by rw [e']; simp [zWr])) (a6 c o (.inl hc) e)
theorem zip_done {N l1 l2 : Addr} {xs ys : Array Value} {Q : Option Value → Shared → Prop} (hh : A.handled = none) (h1 : l1 < N) (h2 : l2 < N) (hst : ZipSt s.heap N l1 l2 xs ys xs.size)
    (hQ : ∀ h', (∀ c o, c ∉ zWr N → s.heap.get? c = some o → h'.get? c = some o) → Q none { s with heap := h' }) : wpAny (model prog w) A (pyNext (.ref (N + 4))) Q E s := by
  have D := zipApart_new (n := N) h1 h2
  have hT : s.TypeIs (.ref (N + 4)) "zip" := ⟨_, hst.1, rfl⟩
  unfold pyNext
  refine wpAny_bind (wpAny_attempt (wpAny_callSpecial?_slot (name := Str.ofString "__next__") hT F.slot_zip_next
    (wpAny_call_entry F.slot_zip_next hT F.entry_zip_next (zip_end hh D hst (by simp) fun h' e hk he => ?_) (F.args_zip_next_1 _))))
  obtain ⟨o, ho, hc⟩ := he
  refine wpAny_bind (wpAny_isInstance (T := "StopIteration") (b := true) ⟨o, ho, hc⟩ isSubtype_stop ?_)
  exact wpAny_pure (hQ _ hk)
end
section
variable {c : Cx} {n : Nat} {f : Fm} {g g' : Heap} {Z zs : List Addr} {loc loc' lf : Lc} {stk stk' : List (D × Value)} {mt mt' : Mt} {h h' h'' : Heap} {m m' : PySem.Str → Option Value} {cm cm' : Addr → Option Value} {im im' mu mu' : Led} {S scope : Scope} {K : Led}
theorem StI.zChanges (I : StI c g Z f m cm im mu h) (hz : ∀ z ∈ zs, z ∈ Z ∧ g.get? z = none) (hk : ∀ b o, b ∉ zs → h.get? b = some o → h'.get? b = some o) (hz' : ∀ z ∈ zs, ∃ o, h'.get? z = some o) : StI c g Z f m cm im mu h' := by
  obtain ⟨oL, es, ep, hoL, rL⟩ := id I.ns
  exact {
    base := I.base
    keep := fun b o e => hk b o (fun hb => by rw [(hz b hb).2] at e; cases e) (I.keep b o e)
    zin := fun y hy => by
      by_cases e : y ∈ zs
      · exact ⟨hz' y e, (I.zin _ hy).2⟩
      · obtain ⟨⟨o, ho⟩, r⟩ := I.zin y hy
        exact ⟨⟨o, hk _ _ e ho⟩, r⟩
    ns := ⟨oL, es, ep, hk _ _ (fun hb => (I.zin _ (hz _ hb).1).2.1 rfl) hoL, rL⟩
    lg := I.lg
    cell := fun a ha => by
      obtain ⟨⟨o, ho, hd⟩, r⟩ := I.cell a ha
      exact ⟨⟨o, hk _ _ (fun hb => (I.zin _ (hz _ hb).1).2.2.1 ha) ho, hd⟩, r⟩
    rc := I.rc
    cinj := I.cinj
    imh := fun q hq => ⟨hk _ _ (fun e => (I.imh q hq).2.2.2 (hz _ e).1) (I.imh q hq).1, (I.imh q hq).2⟩
    muh := fun q hq => ⟨hk _ _ (fun e => (I.muh q hq).2.2.2.2 (hz _ e).1) (I.muh q hq).1, (I.muh q hq).2⟩
    mnd := I.mnd
    mi := I.mi }
theorem StI.zDrops (I : StI c g (zs ++ Z) f m cm im mu h) (hz : ∀ z ∈ zs, z ∉ Z ∧ g.get? z = none) (hk : ∀ b o, b ∉ zs → h.get? b = some o → h'.get? b = some o) : StI c g Z f m cm im mu h' := by
  obtain ⟨oL, es, ep, hoL, rL⟩ := id I.ns
  have up : ∀ z ∈ zs, z ∈ zs ++ Z := fun z hz => List.mem_append_left _ hz
  exact {
    base := I.base
    keep := fun b o e => hk b o (fun hb => by rw [(hz b hb).2] at e; cases e) (I.keep b o e)
    zin := fun y hy => by
      obtain ⟨⟨o, ho⟩, r⟩ := I.zin y (List.mem_append_right _ hy)
      exact ⟨⟨o, hk _ _ (fun e => (hz _ e).1 hy) ho⟩, r⟩
    ns := ⟨oL, es, ep, hk _ _ (fun hb => (I.zin _ (up _ hb)).2.1 rfl) hoL, rL⟩
    lg := I.lg
    cell := fun a ha => by
      obtain ⟨⟨o, ho, hd⟩, r⟩ := I.cell a ha
      exact ⟨⟨o, hk _ _ (fun hb => (I.zin _ (up _ hb)).2.2.1 ha) ho, hd⟩, r⟩
    rc := I.rc
    cinj := I.cinj
    imh := fun q hq => ⟨hk _ _ (fun e => (I.imh q hq).2.2.2 (up _ e)) (I.imh q hq).1, (I.imh q hq).2.1, (I.imh q hq).2.2.1, fun e => (I.imh q hq).2.2.2 (List.mem_append_right _ e)⟩
    muh := fun q hq => ⟨hk _ _ (fun e => (I.muh q hq).2.2.2.2 (up _ e)) (I.muh q hq).1, (I.muh q hq).2.1, (I.muh q hq).2.2.1, (I.muh q hq).2.2.2.1, fun e => (I.muh q hq).2.2.2.2 (List.mem_append_right _ e)⟩
    mnd := I.mnd
    mi := I.mi }
theorem StI.moreZs (I : StI c g Z f m cm im mu h) (h0 : ∀ z ∈ zs, (∃ o, h.get? z = some o) ∧ z ≠ f.env.locals ∧ z ∉ f.oc ∧ c.K.lookup z = none ∧ (∀ q ∈ im, q.1 ≠ z) ∧ (∀ q ∈ mu, q.1 ≠ z)) : StI c g (zs ++ Z) f m cm im mu h := { I with
  zin := fun y hy => by
    rcases List.mem_append.mp hy with hy | hy
    · obtain ⟨a1, a2, a3, a4, _⟩ := h0 y hy
      exact ⟨a1, a2, a3, a4⟩
    · exact I.zin y hy
  imh := fun q hq => ⟨(I.imh q hq).1, (I.imh q hq).2.1, (I.imh q hq).2.2.1, fun e => by
    rcases List.mem_append.mp e with e | e
    · exact (h0 _ e).2.2.2.2.1 q hq rfl
    · exact (I.imh q hq).2.2.2 e⟩
  muh := fun q hq => ⟨(I.muh q hq).1, (I.muh q hq).2.1, (I.muh q hq).2.2.1, (I.muh q hq).2.2.2.1, fun e => by
    rcases List.mem_append.mp e with e | e
    · exact (h0 _ e).2.2.2.2.2 q hq rfl
    · exact (I.muh q hq).2.2.2.2 e⟩ }
theorem StK.zTurn {d : D} {o : Obj} (H : StK c g Z f loc stk mt K h) (hz : ∀ z ∈ zs, z ∈ Z ∧ g.get? z = none) (hk : ∀ b o, b ∉ zs → h.get? b = some o → h'.get? b = some o) (hz' : ∀ z ∈ zs, ∃ o, h'.get? z = some o)
    (hT : h'.get? h.objs.size = some o) (hr : ∀ im', (∀ q ∈ K, q ∈ im') → (h.objs.size, o) ∈ im' → Rep c.P im' d (.ref h.objs.size)) : StK c g Z f loc ((d, .ref h.objs.size) :: stk) mt K h' := by
  obtain ⟨nd, m, cm, im, mu, I, hl, hk', hm⟩ := H
  obtain ⟨i1, i2, i3, i4, i5, i6⟩ := I.fresh (Nat.le_refl _)
  have J := (I.zChanges hz hk hz').addIm hT i1 i2 i3 i4
  have sb : ∀ q ∈ im ++ K, q ∈ (h.objs.size, o) :: im ++ K := fun q hq => .tail _ hq
  refine ⟨nd, m, cm, (h.objs.size, o) :: im, mu, J, locMono sb hl, fun q hq => ?_, hm.mono sb⟩
  rcases List.mem_cons.mp hq with rfl | hq
  · exact hr _ (fun q hq => .tail _ (List.mem_append_right _ hq)) (.head _)
  · exact (hk' q hq).mono sb
noncomputable def zipD (as bs : List D) : List D := List.zipWith (fun a b => .tup [a, b]) as bs
theorem compLoopZ {A : Around} {s : Shared} {R : Result → Shared → Prop} {e : PySem.Expr} {depth : Nat} {elts : List PySem.Expr} {kk : Nat} {tp : Pos} {p : Pos} {mid : Value → Sem Unit} {N l1 l2 acc : Addr} {as bs : List D} {xs ys : Array Value} {vs : Array Value} {k : Nat} {ds : List D} {k1 k2 : Nat}
    (J : Nat → List D → Mt → Prop)
    (he : compTurn e depth (.ref (N + 4)) (.ref acc) f.env = (do
      standAt p
      match ← pyNext (.ref (N + 4)) with
      | none => pure (.done .next)
      | some v =>
        letOwnedTupleGo (.Tuple elts kk tp) (.ref (N + 4)) v
        PySem.assign (.Tuple elts kk tp) f.env v
        mid (.ref acc)
        again (.compLoop e depth (.ref (N + 4)) (.ref acc) f.env)))
    (hden : (model c.prog c.w).den (.compLoop e depth (.ref (N + 4)) (.ref acc) f.env) = (compTurn e depth (.ref (N + 4)) (.ref acc) f.env).onRaise (fun x => do noteFrame x f.env; theTreesLotGoes x))
    (hund : A.under (.compLoop e depth (.ref (N + 4)) (.ref acc) f.env) = A) (hq : (Code.compLoop e depth (.ref (N + 4)) (.ref acc) f.env).quiet = true)
    (Rm : Room A n) (hl1 : l1 < N) (hl2 : l2 < N) (hm1 : (l1, tupOf xs k1) ∈ K) (hm2 : (l2, listOf ys k2) ∈ K) (r1 : RepL c.P K as xs.toList) (r2 : RepL c.P K bs ys.toList) (hlen2 : as.length = bs.length)
    (w0 : ZipSt s.heap N l1 l2 xs ys 0) (hwr : ∀ z ∈ zWr N, z ∈ Z ∧ g.get? z = none) (haw : acc ∉ zWr N) (haZ : acc ∈ Z) (hga : g.get? acc = none) (hl : ds.length = vs.size) (ha : s.heap.get? acc = some (listOf vs k)) (H : StK c g Z f loc (ds.zip vs.toList ++ stk) mt K s.heap) (hJ : J 0 ds mt)
    (hlen : ∀ i ds mt, J i ds mt → ds.length ≤ 1000)
    (turn : ∀ i d' ds mt', (zipD as bs)[i]? = some d' → J i ds mt' → AsW c n f (PySem.assign (.Tuple elts kk tp) f.env) d' loc mt' (fun loc₂ mt₂ => List.Sublist loc loc₂ ∧ EmW c n f mid loc₂ ds mt₂ (fun ds' mt'' => J (i + 1) ds' mt'')))
    (hR : ∀ ds' vs' k' mt' h' tk, J as.length ds' mt' → ds'.length = (vs' : Array Value).size → h'.get? acc = some (listOf vs' k') → (∃ h₀, StK c g Z f loc (ds'.zip vs'.toList ++ stk) mt' K h₀ ∧ ∀ b o, b ∉ zWr N → h₀.get? b = some o → h'.get? b = some o) → R (.ok .next) { s with heap := h', toks := tk }) :
    codeAny (model c.prog c.w) A (.compLoop e depth (.ref (N + 4)) (.ref acc) f.env) R s := by
  have la : as.length = xs.size := by rw [← r1.length]; simp
  have lb : bs.length = ys.size := by rw [← r2.length]; simp
  refine codeAny_loop hq (CLoop c g Z f loc stk K acc J (fun i h' => ZipSt h' N l1 l2 xs ys i) (fun _ => True) as.length s) ?_ (as.length + 1)
    ⟨0, ds, vs, k, mt, s.heap, s.toks, rfl, Nat.zero_le _, rfl, hJ, w0, hl, ha, H, trivial⟩
  rintro q s' ⟨i, ds', vs', k', mt', h', tk', rfl, hi, rfl, hJ', hw, hl', ha', H', -⟩
  rw [hund, hden]
  refine wpAny_noted ?_
  rw [he]
  refine wpAny_bind (wpAny_standAt (wpAny_bind ?_))
  have hK : ∀ {h₀ : Heap} {stk₀ : List (D × Value)} {loc₀ : Lc} {mt₀ : Mt}, StK c g Z f loc₀ stk₀ mt₀ K h₀ → ∀ q ∈ K, h₀.get? q.1 = some q.2 := fun H₀ q hq => by
    obtain ⟨_, _, _, _, _, I₀, _⟩ := H₀
    exact (I₀.imh q (List.mem_append_right _ hq)).1
  by_cases hlt : i < as.length
  · obtain ⟨x, hx, rx⟩ := r1.get (i := i) (d := as[i]) (by simp [hlt])
    obtain ⟨y, hy, ry⟩ := r2.get (i := i) (d := bs[i]'(hlen2 ▸ hlt)) (by simp [hlen2 ▸ hlt])
    refine zip_turn (elts := elts) (k := kk) (pos := tp) Rm.1 hl1 hl2 hw (by simpa using hx) (by simpa using hy) fun h₁ hT live keep go => ?_
    refine wpAny_bind (go _ _ fun h₂ hw₂ hT₂ keep₂ => ?_)
    have Hd := H'.zTurn (d := .tup [as[i], bs[i]'(hlen2 ▸ hlt)]) hwr keep₂ hw₂.live hT₂ fun im' hK' hm' => ⟨_, _, 0, rfl, hm', RepL.cons (rx.mono hK') (.one (ry.mono hK'))⟩
    obtain ⟨g', Wk, back⟩ := Hd.work
    have hltb : i < bs.length := hlen2 ▸ hlt
    refine wpAny_bind (turn i _ ds' mt' (by unfold zipD; rw [List.getElem?_zipWith, List.getElem?_eq_getElem hlt, List.getElem?_eq_getElem hltb]) hJ' Rm (.head _) Wk fun loc₂ mt₂ h₃ tk₃ p₂ H₂ => ?_)
    obtain ⟨HK, hZ⟩ := back _ _ _ _ H₂
    obtain ⟨hsub, em⟩ := p₂
    have ha'' : h₂.get? acc = some (listOf vs' k') := keep₂ _ _ haw ha'
    refine wpAny_bind (em (stk := (D.tup [as[i], bs[i]'hltb], Value.ref h'.objs.size) :: stk) Rm haZ hga hl' (hlen _ _ _ hJ') (hZ acc haZ _ ha'') (HK.sub fun q hq => ?_) fun ds₃ vs₃ k₃ loc₃ mt₃ h₄ tk₄ hJ₃ hsub₃ hl₃ ha₃ H₃ hz₃ => ?_)
    · rcases List.mem_append.mp hq with hq | hq
      · exact .tail _ (List.mem_append_left _ hq)
      · rcases List.mem_cons.mp hq with rfl | hq
        · exact .head _
        · exact .tail _ (List.mem_append_right _ hq)
    · refine wpAny_pure ⟨rfl, as.length + 1 - (i + 1), by omega, i + 1, ds₃, vs₃, k₃, mt₃, h₄, tk₄, rfl, hlt, rfl, hJ₃, hw₂.keep (fun b hb o e => ?_) (fun o e => ?_) (fun o e => ?_), hl₃, ha₃, (H₃.locSub (hsub.trans hsub₃)).sub (fun q hq => ?_), trivial⟩
      · exact hz₃ b (hwr b hb).1 (fun e' => haw (e' ▸ hb)) o (hZ b (hwr b hb).1 o e)
      · have e1 := hK Hd _ hm1
        rw [e1] at e
        cases e
        exact hK H₃ _ hm1
      · have e1 := hK Hd _ hm2
        rw [e1] at e
        cases e
        exact hK H₃ _ hm2
      · rcases List.mem_append.mp hq with hq | hq
        · exact List.mem_append_left _ hq
        · exact List.mem_append_right _ (.tail _ hq)
  · have e : i = as.length := by omega
    subst e
    refine zip_done Rm.1 hl1 hl2 (la ▸ hw) fun h₁ keep => ?_
    exact wpAny_pure (hR ds' vs' k' mt' h₁ tk' hJ' hl' (keep _ _ haw ha') ⟨h', H', keep⟩)
theorem compRunZ {A : Around} {s : Shared} {E : Value → Shared → Prop} {e iter : PySem.Expr} {elts : List PySem.Expr} {kk : Nat} {tp : Pos} {ifs : List PySem.Expr} {rest : List Comprehension} {elt : PySem.Expr} {pos : Pos} {cl : List (PySem.Str × Addr)} {as bs : List D} {v₁ v₂ : Value} {mid : Env → Value → Sem Unit} {R : Value → Addr → Result → Shared → Prop} {p : Pos}
    (J : Nat → List D → Mt → Prop) (Rm : Room A n) (G : GF f S) (ok : CompOk scope S) (hcl : ∀ x, (x, NameKind.free) ∈ scope.names → cl.lookup x = f.env.cells.lookup x)
    (hlf : ∀ q ∈ lf, q ∈ loc ∧ scope.names.lookup q.1 = some .free) (hlfn : (lf.map (·.1)).Nodup) (hlen2 : as.length = bs.length)
    (ee : e = .ListComp elt (⟨.Tuple elts kk tp, iter, ifs, 0⟩ :: rest) scope pos)
    (he : ∀ I acc env, compTurn e 0 (.ref I) (.ref acc) env = (do
      standAt p
      match ← pyNext (.ref I) with
      | none => pure (.done .next)
      | some v =>
        letOwnedTupleGo (.Tuple elts kk tp) (.ref I) v
        PySem.assign (.Tuple elts kk tp) env v
        mid env (.ref acc)
        again (.compLoop e 0 (.ref I) (.ref acc) env)))
    (H : St c g Z f loc ((.tup as, v₁) :: (.list bs, v₂) :: stk) mt s.heap) (hJ : J 0 [] mt) (hlen : ∀ i ds mt, J i ds mt → ds.length ≤ 1000)
    (turn : ∀ f', GF f' scope → TurnW c n f' (.Tuple elts kk tp) mid lf (zipD as bs) J)
    (hR : ∀ acc C ds mt' h' tk m', J as.length ds mt' → (h' : Heap).Ns C m' → St c g (C :: Z) f loc ((.ref acc, .ref acc) :: stk) ((acc, .lst ds) :: mt') h' → C ∉ Z → g.get? C = none → R (.ref acc) C (.ok .next) { s with heap := h', toks := tk }) :
    wpAny (model c.prog c.w) A (call (.type "zip") [v₁, v₂]) (fun xv s₁ => wpAny (model c.prog c.w) A (pyIter xv) (fun it s₂ => wpAny (model c.prog c.w) A (newList []) (fun acc s₃ => wpAny (model c.prog c.w) A (newFunctionEnv scope f.env.globals cl [] f.env.qual none .none (some f.env)) (fun cenv s₄ =>
      codeAny (model c.prog c.w) A (.compStart e 0 it acc { cenv with scope := relabel scope f.env }) (R acc cenv.locals) s₄) E s₃) E s₂) E s₁) E s := by
  obtain ⟨nd, m, cm, im, mu, I₀, hloc, hk, hm⟩ := H
  obtain ⟨l1, xs, k1, rfl, e1, q1⟩ := hk _ (.head _)
  obtain ⟨l2, ys, k2, rfl, e2, q2⟩ := hk _ (.tail _ (.head _))
  have g1 := (I₀.imh _ e1).1
  have g2 := (I₀.imh _ e2).1
  have lt1 : l1 < s.heap.objs.size := Heap.lt_size g1
  have lt2 : l2 < s.heap.objs.size := Heap.lt_size g2
  refine zip_make g1 g2 fun hz₀ zst zsz zk => ?_
  refine wpAny_pyIter_zip zst.1 (wpAny_newList ?_ (by simp [sizeLine_eq]))
  refine wpAny_newFunctionEnv ok.cell (fun _ hb => (nomatch hb)) (fun h₄ hns₄ hsb₄ => ?_) ok.kind
  dsimp only at hns₄ hsb₄ ⊢
  generalize hacc : ({ cls := .type "list", data := .seq ([] : List Value).toArray } : Obj) = oacc at hns₄ hsb₄ ⊢
  have z3 : (hz₀.push oacc).objs.size = s.heap.objs.size + 6 := by rw [Heap.size_push, zsz]
  generalize hC : (hz₀.push oacc).objs.size = C at hns₄ hsb₄ ⊢
  have hCv : C = s.heap.objs.size + 6 := by rw [← hC]; exact z3
  have keep4 : ∀ b o, (hz₀.push oacc).get? b = some o → h₄.get? b = some o := fun b o e => hsb₄.extBut b o (by rw [hCv, ← z3]; exact Nat.ne_of_lt (Heap.lt_size e)) (Heap.get?_push_of_some _ e)
  have keepZ : ∀ b o, hz₀.get? b = some o → h₄.get? b = some o := fun b o e => keep4 b o (Heap.get?_push_of_some _ e)
  have old4 : ∀ b o, s.heap.get? b = some o → h₄.get? b = some o := fun b o e => keepZ b o (zk _ _ e)
  have gAcc : h₄.get? (s.heap.objs.size + 5) = some oacc := keep4 _ _ (zsz ▸ Heap.get?_push_size _ (by rw [← hacc]; rfl))
  have zst4 : ZipSt h₄ s.heap.objs.size l1 l2 xs ys 0 := zst.keep (fun b _ o e => keepZ b o e) (fun o e => keepZ _ o e) (fun o e => keepZ _ o e)
  let rc' : List (Addr × Value) := (f.oc.filterMap fun a => (cm a).map fun v => (a, v)) ++ f.rc
  let f' : Fm := ⟨{ newEnv scope C f.env.globals cl f.env.qual none .none (some f.env) 0 with scope := relabel scope f.env }, [], rc'⟩
  have eL : f'.env.locals = C := rfl
  have kind' : ∀ x, f'.env.kindOf x = (relabel scope f.env).names.lookup x := fun _ => rfl
  have fr : ∀ x, scope.names.lookup x = some .free → (f'.env.kindOf x = some .cell ∨ f'.env.kindOf x = some .free) ∧ ∃ a, f'.env.cells.lookup x = some a ∧ f.env.cells.lookup x = some a := fun x hx => by
    have hm := mem_of_lookup hx
    obtain ⟨_, a, ha⟩ := G.cl x (ok.free _ hm rfl)
    exact ⟨relabel_free hx, a, (hcl x hm).trans ha, ha⟩
  have G' : GF f' scope := {
    kind := ok.kind
    glob := G.glob
    blt := G.blt
    gi := fun x hx => relabel_look (by decide) hx
    loc := fun x hx => relabel_look (by decide) hx
    cell := fun x hx => relabel_look (by decide) hx
    own := fun x hx => absurd rfl (ok.cell _ (mem_of_lookup hx))
    cl := fun x hx => by
      rcases hx with hx | hx
      · exact absurd rfl (ok.cell _ (mem_of_lookup hx))
      · obtain ⟨h1, a, h2, _⟩ := fr x hx
        exact ⟨h1, a, h2⟩ }
  have J₀ : StI c (hideAll s.heap (mu.map (·.1))) (f.env.locals :: f.oc ++ Z) f' (fun _ => none) cm im mu h₄ := by
    refine I₀.enter old4 hns₄ (by rw [eL, hCv]; omega) (fun a ha => (nomatch ha)) (fun q hq => ?_) (fun x y a ha => (nomatch ha))
    rcases List.mem_append.mp hq with hq | hq
    · obtain ⟨a, ha, e⟩ := List.mem_filterMap.mp hq
      cases e' : cm a with
      | none => rw [e'] at e; cases e
      | some u =>
        rw [e'] at e
        cases e
        refine ⟨e' ▸ (I₀.cell a ha).1, fun hm => ?_⟩
        obtain ⟨r, hr, e⟩ := List.mem_map.mp hm
        exact (I₀.muh r hr).2.2.1 (e ▸ ha)
    · obtain ⟨o, ho, hd⟩ := I₀.rc q hq
      refine ⟨⟨o, I₀.keep _ _ ho, hd⟩, fun hm => ?_⟩
      obtain ⟨r, hr, e⟩ := List.mem_map.mp hm
      have := (I₀.muh r hr).2.2.2.1
      rw [e, ho] at this
      cases this
  obtain ⟨a1, a2, a3, a4, a5, a6⟩ := I₀.fresh (Nat.le_add_right s.heap.objs.size 5)
  obtain ⟨c1, c2, c3, c4, c5, c6⟩ := I₀.fresh (a := C) (by omega)
  have noG : ∀ a, s.heap.objs.size ≤ a → (hideAll s.heap (mu.map (·.1))).get? a = none := fun a ha => by
    cases e : (hideAll s.heap (mu.map (·.1))).get? a with
    | none => rfl
    | some o => exact absurd (Heap.lt_size (of_hideAll _ e)) (Nat.not_lt.mpr ha)
  have accN : s.heap.objs.size + 5 ∉ zWr s.heap.objs.size := fun hm => Nat.lt_irrefl _ (zWr_mem hm).2
  have accC : s.heap.objs.size + 5 ≠ C := by rw [hCv]; exact Nat.ne_of_lt (Nat.lt_succ_self _)
  have J₁ := (J₀.moreZ ⟨_, gAcc⟩ (by rw [eL]; exact accC) (fun h => (nomatch h)) (Frag.none_of J₀.base.k (noG _ (Nat.le_add_right _ _))) a5 a4).moreZs (zs := zWr s.heap.objs.size) fun z hz => by
    obtain ⟨w1, w2⟩ := zWr_mem hz
    obtain ⟨_, _, _, w3, w4, _⟩ := I₀.fresh w1
    exact ⟨zst4.live z hz, by rw [eL, hCv]; exact Nat.ne_of_lt (Nat.lt_trans w2 (Nat.lt_succ_self _)), (fun h => nomatch h), Frag.none_of J₀.base.k (noG _ w1), w4, w3⟩
  have hloc' : ∀ q ∈ lf, (q.1 == ("__debug__" : PySem.Str)) = false ∧ ∃ v, VarIs f' (fun _ => none) cm q.1 v ∧ Rep c.P ([] ++ im) q.2 v := fun q hq => by
    obtain ⟨hql, hqf⟩ := hlf q hq
    obtain ⟨hd, u, hu, hr⟩ := hloc q hql
    refine ⟨hd, u, ?_, hr⟩
    obtain ⟨h1, a, h2, h3⟩ := fr _ hqf
    have gk := (G.cl _ (ok.free _ (mem_of_lookup hqf) rfl)).1
    rcases hu with ⟨h4, _⟩ | ⟨b, h4, h5, h6⟩
    · rw [h4] at gk; rcases gk with gk | gk <;> cases gk
    · rw [h3] at h5
      cases h5
      refine .inr ⟨a, h1.imp id fun e => ⟨e, ok.cd _ (mem_of_lookup hqf)⟩, h2, .inr ?_⟩
      rcases h6 with ⟨h6, h7⟩ | h6
      · exact List.mem_append_left _ (List.mem_filterMap.mpr ⟨a, h6, by rw [h7]; rfl⟩)
      · exact List.mem_append_right _ h6
  have HK : StK c (hideAll s.heap (mu.map (·.1))) (zWr s.heap.objs.size ++ (s.heap.objs.size + 5) :: (f.env.locals :: f.oc ++ Z)) f' lf (([] : List D).zip (#[] : Array Value).toList ++ stk) mt im h₄ :=
    ⟨hlfn, _, _, [], mu, J₁, hloc', fun q hq => hk q (.tail _ (.tail _ hq)), hm⟩
  have loop : ∀ s₄ : Shared, s₄ = { s with heap := h₄, toks := s.toks + ([] : List (PySem.Str × Value)).length } →
      codeAny (model c.prog c.w) A (.compLoop e 0 (.ref (s.heap.objs.size + 4)) (.ref (s.heap.objs.size + 5)) f'.env) (R (.ref (s.heap.objs.size + 5)) C) s₄ := by
    rintro s₄ rfl
    refine compLoopZ (s := { s with heap := h₄, toks := s.toks + ([] : List (PySem.Str × Value)).length }) (f := f') (n := n) (p := p) (mid := mid f'.env) (ds := []) (vs := #[]) (k := 0) (stk := stk) (mt := mt) (loc := lf) (K := im) J (he _ _ _) (by rw [ee]; rfl) (by rw [ee]; exact Around.under_of_weight rfl) (by rw [ee]; rfl) Rm lt1 lt2 e1 e2 q1 q2 hlen2
      zst4 (fun z hz => ⟨List.mem_append_left _ hz, noG _ (zWr_mem hz).1⟩) accN (List.mem_append_right _ (.head _)) (noG _ (Nat.le_add_right _ _)) rfl (by rw [← hacc] at gAcc; exact gAcc) HK hJ hlen (turn f' G') ?_
    intro ds' vs' k' mt' h' tk hJ' hl' ha' hend'
    obtain ⟨h₀, ⟨_, m₁, cm₁, im₁, mu₁, J₂, _, hk₂, hm₂⟩, keepI⟩ := hend'
    have J₃ : StI c (hideAll s.heap (mu.map (·.1))) ((s.heap.objs.size + 5) :: (f.env.locals :: f.oc ++ Z)) f' m₁ cm₁ (im₁ ++ im) mu₁ h' := by
      refine J₂.zDrops (fun z hz => ⟨fun hm => ?_, noG _ (zWr_mem hz).1⟩) keepI
      obtain ⟨i1, i2, i3, _⟩ := I₀.fresh (zWr_mem hz).1
      rcases List.mem_cons.mp hm with hm | hm
      · exact accN (hm ▸ hz)
      · rcases List.mem_append.mp hm with hm | hm
        · rcases List.mem_cons.mp hm with hm | hm
          · exact i1 hm
          · exact i2 hm
        · exact i3 hm
    have accIm : ∀ q ∈ im₁ ++ im, q.1 ≠ s.heap.objs.size + 5 := fun q hq e => (J₃.imh q hq).2.2.2 (e ▸ .head _)
    have accMu : ∀ q ∈ mu₁, q.1 ≠ s.heap.objs.size + 5 := fun q hq e => (J₃.muh q hq).2.2.2.2 (e ▸ .head _)
    have L := I₀.leave J₃.lessZ (fun b o _ e => e)
    have im2 : ∀ q ∈ im₁ ++ im ++ im, q.1 ≠ s.heap.objs.size + 5 := fun q hq => by
      rcases List.mem_append.mp hq with hq | hq
      · exact accIm q hq
      · exact a5 q hq
    have L2 := L.addMu ha' a1 a2 a3 accMu im2 a6
    have nsC : h'.Ns C m₁ := J₃.ns
    obtain ⟨oC, esC, epC, hoC, rC⟩ := id nsC
    have L3 := L2.moreZ (z := C) ⟨oC, hoC⟩ c1 c2 (Frag.none_of I₀.base.k c6) (fun q hq => by
        rcases List.mem_append.mp hq with hq | hq
        · exact (J₃.imh q hq).2.1
        · exact c5 q hq) (fun q hq => by
        rcases List.mem_cons.mp hq with rfl | hq
        · exact accC
        · exact (J₃.muh q hq).2.1)
    have sb : ∀ q ∈ im, q ∈ im₁ ++ im ++ im := fun q hq => List.mem_append_right _ hq
    have sb' : ∀ q ∈ im₁ ++ im, q ∈ im₁ ++ im ++ im := fun q hq => List.mem_append_left _ hq
    refine hR (s.heap.objs.size + 5) C ds' mt' h' tk m₁ hJ' nsC ⟨nd, m, cm, _, _, L3, locMono sb hloc, fun q hq => ?_, ⟨_, mu₁, rfl, ⟨vs', k', rfl, (repL_zip (by simpa using hl') fun q hq => hk₂ q (List.mem_append_left _ hq)).mono sb'⟩, hm₂.mono sb'⟩⟩ c3 c6
    rcases List.mem_cons.mp hq with rfl | hq
    · exact rfl
    · exact (hk q (.tail _ (.tail _ hq))).mono sb
  have lp := loop _ rfl
  subst ee
  show codeAny _ _ (.compStart _ 0 (.ref (s.heap.objs.size + 4)) (.ref hz₀.objs.size) f'.env) (R (.ref hz₀.objs.size) C) _
  rw [zsz]
  exact codeAny_compStart_list lp (wpAny_pyIter_zip zst4.1 lp)
theorem TW.compZ {elt e₁ e₂ : PySem.Expr} {elts : List PySem.Expr} {kk : Nat} {tp px pz pos : Pos} {Φ : D → Mt → Prop} (lf : Lc) (G : GF f S) (hx : S.names.lookup ("zip" : PySem.Str) = some .globalImplicit) (hn : nsIn c.K mainGlobals ("zip" : PySem.Str) = some Option.none)
    (hok : compOk scope S = true) (hlf : ∀ q ∈ lf, q ∈ loc ∧ scope.names.lookup q.1 = some .free) (hnd : (lf.map (·.1)).Nodup)
    (h : AW c n f (spliced (backTo pz (starEach [e₁, e₂] f.env))) loc mt (fun ds mt₁ => ∃ as bs, ds = [.tup as, .list bs] ∧ as.length = bs.length ∧ ∃ J : Nat → List D → Mt → Prop, J 0 [] mt₁ ∧ (∀ i ds mt, J i ds mt → ds.length ≤ 1000) ∧
      (∀ f', GF f' scope → TurnW c n f' (.Tuple elts kk tp) (emit1 elt) lf (zipD as bs) J) ∧ (∀ ds mt', J as.length ds mt' → Φ (.list ds) mt')))
    (he : ∀ env, starEach [e₁, e₂] env = (false, eval e₁ env) :: starEach [e₂] env := by intro _; rfl) (hplain : ∀ env, (backTo pz (starEach [e₂] env)).any (·.1) = false := by intro _; rfl) :
    TW c n f (eval (.ListComp elt [⟨.Tuple elts kk tp, .Call (.Name "zip" px) [e₁, e₂] [] pz, [], 0⟩] scope pos) f.env) loc mt Φ := by
  refine TW.frz ?_
  intro A g Z stk s Q E R H k
  have ok := CompOk.of hok
  obtain ⟨cl, hclos, hcl⟩ := closure_of (scope := scope) (env := f.env) fun x hx => (G.cl x (ok.free _ hx rfl)).2
  obtain ⟨nd, m, cm, im, mu, I, hl, hs, hm⟩ := _root_.id H
  rw [eval_ListComp]
  refine wpAny_comprehension_free (use := Option.none) (g := ⟨.Tuple elts kk tp, .Call (.Name "zip" px) [e₁, e₂] [] pz, [], 0⟩) (gs := []) rfl (by intros; rfl) hclos ok.kind ok.loc ?_
  refine Call_ (I.builtinName G hx hn boot_zip (by decide) (by decide) (PyProof.Rows.callWith_type1 (h R H fun ds vs mt₁ h₁ tk₁ hl' p₁ H₁ => ?_) (he _) (hplain _)))
  obtain ⟨as, bs, rfl, hlen2, J, hJ, hlen, turn, fin⟩ := p₁
  obtain ⟨v₁, v₂, rfl⟩ := len2 hl'
  refine compRunZ (s := { s with heap := h₁, toks := tk₁ }) (R := compPost (model c.prog c.w) A E Option.none Q) J R G ok hcl hlf hnd hlen2 rfl (fun I acc env => turn1 elt _ _ scope pos I acc env) H₁ hJ hlen turn fun acc C ds mt' h' tk m' hJ' hns HC hCZ hgC => ?_
  refine ⟨m', hns, fun h'' hsb => ?_⟩
  refine k _ _ _ _ _ ⟨acc, ds, mt', rfl, .head, fin _ _ hJ'⟩ ?_
  obtain ⟨nd, m, cm, im, mu, I, r⟩ := HC
  exact ⟨nd, m, cm, im, mu, I.zDrop hCZ hgC fun b o hb e => (hsb.2 b hb).trans e, r⟩
end
end Mine

namespace Mine
section
variable {c : Cx} {n : Nat} {f : Fm} {loc loc' lf : Lc} {mt mt' : Mt} {S scope : Scope}
theorem At.app {a : Addr} {x : M} {r : Mt} {G : M → Mt} (h : At a x r G) (s : Mt) : At a x (r ++ s) (fun y => G y ++ s) := by
  induction h with
  | head => exact .head
  | tail _ ih => exact .tail ih
theorem At.pre {a : Addr} {x : M} {r : Mt} {G : M → Mt} (h : At a x r G) : ∀ l : Mt, At a x (l ++ r) (fun y => l ++ G y)
  | [] => h
  | _ :: l => .tail (At.pre h l)
theorem Rem.pre {a : Addr} {x : M} {r r' : Mt} (h : Rem a x r r') : ∀ l : Mt, Rem a x (l ++ r) (l ++ r')
  | [] => h
  | _ :: l => .tail (Rem.pre h l)
inductive LfOk (loc : Lc) (scope : Scope) : Lc → List PySem.Str → Prop
  | nil : LfOk loc scope [] []
  | cons {x d l ns} : (x, d) ∈ loc → scope.names.lookup x = some .free → LfOk loc scope l ns → LfOk loc scope ((x, d) :: l) (x :: ns)
theorem LfOk.all {ns : List PySem.Str} (h : LfOk loc scope lf ns) : (∀ q ∈ lf, q ∈ loc ∧ scope.names.lookup q.1 = some .free) ∧ lf.map (·.1) = ns := by
  induction h with
  | nil => exact ⟨(fun _ h => nomatch h), rfl⟩
  | cons h1 h2 _ ih =>
    refine ⟨fun q hq => ?_, by simp [ih.2]⟩
    rcases List.mem_cons.mp hq with rfl | hq
    · exact ⟨h1, h2⟩
    · exact ih.1 q hq
noncomputable def CItW (c : Cx) (n : Nat) (scope : Scope) (target : PySem.Expr) (mid : Env → Value → Sem Unit) (lf : Lc) (Φ : List D → Mt → Prop) (d : D) (mt₁ : Mt) : Prop :=
  ∃ items, ∃ J : Nat → List D → Mt → Prop, ItD d items ∧ J 0 [] mt₁ ∧ (∀ i ds mt, J i ds mt → ds.length ≤ 1000) ∧
    (∀ f', GF f' scope → TurnW c n f' target mid lf items J) ∧ (∀ ds mt', J items.length ds mt' → Φ ds mt')
theorem TW.compS {elt e target iter : PySem.Expr} {pos : Pos} {mid : Env → Value → Sem Unit} {Φ : D → Mt → Prop} {ns : List PySem.Str} (lf : Lc) (G : GF f S) (ce : CompE elt scope pos e target iter mid) (hok : compOk scope S = true) (hlf : LfOk loc scope lf ns) (hnd : ns.Nodup)
    (h : TW c n f (eval iter f.env) loc mt (CItW c n scope target mid lf (fun ds mt' => Φ (.list ds) mt'))) (hs : ∀ env x, foldedSetIterable iter env x = pure x := by intros; rfl) : TW c n f (eval e f.env) loc mt Φ :=
  TW.comp lf G ce ⟨hok, hlf.all.1, hlf.all.2 ▸ hnd, h⟩ hs
theorem TW.compSM {elt e target iter : PySem.Expr} {pos : Pos} {mid : Env → Value → Sem Unit} {Φ : D → Mt → Prop} {ns : List PySem.Str} (lf : Lc) (G : GF f S) (ce : CompE elt scope pos e target iter mid) (hok : compOk scope S = true) (hlf : LfOk loc scope lf ns) (hnd : ns.Nodup)
    (h : TW c n f (eval iter f.env) loc mt (CItW c n scope target mid lf (fun ds mt' => ∀ a, Φ (.ref a) ((a, .lst ds) :: mt')))) (hs : ∀ env x, foldedSetIterable iter env x = pure x := by intros; rfl) : TW c n f (eval e f.env) loc mt Φ :=
  TW.compM lf G ce ⟨hok, hlf.all.1, hlf.all.2 ▸ hnd, h⟩ hs
theorem CItW.mk {target : PySem.Expr} {mid : Env → Value → Sem Unit} {Φ : List D → Mt → Prop} {d : D} (items : List D) (J : Nat → List D → Mt → Prop) (hd : ItD d items) (h0 : J 0 [] mt) (hl : ∀ i ds mt, J i ds mt → ds.length ≤ 1000)
    (turn : ∀ f', GF f' scope → TurnW c n f' target mid lf items J) (fin : ∀ ds mt', J items.length ds mt' → Φ ds mt') : CItW c n scope target mid lf Φ d mt := ⟨items, J, hd, h0, hl, turn, fin⟩
theorem CItW.map {target elt : PySem.Expr} {Φ : List D → Mt → Prop} {d : D} (items outs : List D) (hd : ItD d items) (hl : outs.length = items.length) (hz : outs.length ≤ 1000)
    (turn : ∀ f', GF f' scope → ∀ (i : Nat) (d' : D), items[i]? = some d' → AsW c n f' (PySem.assign target f'.env) d' lf mt (fun loc₂ mt₂ => List.Sublist lf loc₂ ∧ TW c n f' (eval elt f'.env) loc₂ mt₂ (fun (r : D) (mt' : Mt) => mt = mt' ∧ (outs : List D)[i]? = some r))) (fin : Φ outs mt) : CItW c n scope target (emit1 elt) lf Φ d mt := by
  refine ⟨items, fun i ds mt' => ds = outs.take i ∧ mt = mt', hd, ⟨by simp, rfl⟩, ?_, ?_, ?_⟩
  · rintro i ds mt' ⟨rfl, _⟩
    rw [List.length_take]; omega
  · rintro f' gf' i d' ds mt' hi ⟨rfl, e⟩
    subst e
    intro A g Z stk s Q E u R hu H k
    refine turn f' gf' i d' hi R hu H fun loc₂ mt₂ h₂ tk₂ p₂ H₂ => k loc₂ mt₂ h₂ tk₂ ⟨p₂.1, EmW.elt (p₂.2.mono fun r mt' q => ⟨?_, q.1⟩)⟩ H₂
    rw [List.take_add_one, q.2]
    simp
  · rintro ds mt' ⟨rfl, e⟩
    subst e
    rw [← hl, List.take_length]
    exact fin
noncomputable def rowsTo (refs : Nat → Addr) (row : Nat → List D) : Nat → Mt
  | 0 => []
  | k + 1 => (refs k, .lst (row k)) :: rowsTo refs row k
theorem rowsTo_congr {refs refs' : Nat → Addr} {row row' : Nat → List D} : ∀ {k : Nat}, (∀ j, j < k → refs j = refs' j ∧ row j = row' j) → rowsTo refs row k = rowsTo refs' row' k
  | 0, _ => rfl
  | k + 1, h => by
    unfold rowsTo
    obtain ⟨e1, e2⟩ := h k (Nat.lt_succ_self _)
    rw [e1, e2, rowsTo_congr fun j hj => h j (Nat.lt_succ_of_lt hj)]
theorem rowsTo_at (refs : Nat → Addr) (row : Nat → List D) : ∀ (k i : Nat), i < k → ∃ G, At (refs i) (.lst (row i)) (rowsTo refs row k) G ∧ ∀ ds, G (.lst ds) = rowsTo refs (fun j => if j = i then ds else row j) k
  | 0, _, h => absurd h (Nat.not_lt_zero _)
  | k + 1, i, h => by
    by_cases e : i = k
    · subst e
      refine ⟨_, .head, fun ds => ?_⟩
      show _ = (refs i, M.lst (if i = i then ds else row i)) :: _
      rw [if_pos rfl]
      congr 1
      exact rowsTo_congr fun j hj => ⟨rfl, (if_neg (Nat.ne_of_lt hj)).symm⟩
    · obtain ⟨G, h1, h2⟩ := rowsTo_at refs row k i (by omega)
      refine ⟨_, .tail h1, fun ds => ?_⟩
      show _ = (refs k, M.lst (if k = i then ds else row k)) :: _
      rw [if_neg (fun e' => e e'.symm), h2]
theorem rowsTo_mem (refs : Nat → Addr) (row : Nat → List D) {k i : Nat} (h : i < k) : (refs i, M.lst (row i)) ∈ rowsTo refs row k := (rowsTo_at refs row k i h).choose_spec.1.mem
noncomputable def MethW (c : Cx) (n : Nat) (f : Fm) (x : PySem.Str) (es : List PySem.Expr) (pos : Pos) (loc : Lc) (Φ : D → Mt → Prop) (d : D) (mt₁ : Mt) : Prop :=
  ∃ C fs fa, InsD mt₁ d C fs ∧ ClsK c.K C ∧ findIn c.K (.ref C) x = some (some (.ref fa)) ∧ isFn c.K (.ref fa) = true ∧ keepIn c.K (.ref fa) = true ∧ x ∉ fs.map (·.1) ∧
      AW c n f (spliced (backTo pos (starEach es f.env))) loc mt₁ (fun ds mt₂ => CallW c n (.ref fa) (d :: ds) mt₂ Φ)
theorem MethW.mk {x : PySem.Str} {es : List PySem.Expr} {pos : Pos} {Φ : D → Mt → Prop} {d : D} {C fa : Addr} {fs : List (PySem.Str × D)} (hi : InsD mt d C fs) (hc : ClsK c.K C) (hf : findIn c.K (.ref C) x = some (some (.ref fa))) (h1 : isFn c.K (.ref fa) = true) (h2 : keepIn c.K (.ref fa) = true)
    (hx : (fs.map (·.1)).contains x = false) (h : AW c n f (spliced (backTo pos (starEach es f.env))) loc mt (fun ds mt₂ => CallW c n (.ref fa) (d :: ds) mt₂ Φ)) : MethW c n f x es pos loc Φ d mt := ⟨C, fs, fa, hi, hc, hf, h1, h2, by simpa using hx, h⟩
theorem TW.methP {o e : PySem.Expr} {x : PySem.Str} {ap pos : Pos} {rest : List PySem.Expr} {pl : Env → Sem Bool} {Φ : D → Mt → Prop}
    (h : TW c n f (eval o f.env) loc mt (MethW c n f x (e :: rest) pos loc Φ))
    (hs : ∀ env, starEach (e :: rest) env = (false, eval e env) :: starEach rest env := by intro _; rfl) (hplain : ∀ env, (backTo pos (starEach rest env)).any (·.1) = false := by intro _; rfl)
    (he : ∀ env, eval (.Call (.Attribute o x ap) (e :: rest) [] pos) env = (do
      let ov ← eval o env
      standAt ap.atName
      let (f, first) ← holding [ov] (getMethod ov x (pl env))
      callWith pos f first (backTo pos (starEach (e :: rest) env)) []) := by intro _; rfl) : TW c n f (eval (.Call (.Attribute o x ap) (e :: rest) [] pos) f.env) loc mt Φ := TW.meth (pl := pl) h hs hplain he
noncomputable def Meth0W (c : Cx) (n : Nat) (x : PySem.Str) (Φ : D → Mt → Prop) (d : D) (mt₁ : Mt) : Prop :=
  ∃ C fs fa, InsD mt₁ d C fs ∧ ClsK c.K C ∧ findIn c.K (.ref C) x = some (some (.ref fa)) ∧ isFn c.K (.ref fa) = true ∧ keepIn c.K (.ref fa) = true ∧ x ∉ fs.map (·.1) ∧ CallW c n (.ref fa) [d] mt₁ Φ
theorem Meth0W.mk {x : PySem.Str} {Φ : D → Mt → Prop} {d : D} {C fa : Addr} {fs : List (PySem.Str × D)} (hi : InsD mt d C fs) (hc : ClsK c.K C) (hf : findIn c.K (.ref C) x = some (some (.ref fa))) (h1 : isFn c.K (.ref fa) = true) (h2 : keepIn c.K (.ref fa) = true)
    (hx : (fs.map (·.1)).contains x = false) (h : CallW c n (.ref fa) [d] mt Φ) : Meth0W c n x Φ d mt := ⟨C, fs, fa, hi, hc, hf, h1, h2, by simpa using hx, h⟩
theorem TW.meth0P {o : PySem.Expr} {x : PySem.Str} {ap pos : Pos} {pl : Env → Sem Bool} {Φ : D → Mt → Prop}
    (h : TW c n f (eval o f.env) loc mt (Meth0W c n x Φ))
    (he : ∀ env, eval (.Call (.Attribute o x ap) [] [] pos) env = (do
      let ov ← eval o env
      standAt ap.atName
      let (f, first) ← holding [ov] (getMethod ov x (pl env))
      callWith pos f first (backTo pos (starEach [] env)) []) := by intro _; rfl) : TW c n f (eval (.Call (.Attribute o x ap) [] [] pos) f.env) loc mt Φ := TW.meth0 (pl := pl) h he
end
end Mine

namespace Mine
section
variable {c : Cx} {n : Nat} {f : Fm} {loc loc' lf : Lc} {mt mt' : Mt} {S scope : Scope}
theorem fm2 {f : PySem.Expr → Option PySem.Str} {x y : PySem.Expr} {a b : PySem.Str} {p q : Bool} (hx : f x = if p = true then some a else Option.none) (hy : f y = if q = true then some b else Option.none) :
    [x, y].filterMap f = (bif p then [a] else []) ++ (bif q then [b] else []) := by
  cases p <;> cases q <;> simp [List.filterMap, hx, hy]
theorem swap_none {env : Env} {a b : PySem.Str} {pa pb tp : Pos} {kk : Nat} {v : PySem.Expr} (h : ((env.kindOf a == some .local) && (env.kindOf b == some .local)) = false) : swappedStores [.Tuple [.Name a pa, .Name b pb] kk tp] v env = pure Option.none := by
  cases v with
  | Tuple vs k2 p2 =>
    show (if _ then _ else if _ then _ else if _ then _ else _) = _
    split
    · rfl
    · split
      · rfl
      · refine if_pos ?_
        rw [fm2 (x := .Name a pa) (y := .Name b pb) (a := a) (b := b) (p := env.kindOf a == some .local && _) (q := env.kindOf b == some .local && _) rfl rfl]
        revert h
        generalize (env.kindOf a == some .local) = ka
        generalize (env.kindOf b == some .local) = kb
        generalize (pa.line == _) = la
        generalize (pb.line == _) = lb
        cases ka <;> cases kb <;> cases la <;> cases lb <;> first | exact fun _ => rfl | exact fun h => nomatch h
  | _ => rfl
theorem swap_some {env : Env} {a b : PySem.Str} {pa pb tp p2 : Pos} {kk k2 : Nat} {e₁ e₂ : PySem.Expr} (ha : env.kindOf a = some .local) (hb : env.kindOf b = some .local) (hk : env.scope.kind = .function) (hl : pa.line = pb.line) (hab : (a == b) = false)
    (hs : ([e₁, e₂].any fun | .Starred .. => true | _ => false) = false) (hf : [e₁, e₂].all (foldedForSure 8) = false) (hc : [e₁, e₂].all (constantsAlone 8) = false) : swappedStores [.Tuple [.Name a pa, .Name b pb] kk tp] (.Tuple [e₁, e₂] k2 p2) env = pure (some [a, b]) := by
  have hbk : env.blockKind = .function := by unfold Env.blockKind; rw [hk]; rfl
  show (if _ then _ else if _ then _ else if _ then _ else if _ then _ else _) = _
  have d : ([a, b] : List PySem.Str).eraseDups = [a, b] := by
    have : (b == a) = false := by
      cases q : b == a with
      | false => rfl
      | true => rw [beq_iff_eq] at q; subst q; simp at hab
    simp [List.eraseDups_cons, this]
  refine (if_neg (by rw [hbk]; exact Bool.false_ne_true)).trans ?_
  refine (if_neg (fun h => Bool.false_ne_true (hs.symm.trans h))).trans ?_
  rw [fm2 (x := .Name a pa) (y := .Name b pb) (a := a) (b := b) (p := env.kindOf a == some .local && _) (q := env.kindOf b == some .local && _) rfl rfl, ha, hb]
  have l1 : (pa.line == (([PySem.Expr.Name a pa, PySem.Expr.Name b pb].head?.map (·.pos.line)).getD 0)) = true := beq_self_eq_true _
  have l2 : (pb.line == (([PySem.Expr.Name a pa, PySem.Expr.Name b pb].head?.map (·.pos.line)).getD 0)) = true := by rw [← hl]; exact beq_self_eq_true _
  rw [l1, l2]
  refine (if_neg (fun h => ?_)).trans ?_
  · have h' : ((List.length [a, b] != 2 || ([a, b] : List PySem.Str).eraseDups.length != List.length [a, b]) = true) := h
    rw [d] at h'
    exact Bool.false_ne_true h'
  · refine (if_neg (by rw [hf]; exact Bool.false_ne_true)).trans ?_
    exact (if_neg (by rw [hc]; exact Bool.false_ne_true))
theorem ExW.assignTupC {a b : PySem.Str} {pa pb tp pos : Pos} {kk : Nat} {e : PySem.Expr} {Φ : Fl → Lc → Mt → Prop} (G : GF f S) (hb : S.names.lookup b = some .cell)
    (h : TW c n f (eval e f.env) loc mt (fun d mt₁ => AsW c n f (PySem.assign (.Tuple [.Name a pa, .Name b pb] kk tp) f.env) d loc mt₁ (fun loc' mt' => Φ .next loc' mt')))
    (hs : ∀ env, swapsWithSole [.Tuple [.Name a pa, .Name b pb] kk tp] e pos.line env = pure false := by intro _; rfl) : ExW c n f (exec (.Assign [.Tuple [.Name a pa, .Name b pb] kk tp] e pos) f.env) loc mt Φ :=
  ExW.assignTup h (swap_none (by rw [G.cell b hb]; cases f.env.kindOf a == some .local <;> rfl)) hs
theorem ExW.assignTupL {a b : PySem.Str} {pa pb tp pos p2 : Pos} {kk k2 : Nat} {e₁ e₂ : PySem.Expr} {Φ : Fl → Lc → Mt → Prop} (G : GF f S) (ha : S.names.lookup a = some .local) (hb : S.names.lookup b = some .local)
    (h : TW c n f (eval (.Tuple [e₁, e₂] k2 p2) f.env) loc mt (fun d mt₁ => ∃ d₁ d₂ loc', d = .tup [d₁, d₂] ∧ SetsL [b, a] [d₂, d₁] loc loc' ∧ Φ .next loc' mt₁))
    (hl : pa.line = pb.line := by rfl) (hab : (a == b) = false := by decide) (hda : (a == ("__debug__" : PySem.Str)) = false := by decide) (hdb : (b == ("__debug__" : PySem.Str)) = false := by decide)
    (hs' : ([e₁, e₂].any fun | .Starred .. => true | _ => false) = false := by rfl) (hf : [e₁, e₂].all (foldedForSure 8) = false := by rfl) (hc : [e₁, e₂].all (constantsAlone 8) = false := by rfl)
    (hs : ∀ env, swapsWithSole [.Tuple [.Name a pa, .Name b pb] kk tp] (.Tuple [e₁, e₂] k2 p2) pos.line env = pure false := by intro _; rfl) : ExW c n f (exec (.Assign [.Tuple [.Name a pa, .Name b pb] kk tp] (.Tuple [e₁, e₂] k2 p2) pos) f.env) loc mt Φ := by
  refine ExW.assignS (xs := [a, b]) G (fun x hx => ?_) (h.mono fun d mt₁ q => ?_) (swap_some (G.loc a ha) (G.loc b hb) G.kind hl hab hs' hf hc) hs
  · rcases List.mem_cons.mp hx with rfl | hx
    · exact .here ha hda
    · rw [List.mem_singleton.mp hx]; exact .here hb hdb
  · obtain ⟨d₁, d₂, loc', rfl, h1, h2⟩ := q
    exact ⟨[d₁, d₂], loc', rfl, rfl, h1, h2⟩
end
end Mine

namespace Mine
section
variable {c : Cx} {n : Nat} {f : Fm} {loc loc' lf : Lc} {mt mt' : Mt} {S scope : Scope}
theorem sw_used {x : PySem.Str} {px pos : Pos} {elt : PySem.Expr} {gens : List Comprehension} {l : Nat} (G : GF f S) (hx : S.names.lookup x = some .local) (hl : px.line = pos.line) (hn : (scope.names.any fun q => q.1 == x && (q.2 == .local || q.2 == .cell)) = false) :
    swapsWith (.ListComp elt gens scope pos) (some (.Name x px)) l f.env = pure true := by
  have hbk : f.env.blockKind = .function := by unfold Env.blockKind; rw [G.kind]; rfl
  have hlp : (px.line == (PySem.Expr.ListComp elt gens scope pos).pos.line) = true := by
    show (px.line == pos.line) = true
    rw [hl]; simp
  have e : (scope.names.any fun q => q.1 == x && (q.2 == .local || q.2 == .cell)) = false := hn
  refine Eq.trans (b := pure (f.env.blockKind == .function && f.env.kindOf x == some .local && px.line == (PySem.Expr.ListComp elt gens scope pos).pos.line && !(scope.names.any fun q => q.1 == x && (q.2 == .local || q.2 == .cell)))) rfl ?_
  rw [hbk, G.loc x hx, hlp, e]
  rfl
theorem and_mid {b c d : Bool} : (b && false && c && d) = false := by cases b <;> rfl
theorem sw_cell {x : PySem.Str} {px : Pos} {e : PySem.Expr} {l : Nat} (G : GF f S) (hx : S.names.lookup x = some .cell) : swapsWith e (some (.Name x px)) l f.env = pure false := by
  have k : (f.env.kindOf x == some .local) = false := by rw [G.cell x hx]; rfl
  cases e <;> first
    | rfl
    | (refine Eq.trans (b := pure (_ && (f.env.kindOf x == some .local) && _ && _)) rfl ?_; rw [k, and_mid])
theorem ExW.assignE {x : PySem.Str} {px pos : Pos} {e : PySem.Expr} {Φ : Fl → Lc → Mt → Prop} (G : GF f S) (hx : Sto S x) (hs : swapsWith e (some (.Name x px)) pos.line f.env = pure false)
    (h : TW c n f (eval e f.env) loc mt (fun d mt' => ∃ loc', SetL x d loc loc' ∧ Φ .next loc' mt')) : ExW c n f (exec (.Assign [.Name x px] e pos) f.env) loc mt Φ := by
  intro A g Z stk s Q E R H k
  refine wpAny_Assign_Name (h R H fun d v mt' h' tk p H' => ?_) hs
  obtain ⟨loc', hl, p⟩ := p
  exact H'.store (.head _) G.kind (hx.kind G) hx.2 hl fun h'' tk' H'' => k _ _ [] _ _ _ _ p ⟨rfl, rfl⟩ H''.tl
theorem SetAt.twice {x : PySem.Str} {d : D} (e : D) {loc loc' : Lc} (h : SetAt x d loc loc') : ∃ loc₁, SetAt x e loc loc₁ ∧ SetAt x d loc₁ loc' ∧ (x, e) ∈ loc₁ := by
  induction h with
  | head => exact ⟨_, .head, .head, .head _⟩
  | tail _ ih =>
    obtain ⟨l, h1, h2, h3⟩ := ih
    exact ⟨_, .tail h1, .tail h2, .tail _ h3⟩
theorem SetL.twice {x : PySem.Str} {d : D} (e : D) {loc loc' : Lc} (h : SetL x d loc loc') : ∃ loc₁, SetL x e loc loc₁ ∧ SetAt x d loc₁ loc' ∧ (x, e) ∈ loc₁ := by
  rcases h with h | ⟨h, rfl⟩
  · obtain ⟨l, h1, h2, h3⟩ := h.twice e
    exact ⟨l, .inl h1, h2, h3⟩
  · exact ⟨(x, e) :: loc, .inr ⟨h, rfl⟩, .head, .head _⟩
theorem ExW.assignCS {elt e target iter : PySem.Expr} {gens : List Comprehension} {x : PySem.Str} {px pos spos : Pos} {mid : Env → Value → Sem Unit} {Φ : Fl → Lc → Mt → Prop} {ns : List PySem.Str} (lf : Lc) (G : GF f S) (hx : S.names.lookup x = some .local) (ce : CompE elt scope pos e target iter mid)
    (ee : e = .ListComp elt gens scope pos) (hok : compOk scope S = true) (hlf : LfOk loc scope lf ns) (hnd : ns.Nodup) (hn : (scope.names.any fun q => q.1 == x && (q.2 == .local || q.2 == .cell)) = false) (hl : px.line = pos.line) (hd : (x == ("__debug__" : PySem.Str)) = false)
    (h : TW c n f (eval iter f.env) loc mt (CItW c n scope target mid lf (fun ds mt' => ∃ loc', SetL x (.list ds) loc loc' ∧ Φ .next loc' mt'))) (hs : ∀ env x, foldedSetIterable iter env x = pure x := by intros; rfl) :
    ExW c n f (exec (.Assign [.Name x px] e spos) f.env) loc mt Φ := by
  refine ExW.frz (ExW.assignCM lf G (.here hx hd) ce (by rw [ee]; exact sw_used G hx hl hn) ⟨hok, hlf.all.1, hlf.all.2 ▸ hnd, h.mono fun d mt₁ p => ?_⟩ hs)
  obtain ⟨items, J, h1, h2, h3, h4, h5⟩ := p
  refine ⟨items, J, h1, h2, h3, h4, fun ds mt' hJ a => ?_⟩
  obtain ⟨loc', hl', hΦ⟩ := h5 ds mt' hJ
  obtain ⟨loc₁, k1, k2, k3⟩ := hl'.twice (.ref a)
  exact ⟨loc₁, k1, rfl, x, a, ds, loc', mt', k3, .head, k2, hΦ⟩
theorem ExW.assignCSM {elt e target iter : PySem.Expr} {gens : List Comprehension} {x : PySem.Str} {px pos spos : Pos} {mid : Env → Value → Sem Unit} {Φ : Fl → Lc → Mt → Prop} {ns : List PySem.Str} (lf : Lc) (G : GF f S) (hx : S.names.lookup x = some .local) (ce : CompE elt scope pos e target iter mid)
    (ee : e = .ListComp elt gens scope pos) (hok : compOk scope S = true) (hlf : LfOk loc scope lf ns) (hnd : ns.Nodup) (hn : (scope.names.any fun q => q.1 == x && (q.2 == .local || q.2 == .cell)) = false) (hl : px.line = pos.line) (hd : (x == ("__debug__" : PySem.Str)) = false)
    (h : TW c n f (eval iter f.env) loc mt (CItW c n scope target mid lf (fun ds mt' => ∀ a, ∃ loc', SetL x (.ref a) loc loc' ∧ Φ .next loc' ((a, .lst ds) :: mt')))) (hs : ∀ env x, foldedSetIterable iter env x = pure x := by intros; rfl) :
    ExW c n f (exec (.Assign [.Name x px] e spos) f.env) loc mt Φ :=
  ExW.assignCM lf G (.here hx hd) ce (by rw [ee]; exact sw_used G hx hl hn) ⟨hok, hlf.all.1, hlf.all.2 ▸ hnd, h⟩ hs
theorem ExW.assignCC {e : PySem.Expr} {x : PySem.Str} {px spos : Pos} {Φ : Fl → Lc → Mt → Prop} (G : GF f S) (hx : S.names.lookup x = some .cell) (hd : (x == ("__debug__" : PySem.Str)) = false)
    (h : TW c n f (eval e f.env) loc mt (fun d mt' => ∃ loc', SetL x d loc loc' ∧ Φ .next loc' mt')) : ExW c n f (exec (.Assign [.Name x px] e spos) f.env) loc mt Φ :=
  ExW.assignE G (.held hx hd) (sw_cell G hx) h
end
end Mine

namespace Mine
section
variable {c : Cx} {n : Nat} {f : Fm} {loc loc' lf : Lc} {mt mt' : Mt} {S scope : Scope}
noncomputable def ForC (c : Cx) (n : Nat) (f : Fm) (target : PySem.Expr) (body : List Stmt) (Φ : Fl → Lc → Mt → Prop) (loc : Lc) (d : D) (mt₁ : Mt) : Prop :=
  ∃ ds, ∃ J : Nat → Lc → Mt → Prop, ItD d ds ∧ Less (J 0) loc mt₁ ∧
      (∀ i d' loc' mt' (Ψ : Fl → Lc → Mt → Prop), ds[i]? = some d' → J i loc' mt' → (∀ loc₃ mt₃, Less (J (i + 1)) loc₃ mt₃ → Ψ .next loc₃ mt₃) → AsW c n f (PySem.assign target f.env) d' loc' mt' (fun loc₂ mt₂ => ExW c n f (execs body f.env) loc₂ mt₂ Ψ)) ∧
      (∀ loc' mt', J ds.length loc' mt' → Φ .next loc' mt')
theorem ForC.mk {target : PySem.Expr} {body : List Stmt} {Φ : Fl → Lc → Mt → Prop} {d : D} (ds : List D) (J : Nat → Lc → Mt → Prop) (hd : ItD d ds) (h0 : Less (J 0) loc mt)
    (turn : ∀ i d' loc' mt' (Ψ : Fl → Lc → Mt → Prop), ds[i]? = some d' → J i loc' mt' → (∀ loc₃ mt₃, Less (J (i + 1)) loc₃ mt₃ → Ψ .next loc₃ mt₃) → AsW c n f (PySem.assign target f.env) d' loc' mt' (fun loc₂ mt₂ => ExW c n f (execs body f.env) loc₂ mt₂ Ψ))
    (fin : ∀ loc' mt', J ds.length loc' mt' → Φ .next loc' mt') : ForC c n f target body Φ loc d mt := ⟨ds, J, hd, h0, turn, fin⟩
theorem ExW.forC {target iter : PySem.Expr} {body : List Stmt} {pos : Pos} {Φ : Fl → Lc → Mt → Prop}
    (h : TW c n f (eval iter f.env) loc mt (fun d mt₁ => ForC c n f target body Φ loc d mt₁))
    (hs : ∀ env x, foldedSetIterable iter env x = pure x := by intros; rfl) : ExW c n f (exec (.For target iter body [] pos) f.env) loc mt Φ := by
  refine ExW.shrink (ExW.for_ (h.mono fun d mt₁ p => ?_) hs)
  obtain ⟨ds, J, hd, hJ, turn, fin⟩ := p
  refine ⟨ds, fun i => Less (J i), hd, hJ, fun i d' loc' mt' hi hJ' => ?_, fun loc' mt' hJ' => ?_⟩
  · obtain ⟨l, m, h1, h2, hJ'⟩ := hJ'
    refine AsW.sub h1 h2 ?_
    exact turn i d' l m _ hi hJ' fun loc₃ mt₃ h => h
  · obtain ⟨l, m, h1, h2, hJ'⟩ := hJ'
    exact ⟨l, m, h1, h2, fin _ _ hJ'⟩
end
end Mine

namespace Mine
section
variable {c : Cx} {n : Nat}
theorem top_enter {A : Around} {s : Shared} {R : Result → Shared → Prop} {ds : List D} {vs : List Value} {im : Led} {fa : Addr} {name qual : PySem.Str} {params : Arguments} {body : List Stmt} {scope : Scope} {dV kV doc pm cdv ct oc : Value} {an od : Option Addr} {osl : Array (Option Value)} {l : Lc}
    (ho : c.K.lookup fa = some ⟨oc, od, .func (fnOf name qual params body scope dV kV doc pm an cdv ct), osl⟩) (hcd : codeIn c.K cdv qual = true)
    (hbind : ∀ vs : List Value, vs.length = (params.args.map (·.arg)).length → bindArgs (fnOf name qual params body scope dV kV doc pm an cdv ct) ⟨vs, []⟩ = pure ((params.args.map (·.arg)).zip vs))
    (hal : ArgL params.args ds l) (hnd : (params.args.map (·.arg)).Nodup) (hkind : ((params.args.map (·.arg)).all fun y => (scope.names.lookup y == some .local || scope.names.lookup y == some .cell) && !(y == ("__debug__" : PySem.Str))) = true)
    (hcn : ((cellsFrom 0 scope.names []).map (·.1)).Nodup) (hfr : (scope.names.all fun q => !(q.2 == .free)) = true)
    (hco : scope.isCoroutine = false) (hgen : scope.isGenerator = false) (hk : scope.kind = .function)
    (h : ∀ f, GF f scope → ExW c n f (execs body f.env) l [] (fun fl _ _ => fl = .ret (.bool true)))
    (Rm : Room A (n + 1)) (bs : Base c s.heap) (hl : ds.length = vs.length) (him : ∀ q ∈ im, s.heap.get? q.1 = some q.2) (hz : ∀ q ∈ ds.zip vs, Rep c.P im q.1 q.2)
    (k : ∀ h' tk, (∀ b o, s.heap.get? b = some o → h'.get? b = some o) → R (.ok (.ret (.bool true))) { s with heap := h', toks := tk }) : codeAny (model c.prog c.w) A (.call (.ref fa) ⟨vs, []⟩) R s := by
  generalize hxs : params.args.map (·.arg) = xs at hbind hnd hkind
  have hx : xs.length = ds.length := hxs ▸ hal.zip.1
  have hlz : xs.zip ds = l := hxs ▸ hal.zip.2
  subst hlz
  have xv : xs.length = vs.length := hx.trans hl
  have names : ((xs.zip vs).map (·.1)) = xs := zip_names xv
  have hall : ∀ y ∈ xs, (scope.names.lookup y = some .local ∨ scope.names.lookup y = some .cell) ∧ (y == ("__debug__" : PySem.Str)) = false := fun y hy => by
    have := List.all_eq_true.mp hkind y hy
    simpa using this
  have cs : ∀ N x, scope.names.lookup x = some .cell → ((cellsFrom N scope.names []).lookup x).isSome = true := fun N x e => cellsFrom_some _ _ _ (.inl e)
  refine codeAny_call_cells (fd := fnOf name qual params body scope dV kV doc pm an cdv ct) (body := body) (binds := xs.zip vs) Rm.depth (bs.k _ _ ho) rfl bs.t.nolimit (codeRec_of bs.k hcd) rfl (hbind vs xv.symm) rfl
    (fun x hx' => ?_) (fun s₁ x => ?_) hco hgen hk
  · have hy : x.1 ∈ xs := names ▸ List.mem_map_of_mem hx'
    rcases (hall _ hy).1 with e | e
    · exact .inl e
    · exact .inr ⟨e, cs _ _ e⟩
  · obtain ⟨h₁, tk₁, rfl⟩ := x.toInCall.same
    have kp := x.toInCall.keep
    generalize hE : callEnvC (fnOf name qual params body scope dV kV doc pm an cdv ct) s.heap.objs.size fa = env' at x ⊢
    have eScope : env'.scope = scope := by rw [← hE]; rfl
    have eGlob : env'.globals = mainGlobals := by rw [← hE]; rfl
    have eBlt : env'.builtins = builtinsNs := by rw [← hE]; rfl
    have eLoc : env'.locals = s.heap.objs.size := by rw [← hE]; rfl
    have eCells : env'.cells = cellsFrom (s.heap.objs.size + 1) scope.names [] := by rw [← hE]; rfl
    have eKind : ∀ y, env'.kindOf y = scope.names.lookup y := fun y => by show env'.scope.names.lookup y = _; rw [eScope]
    have cnd : (env'.cells.map (·.1)).Nodup := by rw [eCells]; exact cellsFrom_names scope.names 0 (s.heap.objs.size + 1) [] [] rfl ▸ hcn
    have look : ∀ y a, (y, a) ∈ env'.cells → env'.cells.lookup y = some a := fun y a hm => lookup_of_mem_nodup cnd hm
    let f' : Fm := ⟨env', env'.cells.map (·.2), []⟩
    have inOc : ∀ y a, env'.cells.lookup y = some a → a ∈ f'.oc := fun y a e => List.mem_map_of_mem (f := (·.2)) (mem_of_lookup e)
    have G : GF f' scope := {
      kind := by show env'.scope.kind = _; rw [eScope]; exact hk
      glob := eGlob
      blt := eBlt
      gi := fun y e => (eKind y).trans e
      loc := fun y e => (eKind y).trans e
      cell := fun y e => (eKind y).trans e
      own := fun y e => by
        obtain ⟨a, ha⟩ := Option.isSome_iff_exists.mp (cs (s.heap.objs.size + 1) y e)
        rw [← eCells] at ha
        exact ⟨a, inOc _ _ ha, ha⟩
      cl := fun y e => by
        rcases e with e | e
        · obtain ⟨a, ha⟩ := Option.isSome_iff_exists.mp (cs (s.heap.objs.size + 1) y e)
          rw [← eCells] at ha
          exact ⟨.inl ((eKind y).trans e), a, ha⟩
        · exfalso
          have := List.all_eq_true.mp hfr _ (mem_of_lookup e)
          simp at this }
    have cval : ∀ y a, (y, a) ∈ env'.cells → h₁.IsCell a (bindC env'.kindOf (xs.zip vs) (fun _ => Option.none) y) := fun y a hm => x.cell y a (look y a hm)
    let cm' : Addr → Option Value := fun a => (env'.cells.find? (fun q => q.2 == a)).bind fun q => bindC env'.kindOf (xs.zip vs) (fun _ => Option.none) q.1
    have cmv : ∀ y a, (y, a) ∈ env'.cells → cm' a = bindC env'.kindOf (xs.zip vs) (fun _ => Option.none) y := fun y a hm => by
      show ((env'.cells.find? (fun q => q.2 == a)).bind _) = _
      cases e : env'.cells.find? (fun q => q.2 == a) with
      | none => exact absurd (List.find?_eq_none.mp e _ hm) (by simp)
      | some q =>
        have h1 := List.mem_of_find?_eq_some e
        have h2 : q.2 = a := by simpa using List.find?_some e
        obtain ⟨q1, q2⟩ := q
        subst h2
        rw [name_of_addr x.apart hm h1]
        rfl
    have none : ∀ a, s.heap.objs.size ≤ a → s.heap.get? a = Option.none := fun a ha => by
      cases e : s.heap.get? a with
      | none => rfl
      | some o => exact absurd (Heap.lt_size e) (Nat.not_lt.mpr ha)
    have ab : ∀ a ∈ f'.oc, s.heap.objs.size < a := fun a ha => by
      obtain ⟨q, hq, rfl⟩ := List.mem_map.mp ha
      have := x.above q.1 q.2 hq
      rw [eLoc] at this
      exact this
    have J : StI c s.heap [] f' (bindL env'.kindOf (xs.zip vs) (fun _ => Option.none)) cm' im [] h₁ := {
      base := bs
      keep := kp
      zin := fun _ h => nomatch h
      ns := x.toInCall.ns
      lg := by show s.heap.get? env'.locals = _; rw [eLoc]; exact none _ (Nat.le_refl _)
      cell := fun a ha => by
        have ha' := ab a ha
        obtain ⟨q, hq, rfl⟩ := List.mem_map.mp ha
        refine ⟨by rw [cmv _ _ hq]; exact cval _ _ hq, none _ (Nat.le_of_lt ha'), ?_⟩
        show q.2 ≠ env'.locals
        rw [eLoc]
        exact Nat.ne_of_gt ha'
      rc := fun _ h => nomatch h
      cinj := fun y z a _ h1 h2 => name_of_addr x.apart (mem_of_lookup h1) (mem_of_lookup h2)
      imh := fun q hq => by
        have e := him q hq
        have lt := Heap.lt_size e
        refine ⟨kp _ _ e, ?_, fun hm => absurd (ab _ hm) (Nat.not_lt.mpr (Nat.le_of_lt lt)), fun h => nomatch h⟩
        show q.1 ≠ env'.locals
        rw [eLoc]
        exact Nat.ne_of_lt lt
      muh := fun _ h => nomatch h
      mnd := List.nodup_nil
      mi := fun _ h => nomatch h }
    have nd' : ((xs.zip ds).map (·.1)).Nodup := by rw [zip_names hx]; exact hnd
    have ndv : ((xs.zip vs).map (·.1)).Nodup := by rw [names]; exact hnd
    have S' : St c s.heap [] f' (xs.zip ds) [] [] h₁ := by
      refine ⟨nd', _, _, im, [], J, fun q hq => ?_, (fun _ h => nomatch h), rfl⟩
      obtain ⟨y, d⟩ := q
      have hy : y ∈ xs := zip_names hx ▸ List.mem_map_of_mem (f := (·.1)) hq
      obtain ⟨hk1, hk2⟩ := hall y hy
      obtain ⟨v, hv, hdv⟩ := zip_three hl hq
      refine ⟨hk2, v, ?_, hz _ hdv⟩
      rcases hk1 with e | e
      · exact .inl ⟨G.loc y e, bindL_some (G.loc y e) ndv hv⟩
      · obtain ⟨a, ha⟩ := Option.isSome_iff_exists.mp (cs (s.heap.objs.size + 1) y e)
        rw [← eCells] at ha
        refine .inr ⟨a, .inl (G.cell y e), ha, .inl ⟨inOc _ _ ha, ?_⟩⟩
        rw [cmv _ _ (mem_of_lookup ha)]
        have G' : env'.kindOf y = some .cell := G.cell y e
        exact bindC_some (by rw [G']; simp) ndv hv
    refine h f' G Rm.deeper S' fun fl w l loc' mt' h' tk' p hfl H' => ?_
    subst p
    obtain ⟨v, rfl, rfl⟩ := hfl
    have e := H'.isBool (.head _)
    subst e
    obtain ⟨_, _, _, _, _, I', _⟩ := H'
    exact k _ _ I'.keep
theorem scriptAt {P : Params} {h : Heap} {a : Addr} {ns : List Int} (w : Well P h (.ref a) (ofPy (.list (ns.map .int)))) : ∃ vs : List Value, h.get? a = some (listOf vs.toArray 0) ∧ RepL P [] (iL ns) vs := by
  have e : ofPy (.list (ns.map .int)) = .list (ofPys (ns.map .int)) := rfl
  rw [e] at w
  cases w with
  | list h1 h2 =>
    refine ⟨_, h1, ?_⟩
    clear h1 e
    rename_i vs
    induction ns generalizing vs with
    | nil => cases h2; rfl
    | cons n ns ih =>
      cases h2 with
      | cons h3 h4 =>
        cases h3
        exact ⟨_, _, rfl, ⟨_, rfl⟩, ih h4⟩
end
end Mine

namespace Mine
section
variable {c : Cx} {n : Nat} {f : Fm} {loc loc' : Lc} {mt mt' : Mt} {S : Scope}
structure SeqK (c : Cx) (n : Nat) (f : Fm) (rest : List Stmt) (Φ Ω : Fl → Lc → Mt → Prop) : Prop where
  next : ∀ {loc mt}, ExW c n f (execs rest f.env) loc mt Φ → Ω .next loc mt
  ret : ∀ {d loc mt}, Φ (.ret d) loc mt → Ω (.ret d) loc mt
theorem ExW.consO {st : Stmt} {rest : List Stmt} {Φ : Fl → Lc → Mt → Prop} (h : ∀ Ω, SeqK c n f rest Φ Ω → ExW c n f (exec st f.env) loc mt Ω) : ExW c n f (execs (st :: rest) f.env) loc mt Φ :=
  ExW.cons (h _ ⟨fun h => h, fun h => h⟩)
theorem ExW.last {st : Stmt} {Φ : Fl → Lc → Mt → Prop} (h : ExW c n f (exec st f.env) loc mt Φ) : ExW c n f (execs [st] f.env) loc mt Φ :=
  ExW.cons (h.mono fun fl _ _ p => match fl with
    | .next => ExW.nil p
    | .brk | .cont | .ret _ => p)
structure LoopK (J : Nat → Lc → Mt → Prop) (i : Nat) (Φ Ω : Fl → Lc → Mt → Prop) : Prop where
  next : ∀ {loc mt}, Less (J (i + 1)) loc mt → Ω .next loc mt
  ret : ∀ {d loc mt}, Φ (.ret d) loc mt → Ω (.ret d) loc mt
noncomputable def ForQ (c : Cx) (n : Nat) (f : Fm) (target : PySem.Expr) (body : List Stmt) (Φ : Fl → Lc → Mt → Prop) (loc : Lc) (d : D) (mt₁ : Mt) : Prop :=
  ∃ ds, ∃ J : Nat → Lc → Mt → Prop, ItD d ds ∧ J 0 loc mt₁ ∧
      (∀ i d' loc' mt', ds[i]? = some d' → J i loc' mt' → ∀ Ω, LoopK J i Φ Ω → AsW c n f (PySem.assign target f.env) d' loc' mt' (fun loc₂ mt₂ => ExW c n f (execs body f.env) loc₂ mt₂ Ω)) ∧
      (∀ loc' mt', J ds.length loc' mt' → Φ .next loc' mt')
theorem ExW.forQ {target iter : PySem.Expr} {body : List Stmt} {pos : Pos} {Φ : Fl → Lc → Mt → Prop}
    (h : TW c n f (eval iter f.env) loc mt (ForQ c n f target body Φ loc))
    (hs : ∀ env x, foldedSetIterable iter env x = pure x := by intros; rfl) : ExW c n f (exec (.For target iter body [] pos) f.env) loc mt Φ :=
  ExW.forS (h.mono fun _ _ ⟨ds, J, hd, h0, turn, fin⟩ => ⟨ds, J, hd, h0, fun i d' loc' mt' hi hJ => turn i d' loc' mt' hi hJ _ ⟨fun h => h, fun h => h⟩, fin⟩) hs
noncomputable def RetK (Φ : D → Mt → Prop) (Ω : Fl → Lc → Mt → Prop) : Prop := ∀ fl loc mt, RetW fl mt Φ → Ω fl loc mt
theorem RetK.go {Φ : D → Mt → Prop} {Ω : Fl → Lc → Mt → Prop} {fl : Fl} (K : RetK Φ Ω) (h : RetW fl mt Φ) : Ω fl loc mt := K _ _ _ h
theorem CallW.dfnO {ds : List D} {Φ : D → Mt → Prop} {fa : Addr} {name qual : PySem.Str} {params : Arguments} {body : List Stmt} {scope : Scope} {dV kV doc pm cdv ct oc : Value} {an od : Option Addr} {osl : Array (Option Value)} {l : Lc}
    (ho : c.K.lookup fa = some ⟨oc, od, .func (fnOf name qual params body scope dV kV doc pm an cdv ct), osl⟩) (hcd : codeIn c.K cdv qual = true)
    (hbind : ∀ vs : List Value, vs.length = (params.args.map (·.arg)).length → bindArgs (fnOf name qual params body scope dV kV doc pm an cdv ct) ⟨vs, []⟩ = pure ((params.args.map (·.arg)).zip vs))
    (hl : ArgL params.args ds l) (hnd : (params.args.map (·.arg)).Nodup) (hkind : ((params.args.map (·.arg)).all fun y => (scope.names.lookup y == some .local || scope.names.lookup y == some .cell) && !(y == ("__debug__" : PySem.Str))) = true)
    (hcn : ((cellsFrom 0 scope.names []).map (·.1)).Nodup) (hfr : (scope.names.all fun q => !(q.2 == .free)) = true)
    (hco : scope.isCoroutine = false) (hgen : scope.isGenerator = false) (hk : scope.kind = .function)
    (h : ∀ f, GF f scope → ∀ Ω, RetK Φ Ω → ExW c n f (execs body f.env) l mt Ω) : CallW c (n + 1) (.ref fa) ds mt Φ :=
  CallW.dfn ho hcd hbind hl hnd hkind hcn hfr hco hgen hk fun f G => h f G _ fun _ _ _ h => h
noncomputable def defOk (params : Arguments) (scope : Scope) : Bool :=
  decide (params.args.map (·.arg)).Nodup && ((params.args.map (·.arg)).all fun y => (scope.names.lookup y == some .local || scope.names.lookup y == some .cell) && !(y == ("__debug__" : PySem.Str))) && decide ((cellsFrom 0 scope.names []).map (·.1)).Nodup &&
    (scope.names.all fun q => !(q.2 == .free)) && !scope.isCoroutine && !scope.isGenerator && (scope.kind == .function)
theorem CallW.dfnD {ds : List D} {Φ : D → Mt → Prop} {fa : Addr} {name qual : PySem.Str} {params : Arguments} {body : List Stmt} {scope : Scope} {dV kV doc pm cdv ct oc : Value} {an od : Option Addr} {osl : Array (Option Value)} {l : Lc}
    (ho : c.K.lookup fa = some ⟨oc, od, .func (fnOf name qual params body scope dV kV doc pm an cdv ct), osl⟩) (hcd : codeIn c.K cdv qual = true)
    (hbind : ∀ vs : List Value, vs.length = (params.args.map (·.arg)).length → bindArgs (fnOf name qual params body scope dV kV doc pm an cdv ct) ⟨vs, []⟩ = pure ((params.args.map (·.arg)).zip vs))
    (hl : ArgL params.args ds l) (hok : defOk params scope = true) (h : ∀ f, GF f scope → ∀ Ω, RetK Φ Ω → ExW c n f (execs body f.env) l mt Ω) : CallW c (n + 1) (.ref fa) ds mt Φ := by
  simp only [defOk, Bool.and_eq_true, decide_eq_true_eq, Bool.not_eq_true', beq_iff_eq] at hok
  obtain ⟨⟨⟨⟨⟨⟨h1, h2⟩, h3⟩, h4⟩, h5⟩, h6⟩, h7⟩ := hok
  exact CallW.dfnO ho hcd hbind hl h1 h2 h3 h4 h5 h6 h7 h
structure Ev (c : Cx) (n : Nat) (f : Fm) (loc : Lc) (mt : Mt) (e : PySem.Expr) (d : D)  : Prop where
  go : ∀ Φ : D → Mt → Prop, Φ d mt → TW c n f (eval e f.env) loc mt Φ
structure E2 (c : Cx) (n : Nat) (f : Fm) (loc : Lc) (mt : Mt) (op : Value → Value → Sem Value) (d₁ d₂ d : D) : Prop where
  go : ∀ Φ : D → Mt → Prop, Φ d mt → T2 c n f op d₁ d₂ loc mt Φ
structure EvL (c : Cx) (n : Nat) (f : Fm) (loc : Lc) (mt : Mt) (es : List PySem.Expr) (ds : List D) : Prop where
  go : ∀ (pos : Pos) (Φ : List D → Mt → Prop), Φ ds mt → AW c n f (spliced (backTo pos (starEach es f.env))) loc mt Φ
theorem TW.ev {e : PySem.Expr} {d : D} {Φ : D → Mt → Prop} (h : Ev c n f loc mt e d) (p : Φ d mt) : TW c n f (eval e f.env) loc mt Φ := h.go Φ p
theorem AW.ev {es : List PySem.Expr} {ds : List D} {pos : Pos} {Φ : List D → Mt → Prop} (h : EvL c n f loc mt es ds) (p : Φ ds mt) : AW c n f (spliced (backTo pos (starEach es f.env))) loc mt Φ := h.go pos Φ p
theorem EvL.nil : EvL c n f loc mt [] [] := ⟨fun _ _ h => AW.nil h⟩
theorem EvL.cons {e : PySem.Expr} {es : List PySem.Expr} {d : D} {ds : List D} (h₁ : Ev c n f loc mt e d) (h₂ : EvL c n f loc mt es ds)
    (he : ∀ env, starEach (e :: es) env = (false, eval e env) :: starEach es env := by intro _; rfl) : EvL c n f loc mt (e :: es) (d :: ds) := ⟨fun pos _ h => AW.cons (h₁.go _ (h₂.go pos _ h)) he⟩
theorem Ev.name {x : PySem.Str} {d : D} {pos : Pos} (G : GF f S) (hx : (x, d) ∈ loc) : Ev c n f loc mt (.Name x pos) d := ⟨fun _ h => TW.name G.kind hx h⟩
theorem Ev.int {i : Int} {kk : Nat} {pos : Pos} : Ev c n f loc mt (.Constant (.int i) kk pos) (.int i) := ⟨fun _ h => TW.int h⟩
theorem Ev.none {kk : Nat} {pos : Pos} : Ev c n f loc mt (.Constant .none kk pos) .none := ⟨fun _ h => TW.none h⟩
theorem Ev.bool {b : Bool} {kk : Nat} {pos : Pos} : Ev c n f loc mt (.Constant (.bool b) kk pos) (.bool b) := ⟨fun _ h => TW.bool h⟩
theorem Ev.str {x : PySem.Str} {kk : Nat} {pos : Pos} : Ev c n f loc mt (.Constant (.str x) kk pos) (.str x) := ⟨fun _ h => TW.str h⟩
section
variable {l r : PySem.Expr} {pos : Pos} {a b : Int}
theorem Ev.add (h₁ : Ev c n f loc mt l (.int a)) (h₂ : Ev c n f loc mt r (.int b)) : Ev c n f loc mt (.BinOp l .Add r pos) (.int (a + b)) := ⟨fun _ p => TW.binop (h₁.go _ (h₂.go _ (T2.add p)))⟩
theorem Ev.sub (h₁ : Ev c n f loc mt l (.int a)) (h₂ : Ev c n f loc mt r (.int b)) : Ev c n f loc mt (.BinOp l .Sub r pos) (.int (a - b)) := ⟨fun _ p => TW.binop (h₁.go _ (h₂.go _ (T2.sub p)))⟩
theorem Ev.mul (h₁ : Ev c n f loc mt l (.int a)) (h₂ : Ev c n f loc mt r (.int b)) (hm : IntMulOk a b) : Ev c n f loc mt (.BinOp l .Mult r pos) (.int (a * b)) := ⟨fun _ p => TW.binop (h₁.go _ (h₂.go _ (T2.mul hm p)))⟩
theorem Ev.mod (h₁ : Ev c n f loc mt l (.int a)) (h₂ : Ev c n f loc mt r (.int b)) (hb : 0 < b) : Ev c n f loc mt (.BinOp l .Mod r pos) (.int (a % b)) := ⟨fun _ p => TW.binop (h₁.go _ (h₂.go _ (T2.modP hb p)))⟩
theorem Ev.fdiv (h₁ : Ev c n f loc mt l (.int a)) (h₂ : Ev c n f loc mt r (.int b)) (hb : 0 < b) (hp : b < 1073741824) : Ev c n f loc mt (.BinOp l .FloorDiv r pos) (.int (a / b)) := ⟨fun _ p => TW.binop (h₁.go _ (h₂.go _ (T2.fdivP hb hp p)))⟩
theorem Ev.neg (h₁ : Ev c n f loc mt l (.int a)) : Ev c n f loc mt (.UnaryOp .USub l pos) (.int (-a)) := ⟨fun _ p => TW.unop (h₁.go _ (T1.neg p))⟩
theorem E2.eq : E2 c n f loc mt (compareOp .Eq) (.int a) (.int b) (.bool (a == b)) := ⟨fun _ p => T2.eq p⟩
theorem E2.ne : E2 c n f loc mt (compareOp .NotEq) (.int a) (.int b) (.bool (a != b)) := ⟨fun _ p => T2.ne p⟩
theorem E2.lt : E2 c n f loc mt (compareOp .Lt) (.int a) (.int b) (.bool (decide (a < b))) := ⟨fun _ p => T2.lt p⟩
theorem E2.gt : E2 c n f loc mt (compareOp .Gt) (.int a) (.int b) (.bool (decide (b < a))) := ⟨fun _ p => T2.gt p⟩
theorem E2.le : E2 c n f loc mt (compareOp .LtE) (.int a) (.int b) (.bool (decide (a ≤ b))) := ⟨fun _ p => T2.le p⟩
theorem E2.ge : E2 c n f loc mt (compareOp .GtE) (.int a) (.int b) (.bool (decide (b ≤ a))) := ⟨fun _ p => T2.ge p⟩
theorem E2.isNone {d : D} : E2 c n f loc mt (compareOp .Is) d .none (.bool d.isNone) := ⟨fun _ p => T2.isNone p⟩
theorem E2.notNone {d : D} : E2 c n f loc mt (compareOp .IsNot) d .none (.bool (!d.isNone)) := ⟨fun _ p => T2.notNone p⟩
theorem E2.eqB {a b : Bool} : E2 c n f loc mt (compareOp .Eq) (.bool a) (.bool b) (.bool (a == b)) := ⟨fun _ p => T2.eqB p⟩
theorem Ev.cmp {op : CmpOp} {d₁ d₂ d : D} (h₁ : Ev c n f loc mt l d₁) (h₂ : Ev c n f loc mt r d₂) (h : E2 c n f loc mt (compareOp op) d₁ d₂ d) (hm : behindInMarks op r = false := by with_unfolding_all rfl) :
    Ev c n f loc mt (.Compare l [op] [r] pos) d := ⟨fun _ p => TW.compare (h₁.go _ (h₂.go _ (h.go _ p))) hm⟩
theorem BW.cmp {op : CmpOp} {d₁ d₂ : D} {x : Bool} {whole : Sem Value} {Φ : Bool → Mt → Prop} (h₁ : Ev c n f loc mt l d₁) (h₂ : Ev c n f loc mt r d₂) (h : E2 c n f loc mt (compareOp op) d₁ d₂ (.bool x)) (p : Φ x mt)
    (hm : behindInMarks op r = false := by with_unfolding_all rfl) : BW c n f (isTrue (.Compare l [op] [r] pos) f.env whole) loc mt Φ := BW.compare (h₁.go _ (h₂.go _ (h.go _ (B1.bool p)))) hm
theorem Ev.sbs {d₁ d₂ d : D} (h₁ : Ev c n f loc mt l d₁) (h₂ : Ev c n f loc mt r d₂) (h : E2 c n f loc mt (subscriptTail l r) d₁ d₂ d) : Ev c n f loc mt (.Subscript l r pos) d := ⟨fun _ p => TW.sub (h₁.go _ (h₂.go _ (h.go _ p)))⟩
theorem E2.itemI {d : D} {ks : List Int} {i : Int} (hs : SeqD mt d (iL ks)) (h0 : 0 ≤ i) (h1 : i < ks.length) (h2 : i < 9223372036854775808)
    (he : ∀ a k t, subscripted r false (.ref a) (.int k t) = operate [.ref a, .int k t] (getItem (.ref a) (.int k t)) := by intros; with_unfolding_all rfl) : E2 c n f loc mt (subscriptTail l r) d (.int i) (.int (ks.getD i.toNat 0)) := ⟨fun _ p => T2.itemI hs h0 h1 h2 p he⟩
theorem E2.item {d d' : D} {ds : List D} {i : Int} (hs : SeqD mt d ds) (h0 : 0 ≤ i) (h1 : i < 9223372036854775808) (hd : ds[i.toNat]? = some d')
    (he : ∀ a k t, subscripted r false (.ref a) (.int k t) = operate [.ref a, .int k t] (getItem (.ref a) (.int k t)) := by intros; with_unfolding_all rfl) : E2 c n f loc mt (subscriptTail l r) d (.int i) d' := ⟨fun _ p => T2.item hs h0 h1 hd p he⟩
end
theorem Ev.fld {o : PySem.Expr} {x : PySem.Str} {pos : Pos} {d d' : D} {C : Addr} {fs : List (PySem.Str × D)} {attr : Option Value} (h : Ev c n f loc mt o d) (hi : InsD mt d C fs) (hc : ClsK c.K C) (hf : findIn c.K (.ref C) x = some attr) (hn : noGet c.K attr = true) (hl : fs.lookup x = some d')
    (he : ∀ env, eval (.Attribute o x pos) env = (do
      let ov ← eval o env
      standAt pos.atName
      let r ← holding [ov] (getAttr ov x true)
      letTemporaryGo o ov r
      pure r) := by intro _; with_unfolding_all rfl) : Ev c n f loc mt (.Attribute o x pos) d' := ⟨fun _ p => TW.attrP (h.go _ (FldW.mk hi hc hf hn hl p)) he⟩
theorem Ev.tuple {es : List PySem.Expr} {ds : List D} {kk : Nat} {pos : Pos} (h : EvL c n f loc mt es ds) (hl : ds.length ≤ 1000) : Ev c n f loc mt (.Tuple es kk pos) (.tup ds) := ⟨fun _ p => TW.tuple (h.go _ _ ⟨hl, p⟩)⟩
theorem Ev.list {es : List PySem.Expr} {ds : List D} {pos : Pos} (h : EvL c n f loc mt es ds) (hl : ds.length ≤ 1000) : Ev c n f loc mt (.List es pos) (.list ds) := ⟨fun _ p => TW.list (h.go _ _ ⟨hl, p⟩)⟩
theorem ExW.assignV {x : PySem.Str} {px pos : Pos} {e : PySem.Expr} {d : D} {Φ : Fl → Lc → Mt → Prop} (G : GF f S) (hx : Sto S x) (h : Ev c n f loc mt e d) (hl : SetL x d loc loc') (p : Φ .next loc' mt)
    (hs : ∀ env, swapsWith e (some (.Name x px)) pos.line env = pure false := by intro _; rfl) : ExW c n f (exec (.Assign [.Name x px] e pos) f.env) loc mt Φ := ExW.assign G hx (h.go _ ⟨loc', hl, p⟩) hs
theorem ExW.retE {e : PySem.Expr} {d : D} {pos : Pos} {Φ : Fl → Lc → Mt → Prop} (h : Ev c n f loc mt e d) (p : Φ (.ret d) loc mt) : ExW c n f (exec (.Return (some e) pos) f.env) loc mt Φ := ExW.ret (h.go _ p)
theorem ExW.setE {o i e : PySem.Expr} {ps pos : Pos} {d d₁ d₂ : D} {Φ : Fl → Lc → Mt → Prop} (h : Ev c n f loc mt e d) (h₁ : Ev c n f loc mt o d₁) (h₂ : Ev c n f loc mt i d₂) (p : PutW d d₁ d₂ mt (Φ .next loc))
    (hs : ∀ env, swapsWith e (some (.Subscript o i ps)) pos.line env = pure false := by intro _; rfl) : ExW c n f (exec (.Assign [.Subscript o i ps] e pos) f.env) loc mt Φ := ExW.setItemP (h.go _ (h₁.go _ (h₂.go _ p))) hs
theorem ExW.augE {x : PySem.Str} {px pos : Pos} {op : Operator} {e : PySem.Expr} {d₀ d d' : D} {Φ : Fl → Lc → Mt → Prop} (G : GF f S) (hx : Sto S x) (hm : (x, d₀) ∈ loc) (h : Ev c n f loc mt e d) (h₂ : E2 c n f loc mt (inplaceOp op) d₀ d d') (hl : SetL x d' loc loc') (p : Φ .next loc' mt) :
    ExW c n f (exec (.AugAssign (.Name x px) op e pos) f.env) loc mt Φ := ExW.aug G hx hm (h.go _ (h₂.go _ ⟨loc', hl, p⟩))
theorem E2.iadd {a b : Int} : E2 c n f loc mt (inplaceOp .Add) (.int a) (.int b) (.int (a + b)) := ⟨fun _ p => T2.iadd p⟩
theorem leT {a b c : Int} (h : b ≤ c) (h' : a ≤ b) : a ≤ c := Int.le_trans h' h
theorem mulA {a b : Int} (h1 : -1073741824 ≤ a) (h2 : a ≤ 1073741824) : IntMulOk a b := mulSmall (by omega)
theorem mulB {a b : Int} (h1 : -1073741824 ≤ b) (h2 : b ≤ 1073741824) : IntMulOk a b := mulSmall (by omega)
end
end Mine

namespace Mine
noncomputable abbrev cx (w : World) (p : Program) (loose : List PySem.Str) (mg mb : PySem.Str → Option Value) : Cx := ⟨PySem.Challenge.rw_nt0561_01.row.prog, w, Mine.H.K w.params, p, loose, mg, mb⟩
section
variable {w : World}
theorem fill0 : PySem.Challenge.rw_nt0561_01 = PySem.Challenge.rw_nt0561_01 → Mine.H.K w.params = Mine.H.K w.params := by
  k_fill
  intro _; rfl
theorem cls_scan : ClsK (Mine.H.K w.params) 504 := ⟨fun x => (by k_is : plainGet (Mine.H.K w.params) 504 "x" = true), by k_is, by k_is, by k_is⟩
theorem cls_frame : ClsK (Mine.H.K w.params) 469 := ⟨fun x => (by k_is : plainGet (Mine.H.K w.params) 469 "x" = true), by k_is, by k_is, by k_is⟩
theorem cls_comp : ClsK (Mine.H.K w.params) 403 := ⟨fun x => (by k_is : plainGet (Mine.H.K w.params) 403 "x" = true), by k_is, by k_is, by k_is⟩
theorem cls_grid : ClsK (Mine.H.K w.params) 50 := ⟨fun x => (by k_is : plainGet (Mine.H.K w.params) 50 "x" = true), by k_is, by k_is, by k_is⟩
theorem unk_ok {p : Program} {loose : List PySem.Str} {mg mb : PySem.Str → Option Value} {n : Nat} {f : Fm} {S : Scope} {loc : Lc} {mt : Mt} {pos : Pos} {Φ : D → Mt → Prop} (G : GF f S) (hx : S.names.lookup ("UNKNOWN" : PySem.Str) = some NameKind.globalImplicit) (h : Φ (.int (-1)) mt) :
    TW (cx w p loose mg mb) n f (eval (.Name "UNKNOWN" pos) f.env) loc mt Φ :=
  TW.top (d := .int (-1)) [] G hx (by dsimp only [cx]; k_is) (fun _ h => nomatch h) ⟨_, rfl⟩ h
theorem unkE {p : Program} {loose : List PySem.Str} {mg mb : PySem.Str → Option Value} {n : Nat} {f : Fm} {S : Scope} {loc : Lc} {mt : Mt} {pos : Pos} (G : GF f S) (hx : S.names.lookup ("UNKNOWN" : PySem.Str) = some NameKind.globalImplicit) :
    Ev (cx w p loose mg mb) n f loc mt (.Name "UNKNOWN" pos) (.int (-1)) := ⟨fun _ h => unk_ok G hx h⟩
end

local macro_rules | `(tactic| walk_at "m_k") => `(tactic| (first | k_is | (dsimp only [cx]; k_is)))
local macro_rules | `(tactic| walk_at "m_args") => `(tactic| (first | exact .nil | exact .cons (by walk_at "m_args") | fail))
local macro_rules | `(tactic| walk_at "m_in") => `(tactic| (with_reducible first | exact List.mem_cons_self | ((show _ ∈ _ :: _); exact List.mem_cons_of_mem _ (by walk_at "m_in")) | fail))
local macro_rules | `(tactic| walk_at "m_at") => `(tactic| (with_reducible first | exact At.head | ((show At _ _ (_ :: _) _); exact At.tail (by walk_at "m_at")) | fail))
local macro_rules | `(tactic| walk_at "m_rem") => `(tactic| (with_reducible first | exact Rem.head | ((show Rem _ _ (_ :: _) _); exact Rem.tail (by walk_at "m_rem")) | fail))
local macro_rules | `(tactic| walk_at "m_set1") => `(tactic| (with_reducible first | exact SetAt.head | ((show SetAt _ _ (_ :: _) _); exact SetAt.tail (by walk_at "m_set1")) | fail))
local macro_rules | `(tactic| walk_at "m_set") => `(tactic| (first | exact SetL.old (by walk_at "m_set1") | exact SetL.new (by rfl) | fail))
local macro_rules | `(tactic| walk_at "m_bind") => `(tactic| ((repeat refine allS fun _ => ?_); exact allZ rfl))
local macro_rules | `(tactic| walk_at "m_def") => `(tactic| (refine CallW.dfnD (by walk_at "m_k") (by walk_at "m_k") (by walk_at "m_bind") (by walk_at "m_args") (by decide) ?_))
local macro_rules | `(tactic| walk_at "m_sto") => `(tactic| (first | exact Sto.here rfl | exact Sto.held rfl))
local macro_rules | `(tactic| walk_at "m_o") => `(tactic| (first | (with_reducible assumption) | decide +kernel | with_reducible exact Int.natCast_nonneg _ | with_reducible exact Int.lt_of_lt_of_le (by assumption) (by decide +kernel) | with_reducible exact Int.lt_of_le_of_lt (by assumption) (by decide +kernel) | with_reducible exact leT (by assumption) (by decide +kernel) | with_reducible exact Int.le_trans (by assumption) (by decide +kernel) | omega))
local macro_rules | `(tactic| walk_at "m_mul") => `(tactic| (first | (with_reducible assumption) | exact mulSmall (.inr (by decide +kernel)) | exact mulSmall (.inl (by decide +kernel)) | exact mulB (by walk_at "m_o") (by walk_at "m_o") | exact mulA (by walk_at "m_o") (by walk_at "m_o") | (refine mulSmall ?_; omega)))
local macro_rules | `(tactic| walk_at "e") => `(tactic| (first | ((with_reducible show Ev _ _ _ _ _ (.Name _ _) _); first | exact Ev.name (by with_reducible assumption) (by walk_at "m_in") | exact unkE (by with_reducible assumption) rfl) | ((with_reducible show Ev _ _ _ _ _ (.Constant _ _ _) _); first | exact Ev.int | exact Ev.none | exact Ev.bool | exact Ev.str) | ((with_reducible show Ev _ _ _ _ _ (.BinOp _ .Add _ _) _); exact Ev.add (by walk_at "e") (by walk_at "e")) | ((with_reducible show Ev _ _ _ _ _ (.BinOp _ .Sub _ _) _); exact Ev.sub (by walk_at "e") (by walk_at "e")) | ((with_reducible show Ev _ _ _ _ _ (.BinOp _ .Mult _ _) _); exact Ev.mul (by walk_at "e") (by walk_at "e") (by walk_at "m_mul")) | ((with_reducible show Ev _ _ _ _ _ (.BinOp _ .Mod _ _) _); exact Ev.mod (by walk_at "e") (by walk_at "e") (by walk_at "m_o")) | ((with_reducible show Ev _ _ _ _ _ (.BinOp _ .FloorDiv _ _) _); exact Ev.fdiv (by walk_at "e") (by walk_at "e") (by walk_at "m_o") (by walk_at "m_o")) | ((with_reducible show Ev _ _ _ _ _ (.UnaryOp .USub _ _) _); exact Ev.neg (by walk_at "e")) | ((with_reducible show Ev _ _ _ _ _ (.Compare _ [_] [_] _) _); exact Ev.cmp (by walk_at "e") (by walk_at "e") (by walk_at "e_op")) | ((with_reducible show Ev _ _ _ _ _ (.Subscript _ _ _) _); exact Ev.sbs (by walk_at "e") (by walk_at "e") (by walk_at "e_it")) | ((with_reducible show Ev _ _ _ _ _ (.Attribute _ _ _) _); exact Ev.fld (by walk_at "e") (by walk_at "m_ins") (by walk_at "m_cls") (by walk_at "m_k") (by walk_at "m_k") (by rfl)) | ((with_reducible show Ev _ _ _ _ _ (.Tuple _ _ _) _); exact Ev.tuple (by walk_at "el") (by walk_at "m_len")) | fail))
local macro_rules | `(tactic| walk_at "el") => `(tactic| (first | exact EvL.nil | ((with_reducible show EvL _ _ _ _ _ (_ :: _) _); exact EvL.cons (by walk_at "e") (by walk_at "el")) | fail))
local macro_rules | `(tactic| walk_at "e_op") => `(tactic| (first | exact E2.eq | exact E2.ne | exact E2.lt | exact E2.gt | exact E2.le | exact E2.ge | exact E2.isNone | exact E2.notNone | exact E2.eqB))
local macro_rules | `(tactic| walk_at "e_it") => `(tactic| (first | ((with_reducible show E2 _ _ _ _ _ _ (.list _) (.int _) _); first | exact E2.itemI (.list _) (by walk_at "m_o") (by first | walk_at "m_o" | walk_at "m_len") (by walk_at "m_o") | exact E2.item (.list _) (by walk_at "m_o") (by walk_at "m_o") (by rfl)) | ((with_reducible show E2 _ _ _ _ _ _ (.tup _) (.int _) _); first | exact E2.itemI (.tup _) (by walk_at "m_o") (by first | walk_at "m_o" | walk_at "m_len") (by walk_at "m_o") | exact E2.item (.tup _) (by walk_at "m_o") (by walk_at "m_o") (by rfl)) | ((with_reducible show E2 _ _ _ _ _ _ (.ref _) (.int _) _); first | exact E2.itemI (by walk_at "m_seq") (by walk_at "m_o") (by first | walk_at "m_o" | walk_at "m_len") (by walk_at "m_o") | exact E2.item (by walk_at "m_seq") (by walk_at "m_o") (by walk_at "m_o") (by rfl))))
local macro_rules | `(tactic| walk_at "m_seq") => `(tactic| (first | exact .list _ | exact .tup _ | exact .ref (by walk_at "m_in") | exact .ref (At.mem (by assumption)) | exact .ref (At.mem (At.re (by assumption) _))))
local macro_rules | `(tactic| walk_at "m_lst") => `(tactic| (first | exact .list _ | exact .ref (by walk_at "m_in") | exact .ref (At.mem (by assumption)) | exact .ref (At.mem (At.re (by assumption) _))))
local macro_rules | `(tactic| walk_at "m_atq") => `(tactic| (first | (with_reducible assumption) | walk_at "m_at" | exact At.re (by assumption) _))
local macro_rules | `(tactic| walk_at "m_len") => `(tactic| (first | (simp only [List.length_cons, List.length_nil]; omega) | (simp; done) | (simp; omega)))
local macro_rules | `(tactic| walk_at "m_sets") => `(tactic| (first | exact ⟨_, by walk_at "m_set", rfl⟩ | exact ⟨_, by walk_at "m_set", by walk_at "m_sets"⟩ | fail))
local macro_rules | `(tactic| walk_at "m_names") => `(tactic| (first | exact .nil | exact .cons (by walk_at "m_names") | fail))
local macro_rules | `(tactic| walk_at "m_cls") => `(tactic| (first | exact cls_scan | exact cls_grid | exact cls_frame | exact cls_comp))
local macro_rules | `(tactic| walk_at "m_ins") => `(tactic| (first | exact .inst _ _ | exact .slf (by walk_at "m_in") | exact .slf (At.mem (by assumption))))
local macro_rules | `(tactic| walk_at "m_sub") => `(tactic| (first | exact .refl _ | exact .cons _ (by walk_at "m_sub") | fail))
local macro_rules | `(tactic| walk_at "m_less") => `(tactic| (refine ⟨_, _, by walk_at "m_sub", by walk_at "m_sub", rfl, ?_⟩))
local macro_rules | `(tactic| walk_at "m_lf1") => `(tactic| (first | exact .nil | exact .cons (by walk_at "m_in") (by rfl) (by walk_at "m_lf1") | fail))
local macro_rules | `(tactic| walk_at "m_if") => `(tactic| (refine ⟨fun hc => ?_, fun hc => ?_⟩ <;> simp only [decide_eq_true_eq, decide_eq_false_iff_not, Bool.not_eq_true', Bool.not_eq_false', beq_iff_eq, bne_iff_ne, ne_eq, beq_eq_false_iff_ne, bne_eq_false_iff_eq, Int.not_lt, Int.not_le, Classical.not_not] at hc))

-- C1
section
variable {w : World} {p : Program} {loose : List PySem.Str} {mg mb : PySem.Str → Option Value}
theorem parts_ok {n : Nat} {mt : Mt} {a b : Int} (hb : 0 < b) (hb' : b < 1000) : CallW (cx w p loose mg mb) (n + 1) (.ref 386) [.int a, .int b] mt (fun d mt' => d = .int ((a + b - 1) / b) ∧ mt = mt') := by
  walk_at "m_def"
  intro f gf
  refine fun _ _ => ?_; refine ExW.last ?_; refine ExW.retE (by walk_at "e") ?_; refine RetK.go (by with_reducible assumption) ?_
  exact RetW.ret ⟨rfl, rfl⟩ (.refl _)
noncomputable def Side (k : Int) : Prop := k = 2 ∨ k = 3 ∨ k = 4
theorem Side.bd {k : Int} (hk : Side k) : 2 ≤ k ∧ k ≤ 4 ∧ 4 ≤ k * k ∧ k * k ≤ 16 := by rcases hk with rfl | rfl | rfl <;> decide
noncomputable def SrcOk (a b : Int) : Prop := 0 ≤ a ∧ 0 ≤ b ∧ b < 2147483647
noncomputable abbrev Src (x y : Int) : M := .lst [.int x, .int y]
theorem take_ok {n : Nat} {mt : Mt} {a : Addr} {x y top : Int} {G : M → Mt} (hG : At a (Src x y) mt G) (hs : SrcOk x y) (h0 : 0 < top) (h1 : top < 1000) : CallW (cx w p loose mg mb) (n + 1) (.ref 522) [.ref a, .int top] mt
    (fun d mt' => ∃ r x' y', 0 ≤ r ∧ r < top ∧ SrcOk x' y' ∧ d = .int r ∧ mt' = G (Src x' y')) := by
  obtain ⟨s1, s2, s3⟩ := hs
  walk_at "m_def"
  intro f gf
  refine fun _ _ => ?_; refine ExW.consO fun _ _ => ?_; refine ExW.if_ ?_; refine BW.cmp (by walk_at "e") (by walk_at "e") (by walk_at "e_op") ?_
  walk_at "m_if"
  · refine ExW.consO fun _ _ => ?_; refine ExW.assignV (by with_reducible assumption) (by walk_at "m_sto") (by walk_at "e") (by walk_at "m_set") ?_; refine SeqK.next (by with_reducible assumption) ?_; refine ExW.consO fun _ _ => ?_; refine ExW.setE (by walk_at "e") (by walk_at "e") (by walk_at "e") ?_; refine PutW.mk (by walk_at "m_atq") (by walk_at "m_o") (by walk_at "m_len") (by walk_at "m_o") ?_; refine SeqK.next (by with_reducible assumption) ?_; refine ExW.last ?_; refine ExW.retE (by walk_at "e") ?_; refine SeqK.ret (by with_reducible assumption) ?_; refine RetK.go (by with_reducible assumption) ?_
    exact RetW.ret ⟨_, _, _, Int.emod_nonneg _ (by walk_at "m_o"), Int.emod_lt_of_pos _ h0, ⟨Int.ediv_nonneg s1 (by walk_at "m_o"), s2, s3⟩, rfl, rfl⟩ (.refl _)
  · refine ExW.nil ?_; refine SeqK.next (by with_reducible assumption) ?_; refine ExW.consO fun _ _ => ?_; refine ExW.setE (by walk_at "e") (by walk_at "e") (by walk_at "e") ?_; refine PutW.mk (by walk_at "m_atq") (by walk_at "m_o") (by walk_at "m_len") (by walk_at "m_o") ?_; refine SeqK.next (by with_reducible assumption) ?_; refine ExW.last ?_; refine ExW.retE (by walk_at "e") ?_; refine RetK.go (by with_reducible assumption) ?_
    exact RetW.ret ⟨_, _, _, Int.emod_nonneg _ (by walk_at "m_o"), Int.emod_lt_of_pos _ h0, ⟨s1, Int.emod_nonneg _ (by walk_at "m_o"), Int.emod_lt_of_pos _ (by walk_at "m_o")⟩, rfl, rfl⟩ (.refl _)
end

-- C2
section
variable {w : World} {p : Program} {loose : List PySem.Str} {mg mb : PySem.Str → Option Value}
noncomputable def keptI (place size : Int) : Int := max 0 (min (size - 1) place)
theorem kept_ok {n : Nat} {mt : Mt} {a b : Int} : CallW (cx w p loose mg mb) (n + 1) (.ref 358) [.int a, .int b] mt (fun d mt' => d = .int (keptI a b) ∧ mt = mt') := by
  walk_at "m_def"
  intro f gf
  refine fun _ _ => ?_; refine ExW.last ?_; refine ExW.ret ?_; refine TW.callB (by with_reducible assumption) rfl (by walk_at "m_k") (by boot_by_name) ?_; refine AW.cons ?_; refine TW.ev (by walk_at "e") ?_; refine AW.cons ?_; refine TW.callB (by with_reducible assumption) rfl (by walk_at "m_k") (by boot_by_name) ?_; refine AW.ev (by walk_at "el") ?_; refine CallB.min ?_; refine AW.ev (by walk_at "el") ?_; refine CallB.max ?_; refine RetK.go (by with_reducible assumption) ?_
  exact RetW.ret ⟨rfl, rfl⟩ (.refl _)
noncomputable def absI (x : Int) : Int := if x < 0 then -x else x
noncomputable def guessedI (number divisor known : Int) : Int :=
  let found := (divisor * 128 + absI number) / (divisor * 256)
  let found := if 0 < known ∧ 2 ^ known.toNat ≤ found then 2 ^ known.toNat - 1 else found
  if number < 0 then -found else found
theorem guessed_ok {n : Nat} {mt : Mt} {a b k : Int} (ha : -1000000000000 < a) (ha' : a < 1000000000000) (hb : 0 < b) (hb' : b < 1000) (hk : k < 10) : CallW (cx w p loose mg mb) (n + 1) (.ref 339) [.int a, .int b, .int k] mt
    (fun d mt' => d = .int (guessedI a b k) ∧ mt = mt') := by
  walk_at "m_def"
  intro f gf
  refine fun _ _ => ?_; refine ExW.consO fun _ _ => ?_; refine ExW.assign (by with_reducible assumption) (by walk_at "m_sto") ?_; refine TW.binop ?_; refine TW.binop ?_; refine TW.binop ?_; refine TW.ev (by walk_at "e") ?_; refine TW.ev (by walk_at "e") ?_
  refine T2.shlC 128 rfl (by walk_at "m_o") (by walk_at "m_o") (by walk_at "m_o") ?_
  refine TW.callB (by with_reducible assumption) rfl (by walk_at "m_k") (by boot_by_name) ?_; refine AW.ev (by walk_at "el") ?_; refine CallB.abs ?_; refine T2.add ?_; refine TW.binop ?_; refine TW.ev (by walk_at "e") ?_; refine TW.ev (by walk_at "e") ?_
  refine T2.shlC 256 rfl (by walk_at "m_o") (by walk_at "m_o") (by walk_at "m_o") ?_
  refine T2.fdivP (by omega) (by omega) ?_; refine ⟨_, by walk_at "m_set", ?_⟩; refine SeqK.next (by with_reducible assumption) ?_; refine ExW.consO fun _ _ => ?_; refine ExW.if_ ?_; refine BW.and ?_; refine BW.cmp (by walk_at "e") (by walk_at "e") (by walk_at "e_op") ?_
  have h1 : (if a < 0 then -a else a) = absI a := rfl
  have h2 : 0 ≤ (b * 128 + absI a) / (b * 256) := Int.ediv_nonneg (by unfold absI; split <;> omega) (by walk_at "m_o")
  rw [h1]
  refine ⟨fun hc => ?_, fun hc => ?_⟩ <;> simp only [decide_eq_true_eq, decide_eq_false_iff_not] at hc
  · refine BW.and ?_; refine BW.compare ?_; refine TW.ev (by walk_at "e") ?_; refine TW.binop ?_; refine TW.ev (by walk_at "e") ?_; refine TW.ev (by walk_at "e") ?_
    refine T2.shlS (by walk_at "m_o") (by walk_at "m_o") (by walk_at "m_o") ?_
    refine T2.ge ?_; refine B1.bool ?_
    refine ⟨fun hd => ?_, fun hd => ?_⟩ <;> simp only [decide_eq_true_eq, decide_eq_false_iff_not, Int.one_mul] at hd
    · refine BW.and_nil ?_
      refine ⟨fun _ => ?_, (fun hx => nomatch hx)⟩
      refine ExW.last ?_; refine ExW.assign (by with_reducible assumption) (by walk_at "m_sto") ?_; refine TW.binop ?_; refine TW.binop ?_; refine TW.ev (by walk_at "e") ?_; refine TW.ev (by walk_at "e") ?_
      refine T2.shlS (by walk_at "m_o") (by walk_at "m_o") (by walk_at "m_o") ?_
      refine TW.ev (by walk_at "e") ?_; refine T2.sub ?_; refine ⟨_, by walk_at "m_set", ?_⟩; refine SeqK.next (by with_reducible assumption) ?_; refine ExW.last ?_; refine ExW.ret ?_; refine TW.ifexp ?_; refine BW.cmp (by walk_at "e") (by walk_at "e") (by walk_at "e_op") ?_
      have hv : guessedI a b k = if a < 0 then -(2 ^ k.toNat - 1) else 2 ^ k.toNat - 1 := by unfold guessedI; simp only [hc, hd, and_self, if_true]
      walk_at "m_if"
      · refine TW.ev (by walk_at "e") ?_; refine RetK.go (by with_reducible assumption) ?_
        exact RetW.ret ⟨by rw [hv, if_pos ‹_›, Int.one_mul], rfl⟩ (.refl _)
      · refine TW.ev (by walk_at "e") ?_; refine RetK.go (by with_reducible assumption) ?_
        exact RetW.ret ⟨by rw [hv, if_neg (by walk_at "m_o"), Int.one_mul], rfl⟩ (.refl _)
    · refine ⟨(fun hx => nomatch hx), fun _ => ?_⟩
      refine ExW.nil ?_; refine SeqK.next (by with_reducible assumption) ?_; refine ExW.last ?_; refine ExW.ret ?_; refine TW.ifexp ?_; refine BW.cmp (by walk_at "e") (by walk_at "e") (by walk_at "e_op") ?_
      have hv : guessedI a b k = if a < 0 then -((b * 128 + absI a) / (b * 256)) else (b * 128 + absI a) / (b * 256) := by
        unfold guessedI; simp only [hd, and_false, if_false]
      walk_at "m_if"
      · refine TW.ev (by walk_at "e") ?_; refine RetK.go (by with_reducible assumption) ?_
        exact RetW.ret ⟨by rw [hv, if_pos ‹_›], rfl⟩ (.refl _)
      · refine TW.ev (by walk_at "e") ?_; refine RetK.go (by with_reducible assumption) ?_
        exact RetW.ret ⟨by rw [hv, if_neg (by walk_at "m_o")], rfl⟩ (.refl _)
  · skip
    refine ⟨(fun hx => nomatch hx), fun _ => ?_⟩
    refine ExW.nil ?_; refine SeqK.next (by with_reducible assumption) ?_; refine ExW.last ?_; refine ExW.ret ?_; refine TW.ifexp ?_; refine BW.cmp (by walk_at "e") (by walk_at "e") (by walk_at "e_op") ?_
    have hv : guessedI a b k = if a < 0 then -((b * 128 + absI a) / (b * 256)) else (b * 128 + absI a) / (b * 256) := by
      unfold guessedI; simp only [hc, false_and, if_false]
    walk_at "m_if"
    · refine TW.ev (by walk_at "e") ?_; refine RetK.go (by with_reducible assumption) ?_
      exact RetW.ret ⟨by rw [hv, if_pos ‹_›], rfl⟩ (.refl _)
    · refine TW.ev (by walk_at "e") ?_; refine RetK.go (by with_reducible assumption) ?_
      exact RetW.ret ⟨by rw [hv, if_neg (by walk_at "m_o")], rfl⟩ (.refl _)
end

-- C3
section
variable {w : World} {p : Program} {loose : List PySem.Str} {mg mb : PySem.Str → Option Value}
structure Sc where
  ps : List Int
  st : Int
  en : Int
  low : Int
noncomputable def Sc.d (s : Sc) : D := .inst 504 [("places", .list (iL s.ps)), ("dc_slots", .list [.int 0]), ("ac_slots", .list [.int 0]), ("start", .int s.st), ("end", .int s.en), ("high", .int 0), ("low", .int s.low)]
theorem scan_init {n : Nat} {mt : Mt} {dx : Addr} {a1 a2 a3 a4 a5 a6 a7 : D} : CallW (cx w p loose mg mb) (n + 1) (.ref 487) [.slf 504 dx, a1, a2, a3, a4, a5, a6, a7] ((dx, .dct []) :: mt)
    (fun d mt' => d = .none ∧ mt' = (dx, .dct [("places", a1), ("dc_slots", a2), ("ac_slots", a3), ("start", a4), ("end", a5), ("high", a6), ("low", a7)]) :: mt) := by
  walk_at "m_def"
  intro f gf
  refine fun _ _ => ?_; refine ExW.consO fun _ _ => ?_; refine ExW.setAttrP ?_; refine TW.ev (by walk_at "e") ?_; refine TW.ev (by walk_at "e") ?_; refine SetF.mk (by walk_at "m_atq") (by walk_at "m_cls") (by walk_at "m_k") (by rfl) (by walk_at "m_len") ?_; refine SeqK.next (by with_reducible assumption) ?_; refine ExW.consO fun _ _ => ?_; refine ExW.setAttrP ?_; refine TW.ev (by walk_at "e") ?_; refine TW.ev (by walk_at "e") ?_; refine SetF.mk (by walk_at "m_atq") (by walk_at "m_cls") (by walk_at "m_k") (by rfl) (by walk_at "m_len") ?_; refine SeqK.next (by with_reducible assumption) ?_; refine ExW.consO fun _ _ => ?_; refine ExW.setAttrP ?_; refine TW.ev (by walk_at "e") ?_; refine TW.ev (by walk_at "e") ?_; refine SetF.mk (by walk_at "m_atq") (by walk_at "m_cls") (by walk_at "m_k") (by rfl) (by walk_at "m_len") ?_; refine SeqK.next (by with_reducible assumption) ?_; refine ExW.consO fun _ _ => ?_; refine ExW.setAttrP ?_; refine TW.ev (by walk_at "e") ?_; refine TW.ev (by walk_at "e") ?_; refine SetF.mk (by walk_at "m_atq") (by walk_at "m_cls") (by walk_at "m_k") (by rfl) (by walk_at "m_len") ?_; refine SeqK.next (by with_reducible assumption) ?_; refine ExW.consO fun _ _ => ?_; refine ExW.setAttrP ?_; refine TW.ev (by walk_at "e") ?_; refine TW.ev (by walk_at "e") ?_; refine SetF.mk (by walk_at "m_atq") (by walk_at "m_cls") (by walk_at "m_k") (by rfl) (by walk_at "m_len") ?_; refine SeqK.next (by with_reducible assumption) ?_; refine ExW.consO fun _ _ => ?_; refine ExW.setAttrP ?_; refine TW.ev (by walk_at "e") ?_; refine TW.ev (by walk_at "e") ?_; refine SetF.mk (by walk_at "m_atq") (by walk_at "m_cls") (by walk_at "m_k") (by rfl) (by walk_at "m_len") ?_; refine SeqK.next (by with_reducible assumption) ?_; refine ExW.last ?_; refine ExW.setAttrP ?_; refine TW.ev (by walk_at "e") ?_; refine TW.ev (by walk_at "e") ?_; refine SetF.mk (by walk_at "m_atq") (by walk_at "m_cls") (by walk_at "m_k") (by rfl) (by walk_at "m_len") ?_; refine RetK.go (by with_reducible assumption) ?_
  exact RetW.next ⟨rfl, rfl⟩ (.refl _)
noncomputable def knL (many : Nat) (kn : Nat → Int) : List Int := (List.range many).map kn
noncomputable def kStep (place : Int) (kn : Nat → Int) (s : Sc) : Nat → Int := fun r => if s.ps.any (· == place) = true ∧ s.st ≤ r ∧ (r : Int) ≤ s.en then s.low else kn r
noncomputable def kAll (place : Int) (scans : List Sc) : Nat → Int := scans.foldl (kStep place) (fun _ => -1)
theorem knL_set (many : Nat) (kn : Nat → Int) (i : Nat) (v : Int) : (iL (knL many kn)).set i (.int v) = iL (knL many fun r => if r = i then v else kn r) := by
  unfold iL knL
  apply List.ext_getElem?
  intro j
  rw [List.getElem?_set]
  simp only [List.length_map, List.length_range, List.getElem?_map]
  by_cases hj : i = j
  · subst hj
    by_cases hi : i < many
    · simp [hi]
    · simp [hi]
  · by_cases hi : j < many
    · have : ¬ j = i := fun e => hj e.symm
      simp [hi, hj, this]
    · simp [hi, hj]
theorem knL_minus (many : Nat) : (List.replicate many [D.int (-1)]).flatten = iL (knL many fun _ => -1) := by
  unfold iL knL
  induction many with
  | zero => rfl
  | succ k ih => rw [List.replicate_succ, List.flatten_cons, ih, List.range_succ_eq_map]; simp
theorem known_ok {n : Nat} {mt : Mt} {scans : List Sc} {place : Int} {many : Nat} (hm : 0 < many) (hm' : many ≤ 16) (hs : ∀ s ∈ scans, 0 ≤ s.st ∧ s.st < many ∧ s.st ≤ s.en ∧ s.en < 1000) :
    CallW (cx w p loose mg mb) (n + 1) (.ref 318) [.list (scans.map Sc.d), .int place, .int many] mt (fun d mt' => d = .list (iL (knL many (kAll place scans))) ∧ mt = mt') := by
  walk_at "m_def"
  intro f gf
  refine fun _ _ => ?_; refine ExW.consO fun _ _ => ?_; refine ExW.assign (by with_reducible assumption) (by walk_at "m_sto") ?_; refine TW.binop ?_; refine TW.list ?_; refine AW.ev (by walk_at "el") ?_; refine ⟨by walk_at "m_len", ?_⟩; refine TW.ev (by walk_at "e") ?_
  refine T2.timesM (by walk_at "m_lst") (by walk_at "m_o") (by simp; omega) (by walk_at "m_o") fun a => ?_
  rw [Int.toNat_natCast, knL_minus]
  refine ⟨_, by walk_at "m_set", ?_⟩; refine SeqK.next (by with_reducible assumption) ?_; refine ExW.consO fun _ _ => ?_; refine ExW.forQ ?_; refine TW.ev (by walk_at "e") ?_
  refine ⟨scans.map Sc.d, fun i loc mt' => Inv loc mt' [("known", .ref a), ("scans", .list (scans.map Sc.d)), ("place", .int place), ("many", .int many)] ((a, .lst (iL (knL many (kAll place (scans.take i))))) :: mt), .list _, ⟨rfl, rfl⟩, ?_, ?_⟩
  · rintro i d' loc' mt' hi ⟨rfl, rfl⟩
    rw [List.getElem?_map] at hi
    obtain ⟨sc, hsc, rfl⟩ := Option.map_eq_some_iff.mp hi
    obtain ⟨b1, b2, b3, b4⟩ := hs sc (List.mem_of_getElem? hsc)
    have hstep : kAll place (scans.take (i + 1)) = kStep place (kAll place (scans.take i)) sc := by
      unfold kAll
      rw [List.take_add_one, hsc]
      simp
    generalize kAll place (scans.take i) = kn at hstep ⊢
    refine fun _ _ => ?_; refine AsW.name (by with_reducible assumption) (by walk_at "m_sto") ⟨_, by walk_at "m_set", ?_⟩; refine ExW.last ?_; refine ExW.if_ ?_; refine BW.compare ?_; refine TW.ev (by walk_at "e") ?_; refine TW.ev (by walk_at "e") ?_
    refine T2.inL (ks := sc.ps) (by walk_at "m_lst") ?_
    refine B1.bool ?_
    refine ⟨fun hc => ?_, fun hc => ?_⟩
    · refine ExW.last ?_; refine ExW.forQ ?_; refine TW.callT (by with_reducible assumption) rfl (by walk_at "m_k") (by boot_by_name) ?_; refine AW.cons ?_; refine TW.ev (by walk_at "e") ?_; refine AW.cons ?_; refine TW.binop ?_; refine TW.callB (by with_reducible assumption) rfl (by walk_at "m_k") (by boot_by_name) ?_; refine AW.ev (by walk_at "el") ?_; refine CallB.min ?_; refine TW.ev (by walk_at "e") ?_; refine T2.add ?_; refine AW.ev (by walk_at "el") ?_; refine CallB.range2 ?_
      have hmin : min sc.en ((many : Int) - 1) + 1 - sc.st = ((min sc.en ((many : Int) - 1) + 1 - sc.st).toNat : Int) := by omega
      refine ⟨_, fun j loc mt' => Inv loc mt' [("scan", sc.d), ("known", .ref a), ("scans", .list (scans.map Sc.d)), ("place", .int place), ("many", .int many)] ((a, .lst (iL (knL many (fun r => if sc.st ≤ r ∧ (r : Int) < sc.st + j then sc.low else kn r)))) :: mt), .upto _ hmin.symm (by walk_at "m_o") (by walk_at "m_o"), ?_, ?_, ?_⟩
      · refine ⟨rfl, ?_⟩
        congr 4
        unfold knL
        apply List.map_congr_left
        intro r _
        rw [if_neg (by walk_at "m_o")]
      · rintro j d' loc' mt' hj ⟨rfl, rfl⟩
        obtain ⟨hj1, rfl⟩ := rangeItems_get hj
        refine fun _ _ => ?_; refine AsW.name (by with_reducible assumption) (by walk_at "m_sto") ⟨_, by walk_at "m_set", ?_⟩; refine ExW.last ?_; refine ExW.setE (by walk_at "e") (by walk_at "e") (by walk_at "e") ?_
        refine PutW.mk (by walk_at "m_atq") (by walk_at "m_o") (by simp [iL, knL]; omega) (by walk_at "m_o") ?_
        refine LoopK.next (by with_reducible assumption) ?_
        refine ⟨_, _, .cons _ (.refl _), .refl _, rfl, ?_⟩
        rw [knL_set]
        congr 4
        unfold knL
        apply List.map_congr_left
        intro r _
        by_cases h1 : r = (sc.st + ↑j * 1).toNat
        · rw [if_pos h1, if_pos (by walk_at "m_o")]
        · rw [if_neg h1]
          by_cases h2 : sc.st ≤ r ∧ (r : Int) < sc.st + j
          · rw [if_pos h2, if_pos (by walk_at "m_o")]
          · rw [if_neg h2, if_neg (by walk_at "m_o")]
      · rintro loc' mt' ⟨rfl, rfl⟩
        refine LoopK.next (by with_reducible assumption) ?_
        refine ⟨_, _, .cons _ (.refl _), .refl _, rfl, ?_⟩
        rw [hstep]
        congr 4
        unfold knL
        apply List.map_congr_left
        intro r hr
        have hr := List.mem_range.mp hr
        unfold kStep
        rw [rangeItems_len]
        by_cases h2 : sc.st ≤ r ∧ (r : Int) ≤ sc.en
        · rw [if_pos (by walk_at "m_o"), if_pos ⟨hc, h2⟩]
        · rw [if_neg (by walk_at "m_o"), if_neg (fun h => h2 h.2)]
    · refine ExW.nil ?_; refine LoopK.next (by with_reducible assumption) ?_
      refine ⟨_, _, .cons _ (.refl _), .refl _, rfl, ?_⟩
      rw [hstep]
      congr 4
      unfold knL
      apply List.map_congr_left
      intro r hr
      unfold kStep
      rw [if_neg (fun h => by rw [hc] at h; exact absurd h.1 (by decide))]
  · rintro loc' mt' ⟨rfl, rfl⟩
    refine SeqK.next (by with_reducible assumption) ?_; refine ExW.last ?_; refine ExW.ret (TW.nameF (GF.kind (by with_reducible assumption)) (by walk_at "m_in") (by walk_at "m_rem") ?_); refine RetK.go (by with_reducible assumption) ?_
    exact RetW.ret ⟨by rw [List.length_map, List.take_length], rfl⟩ (.refl _)
end

-- C4
section
variable {w : World} {p : Program} {loose : List PySem.Str} {mg mb : PySem.Str → Option Value}
noncomputable def wts : List (List Int) := [[0, 0, 0, 1, 0, -1, 0, 0, 0], [0, 1, 0, 0, 0, 0, 0, -1, 0], [0, 1, 0, 0, -2, 0, 0, 1, 0], [1, 0, -1, 0, 0, 0, -1, 0, 1], [0, 0, 0, 1, -2, 1, 0, 0, 0]]
noncomputable def tI (ks : List Int) : D := .tup (iL ks)
noncomputable def patD : D := .tup [.tup [.int 1, .int 0, .int 32, .int 36, .tup [.int 0, .int 0, .int 0, .int 1, .int 0, .int (-1), .int 0, .int 0, .int 0]],
  .tup [.int 0, .int 1, .int 32, .int 36, .tup [.int 0, .int 1, .int 0, .int 0, .int 0, .int 0, .int 0, .int (-1), .int 0]],
  .tup [.int 0, .int 2, .int 0, .int 9, .tup [.int 0, .int 1, .int 0, .int 0, .int (-2), .int 0, .int 0, .int 1, .int 0]],
  .tup [.int 1, .int 1, .int 4, .int 5, .tup [.int 1, .int 0, .int (-1), .int 0, .int 0, .int 0, .int (-1), .int 0, .int 1]],
  .tup [.int 2, .int 0, .int 0, .int 9, .tup [.int 0, .int 0, .int 0, .int 1, .int (-2), .int 1, .int 0, .int 0, .int 0]]]
theorem all_cons {K : Frag} {a : Addr} {o : Obj} {L : Led} (h : K.lookup a = some o) (hL : ∀ q ∈ L, K.lookup q.1 = some q.2) : ∀ q ∈ (a, o) :: L, K.lookup q.1 = some q.2 := fun q hq => by
  rcases List.mem_cons.mp hq with rfl | hq
  · exact h
  · exact hL q hq
theorem pats_rep (P : Params) : ∃ L : Led, (∀ q ∈ L, (Mine.H.K P).lookup q.1 = some q.2) ∧ Rep P L patD (.ref 311) := by
  refine ⟨_, all_cons (a := 311) (by k_is) (all_cons (a := 302) (by k_is) (all_cons (a := 304) (by k_is) (all_cons (a := 306) (by k_is) (all_cons (a := 308) (by k_is) (all_cons (a := 310) (by k_is)
    (all_cons (a := 301) (by k_is) (all_cons (a := 303) (by k_is) (all_cons (a := 305) (by k_is) (all_cons (a := 307) (by k_is) (all_cons (a := 309) (by k_is) (L := []) (fun _ h => nomatch h))))))))))), ?_⟩
  refine ⟨311, _, _, rfl, by walk_at "m_in", ?_⟩
  iterate 5 refine ⟨_, _, rfl, ⟨_, _, _, rfl, by walk_at "m_in", ⟨_, _, rfl, ⟨_, rfl⟩, ⟨_, _, rfl, ⟨_, rfl⟩, ⟨_, _, rfl, ⟨_, rfl⟩, ⟨_, _, rfl, ⟨_, rfl⟩, ⟨_, _, rfl, ⟨_, _, _, rfl, by walk_at "m_in",
    ⟨_, _, rfl, ⟨_, rfl⟩, ⟨_, _, rfl, ⟨_, rfl⟩, ⟨_, _, rfl, ⟨_, rfl⟩, ⟨_, _, rfl, ⟨_, rfl⟩, ⟨_, _, rfl, ⟨_, rfl⟩, ⟨_, _, rfl, ⟨_, rfl⟩, ⟨_, _, rfl, ⟨_, rfl⟩, ⟨_, _, rfl, ⟨_, rfl⟩, ⟨_, _, rfl, ⟨_, rfl⟩, rfl⟩⟩⟩⟩⟩⟩⟩⟩⟩⟩, rfl⟩⟩⟩⟩⟩⟩, ?_⟩
  exact rfl
theorem pats_ok {n : Nat} {f : Fm} {S : Scope} {loc : Lc} {mt : Mt} {pos : Pos} {Φ : D → Mt → Prop} (G : GF f S) (hx : S.names.lookup ("PATTERNS" : PySem.Str) = some NameKind.globalImplicit) (h : Φ patD mt) : TW (cx w p loose mg mb) n f (eval (.Name "PATTERNS" pos) f.env) loc mt Φ := by
  obtain ⟨L, h1, h2⟩ := pats_rep w.params
  exact TW.top L G hx (by walk_at "m_k") h1 h2 h
noncomputable def zLow (n total : Int) : Int := max 0 (total - n + 1)
noncomputable def zHigh (n total : Int) : Int := min total (n - 1)
noncomputable def zRows (n total : Int) : List Int := (List.range (zHigh n total + 1 - zLow n total).toNat).map fun (i : Nat) => if total % 2 = 1 then zLow n total + i else zHigh n total - i
noncomputable def zRow (n total : Int) : List Int := (zRows n total).map fun y => y * n + total - y
noncomputable def zTo (n : Int) (i : Nat) : List Int := ((List.range i).map fun (t : Nat) => zRow n t).flatten
theorem zTo_succ (n : Int) (i : Nat) : zTo n (i + 1) = zTo n i ++ zRow n i := by simp [zTo, List.range_succ]
theorem iL_append (a b : List Int) : iL (a ++ b) = iL a ++ iL b := by simp [iL]
noncomputable def zAll (n : Int) : List Int := zTo n (2 * n - 1).toNat
theorem app_step {A R : List Int} {g : Int → Int} {j : Nat} {r x : Int} (h : R[j]? = some r) (hx : x = g r) : iL (A ++ (R.take j).map g) ++ [D.int x] = iL (A ++ (R.take (j + 1)).map g) := by
  rw [List.take_add_one, h, hx]
  simp [iL]
theorem zRows_len (k t : Int) (hk : k ≤ 4) (hk' : 0 < k) (ht : 0 ≤ t) : (zRows k t).length ≤ 4 := by
  unfold zRows zLow zHigh
  simp only [List.length_map, List.length_range]
  omega
theorem zTo_len (k : Int) (hk : k ≤ 4) (hk' : 0 < k) : ∀ i : Nat, (zTo k i).length ≤ 4 * i
  | 0 => by simp [zTo]
  | i + 1 => by
    have h1 := zTo_len k hk hk' i
    have h2 := zRows_len k i hk hk' (by walk_at "m_o")
    rw [zTo_succ, List.length_append]
    unfold zRow
    rw [List.length_map]
    omega
theorem zRows_get {k t : Int} {j : Nat} (hj : j < (zHigh k t + 1 - zLow k t).toNat) : (zRows k t)[j]? = some (if t % 2 = 1 then zLow k t + j else zHigh k t - j) := by
  unfold zRows
  simp [hj]
theorem zig_ok {n : Nat} {mt : Mt} {k : Int} (hk : Side k) : CallW (cx w p loose mg mb) (n + 1) (.ref 68) [.int k] mt (fun d mt' => d = tI (zAll k) ∧ mt = mt') := by
  obtain ⟨kl, kh, kk1, kk2⟩ := hk.bd
  walk_at "m_def"
  intro f gf
  refine fun _ _ => ?_; refine ExW.consO fun _ _ => ?_; refine ExW.assign (by with_reducible assumption) (by walk_at "m_sto") (TW.listM ?_); refine AW.ev (by walk_at "el") ?_; refine ⟨by walk_at "m_len", fun _ => ?_⟩; refine ⟨_, by walk_at "m_set", ?_⟩; refine SeqK.next (by with_reducible assumption) ?_; refine ExW.consO fun _ _ => ?_; refine ExW.forQ ?_; refine TW.callT (by with_reducible assumption) rfl (by walk_at "m_k") (by boot_by_name) ?_; refine AW.ev (by walk_at "el") ?_; refine CallB.range1 ?_
  rename_i a _ _
  refine ⟨_, fun i loc mt' => Inv loc mt' [("found", .ref a), ("n", .int k)] ((a, .lst (iL (zTo k i))) :: mt), .upto (2 * k - 1).toNat (by walk_at "m_o") (by walk_at "m_o") (by walk_at "m_o"), ⟨rfl, rfl⟩, ?_, ?_⟩
  · rintro i d' loc' mt' hi ⟨rfl, rfl⟩
    obtain ⟨hi1, rfl⟩ := rangeItems_get0 hi
    refine fun _ _ => ?_; refine AsW.name (by with_reducible assumption) (by walk_at "m_sto") ⟨_, by walk_at "m_set", ?_⟩; refine ExW.consO fun _ _ => ?_; refine ExW.assign (by with_reducible assumption) (by walk_at "m_sto") ?_; refine TW.callB (by with_reducible assumption) rfl (by walk_at "m_k") (by boot_by_name) ?_; refine AW.ev (by walk_at "el") ?_; refine CallB.max ?_; refine ⟨_, by walk_at "m_set", ?_⟩; refine SeqK.next (by with_reducible assumption) ?_; refine ExW.consO fun _ _ => ?_; refine ExW.assign (by with_reducible assumption) (by walk_at "m_sto") ?_; refine TW.callB (by with_reducible assumption) rfl (by walk_at "m_k") (by boot_by_name) ?_; refine AW.ev (by walk_at "el") ?_; refine CallB.min ?_; refine ⟨_, by walk_at "m_set", ?_⟩; refine SeqK.next (by with_reducible assumption) ?_; refine ExW.consO fun _ _ => ?_; refine ExW.assign (by with_reducible assumption) (by walk_at "m_sto") ?_; refine TW.ifexp ?_; refine BW.cmp (by walk_at "e") (by walk_at "e") (by walk_at "e_op") ?_
    have small : ∀ j, (iL (zTo k i ++ ((zRows k i).take j).map fun y => y * k + i - y)).length ≤ 1000 := fun j => by
      have h1 := zTo_len k (by walk_at "m_o") (by walk_at "m_o") i
      have h2 := zRows_len k i (by walk_at "m_o") (by walk_at "m_o") (by walk_at "m_o")
      simp only [iL, List.length_map, List.length_append, List.length_take]
      omega
    have whole : zTo k i ++ ((zRows k i).take (zHigh k i + 1 - zLow k i).toNat).map (fun y => y * k + i - y) = zTo k (i + 1) := by
      rw [zTo_succ, List.take_of_length_le (by unfold zRows; simp)]; rfl
    refine ⟨fun hc => ?_, fun hc => ?_⟩
    · simp only [beq_iff_eq] at hc
      refine TW.callT (by with_reducible assumption) rfl (by walk_at "m_k") (by boot_by_name) ?_; refine AW.ev (by walk_at "el") ?_; refine CallB.range2 ?_; refine ⟨_, by walk_at "m_set", ?_⟩; refine SeqK.next (by with_reducible assumption) ?_; refine ExW.last ?_; refine ExW.forQ ?_; refine TW.ev (by walk_at "e") ?_
      refine ⟨_, fun j loc mt' => Inv loc mt' [("rows", .range (zLow k i) (zHigh k i + 1) 1), ("high", .int (zHigh k i)), ("low", .int (zLow k i)), ("total", .int i), ("found", .ref a), ("n", .int k)] ((a, .lst (iL (zTo k i ++ ((zRows k i).take j).map fun y => y * k + i - y))) :: mt),
        .upto (zHigh k i + 1 - zLow k i).toNat (by unfold zLow zHigh; omega) (by walk_at "m_o") (by walk_at "m_o"), ⟨rfl, by simp⟩, ?_, ?_⟩
      · rintro j d' loc' mt' hj ⟨rfl, rfl⟩
        obtain ⟨hj1, rfl⟩ := rangeItems_get1 hj
        refine fun _ _ => ?_; refine AsW.name (by with_reducible assumption) (by walk_at "m_sto") ⟨_, by walk_at "m_set", ?_⟩; refine ExW.last ?_; refine ExW.expr (by with_reducible assumption) ?_; refine TW.appendP ?_; refine TW.ev (by walk_at "e") ?_; refine AppO.mk (by first | walk_at "m_in" | exact At.mem (by assumption) | exact At.mem (At.re (by assumption) _)) ?_; refine TW.ev (by walk_at "e") ?_
        refine AppE.mk (by walk_at "m_atq") (small j) ?_
        refine ⟨rfl, ?_⟩; refine LoopK.next (by with_reducible assumption) ?_
        walk_at "m_less"
        rw [app_step (zRows_get hj1) (by rw [if_pos hc]; rfl)]
      · rintro loc' mt' ⟨rfl, rfl⟩
        refine LoopK.next (by with_reducible assumption) ?_
        walk_at "m_less"
        rw [rangeItems_len, whole]
    · simp only [beq_eq_false_iff_ne] at hc
      refine TW.callT (by with_reducible assumption) rfl (by walk_at "m_k") (by boot_by_name) ?_; refine AW.ev (by walk_at "el") ?_
      refine CallB.range3 (by walk_at "m_o") (PyProof.noPylong_small (by walk_at "m_o")) ?_
      refine ⟨_, by walk_at "m_set", ?_⟩; refine SeqK.next (by with_reducible assumption) ?_; refine ExW.last ?_; refine ExW.forQ ?_; refine TW.ev (by walk_at "e") ?_
      refine ⟨_, fun j loc mt' => Inv loc mt' [("rows", .range (zHigh k i) (zLow k i - 1) (-1)), ("high", .int (zHigh k i)), ("low", .int (zLow k i)), ("total", .int i), ("found", .ref a), ("n", .int k)] ((a, .lst (iL (zTo k i ++ ((zRows k i).take j).map fun y => y * k + i - y))) :: mt),
        .down (zHigh k i + 1 - zLow k i).toNat (by unfold zLow zHigh; omega) (by walk_at "m_o") (by walk_at "m_o"), ⟨rfl, by simp⟩, ?_, ?_⟩
      · rintro j d' loc' mt' hj ⟨rfl, rfl⟩
        obtain ⟨hj1, rfl⟩ := rangeItems_getM hj
        refine fun _ _ => ?_; refine AsW.name (by with_reducible assumption) (by walk_at "m_sto") ⟨_, by walk_at "m_set", ?_⟩; refine ExW.last ?_; refine ExW.expr (by with_reducible assumption) ?_; refine TW.appendP ?_; refine TW.ev (by walk_at "e") ?_; refine AppO.mk (by first | walk_at "m_in" | exact At.mem (by assumption) | exact At.mem (At.re (by assumption) _)) ?_; refine TW.ev (by walk_at "e") ?_
        refine AppE.mk (by walk_at "m_atq") (small j) ?_
        refine ⟨rfl, ?_⟩; refine LoopK.next (by with_reducible assumption) ?_
        walk_at "m_less"
        rw [app_step (zRows_get hj1) (by rw [if_neg hc]; rfl)]
      · rintro loc' mt' ⟨rfl, rfl⟩
        refine LoopK.next (by with_reducible assumption) ?_
        walk_at "m_less"
        rw [rangeItems_len, whole]
  · rintro loc' mt' ⟨rfl, rfl⟩
    refine SeqK.next (by with_reducible assumption) ?_; refine ExW.last ?_; refine ExW.ret ?_; refine TW.callT (by with_reducible assumption) rfl (by walk_at "m_k") (by boot_by_name) ?_; refine AW.ev (by walk_at "el") ?_
    refine CallB.tuple (by walk_at "m_lst") (by have := zTo_len k (by walk_at "m_o") (by walk_at "m_o") (2 * k - 1).toNat; simp only [rangeItems_len, iL, List.length_map]; omega) ?_
    refine RetK.go (by with_reducible assumption) ?_
    exact RetW.ret ⟨by rw [rangeItems_len]; rfl, rfl⟩ (.cons _ (.refl _))
theorem order_ok {n : Nat} {mt : Mt} {k : Int} (hk : Side k) : CallW (cx w p loose mg mb) (n + 2) (.ref 293) [.int k] mt (fun d mt' => d = tI (zAll k) ∧ mt = mt') := by
  obtain ⟨kl, kh, kk1, kk2⟩ := hk.bd
  walk_at "m_def"
  intro f gf
  refine fun _ _ => ?_; refine ExW.last ?_; refine ExW.ret ?_; refine TW.ifexp ?_; refine BW.cmp (by walk_at "e") (by walk_at "e") (by walk_at "e_op") ?_
  refine ⟨fun hc => absurd hc (by rw [beq_iff_eq]; omega), fun hc => ?_⟩
  refine TW.call (by with_reducible assumption) rfl (by walk_at "m_k") (by walk_at "m_k") ?_; refine AW.ev (by walk_at "el") ?_
  refine (zig_ok hk).mono ?_
  rintro d mt' ⟨rfl, rfl⟩
  refine RetK.go (by with_reducible assumption) ?_
  exact RetW.ret ⟨rfl, rfl⟩ (.refl _)
noncomputable def rankTo (k : Int) (i : Nat) : List Int := (List.range i).foldl (fun l j => l.set ((zAll k).getD j 0).toNat j) (List.replicate (k * k).toNat 0)
noncomputable def rankL (k : Int) : List Int := rankTo k (zAll k).length
theorem zAll_ok {k : Int} (hk : Side k) : (zAll k).length = (k * k).toNat ∧ ∀ x ∈ zAll k, 0 ≤ x ∧ x < k * k := by
  rcases hk with rfl | rfl | rfl <;> decide
theorem rankTo_len (k : Int) (i : Nat) : (rankTo k i).length = (k * k).toNat := by
  unfold rankTo
  induction i with
  | zero => simp
  | succ i ih => rw [List.range_succ, List.foldl_append]; simpa using ih
theorem rep_zero (m : Nat) : (List.replicate m [D.int 0]).flatten = iL (List.replicate m 0) := by
  induction m with
  | zero => rfl
  | succ m ih => rw [List.replicate_succ, List.flatten_cons, ih]; rfl
theorem iL_set (l : List Int) (i : Nat) (v : Int) : (iL l).set i (.int v) = iL (l.set i v) := by simp [iL]
theorem ranks_ok {n : Nat} {mt : Mt} {k : Int} (hk : Side k) : CallW (cx w p loose mg mb) (n + 3) (.ref 300) [.int k] mt (fun d mt' => d = tI (rankL k) ∧ mt = mt') := by
  obtain ⟨kl, kh, kk1, kk2⟩ := hk.bd
  walk_at "m_def"
  intro f gf
  refine fun _ _ => ?_; refine ExW.consO fun _ _ => ?_; refine ExW.assign (by with_reducible assumption) (by walk_at "m_sto") ?_; refine TW.binop ?_; refine TW.list ?_; refine AW.ev (by walk_at "el") ?_; refine ⟨by walk_at "m_len", ?_⟩; refine TW.ev (by walk_at "e") ?_
  obtain ⟨z1, z2⟩ := zAll_ok hk
  refine T2.timesM (by walk_at "m_lst") (by walk_at "m_o") (by simp; omega) (by walk_at "m_o") fun a => ?_
  rw [rep_zero]
  refine ⟨_, by walk_at "m_set", ?_⟩; refine SeqK.next (by with_reducible assumption) ?_; refine ExW.consO fun _ _ => ?_; refine ExW.assignV (by with_reducible assumption) (by walk_at "m_sto") (by walk_at "e") (by walk_at "m_set") ?_; refine SeqK.next (by with_reducible assumption) ?_; refine ExW.consO fun _ _ => ?_; refine ExW.forQ ?_; refine TW.call (by with_reducible assumption) rfl (by walk_at "m_k") (by walk_at "m_k") ?_; refine AW.ev (by walk_at "el") ?_
  refine (order_ok hk).mono ?_
  rintro d mt' ⟨rfl, rfl⟩
  refine ⟨_, fun i loc mt' => Inv loc mt' [("rank", .int i), ("found", .ref a), ("n", .int k)] ((a, .lst (iL (rankTo k i))) :: mt), .tup _, ⟨rfl, rfl⟩, ?_, ?_⟩
  · rintro i d' loc' mt' hi ⟨rfl, rfl⟩
    unfold iL at hi
    rw [List.getElem?_map] at hi
    obtain ⟨x, hx, rfl⟩ := Option.map_eq_some_iff.mp hi
    have hx' := z2 x (List.mem_of_getElem? hx)
    have hl := rankTo_len k i
    refine fun _ _ => ?_; refine AsW.name (by with_reducible assumption) (by walk_at "m_sto") ⟨_, by walk_at "m_set", ?_⟩; refine ExW.consO fun _ _ => ?_; refine ExW.setE (by walk_at "e") (by walk_at "e") (by walk_at "e") ?_; refine PutW.mk (by walk_at "m_atq") (by walk_at "m_o") (by walk_at "m_len") (by walk_at "m_o") ?_; refine SeqK.next (by with_reducible assumption) ?_; refine ExW.last ?_; refine ExW.augE (by with_reducible assumption) (by walk_at "m_sto") (by walk_at "m_in") (by walk_at "e") (by exact E2.iadd) (by walk_at "m_set") ?_; refine LoopK.next (by with_reducible assumption) ?_
    walk_at "m_less"
    rw [iL_set]
    congr 4
    unfold rankTo
    rw [List.range_succ, List.foldl_append]
    simp [hx]
  · rintro loc' mt' ⟨rfl, rfl⟩
    refine SeqK.next (by with_reducible assumption) ?_; refine ExW.last ?_; refine ExW.ret ?_; refine TW.callT (by with_reducible assumption) rfl (by walk_at "m_k") (by boot_by_name) ?_; refine AW.ev (by walk_at "el") ?_
    have hl := rankTo_len k (zAll k).length
    refine CallB.tuple (by walk_at "m_lst") (by simp [iL]; omega) ?_
    refine RetK.go (by with_reducible assumption) ?_
    exact RetW.ret ⟨by simp [iL, rankL, tI], rfl⟩ (.cons _ (.refl _))
noncomputable def gR (k : Int) : List (Option Int) := if k = 2 then [some 1, some 2, none, some 3, none] else [some 1, some 2, some 3, some 4, some 5]
noncomputable def oD : Option Int → D
  | some i => .int i
  | none => .none
noncomputable def acr (i : Nat) : Int := [1, 0, 0, 1, 2].getD i 0
noncomputable def dwn (i : Nat) : Int := [0, 1, 2, 1, 0].getD i 0
noncomputable def few (i : Nat) : Int := [32, 32, 0, 4, 0].getD i 0
noncomputable def mny (i : Nat) : Int := [36, 36, 9, 5, 9].getD i 0
noncomputable def wtI (i : Nat) : List Int := wts.getD i []
noncomputable def patI (i : Nat) : D := .tup [.int (acr i), .int (dwn i), .int (few i), .int (mny i), tI (wtI i)]
theorem patD_eq : patD = .tup ((List.range 5).map patI) := rfl
theorem gR_step {k : Int} (hk : Side k) {i : Nat} (hi : i < 5) : (gR k)[i]? = some (if acr i < k ∧ dwn i < k then some ((rankL k).getD (dwn i * k + acr i).toNat 0) else none) := by
  rcases hk with rfl | rfl | rfl <;> (match i, hi with | 0, _ => decide | 1, _ => decide | 2, _ => decide | 3, _ => decide | 4, _ => decide)
theorem small_pat {i : Nat} (hi : i < 5) : 0 ≤ acr i ∧ acr i ≤ 2 ∧ 0 ≤ dwn i ∧ dwn i ≤ 2 := by
  match i, hi with | 0, _ => decide | 1, _ => decide | 2, _ => decide | 3, _ => decide | 4, _ => decide
theorem gR_len (k : Int) : (gR k).length = 5 := by unfold gR; split <;> rfl
theorem idx_ok {k : Int} (hk : Side k) {i : Nat} (hi : i < 5) (h1 : acr i < k) (h2 : dwn i < k) : 0 ≤ dwn i * k + acr i ∧ dwn i * k + acr i < 16 ∧ (iL (rankL k))[(dwn i * k + acr i).toNat]? = some (.int ((rankL k).getD (dwn i * k + acr i).toNat 0)) := by
  have hl : (rankL k).length = (k * k).toNat := rankTo_len k _
  obtain ⟨kl, kh, kk1, kk2⟩ := hk.bd
  have h3 : 0 ≤ dwn i * k + acr i ∧ dwn i * k + acr i < k * k ∧ k * k ≤ 16 := by
    obtain ⟨s1, s2, s3, s4⟩ := small_pat hi
    have e1 : dwn i * k ≤ (k - 1) * k := Int.mul_le_mul_of_nonneg_right (by walk_at "m_o") (by walk_at "m_o")
    have e2 : (k - 1) * k = k * k - k := by rw [Int.sub_mul, Int.one_mul]
    have e3 : 0 ≤ dwn i * k := Int.mul_nonneg s3 (by walk_at "m_o")
    omega
  refine ⟨h3.1, by omega, ?_⟩
  unfold iL
  rw [List.getElem?_map]
  have h4 : (dwn i * k + acr i).toNat < (rankL k).length := by omega
  rw [List.getElem?_eq_getElem h4]
  simp [List.getD, h4]
theorem granks_ok {n : Nat} {mt : Mt} {k : Int} (hk : Side k) : CallW (cx w p loose mg mb) (n + 4) (.ref 325) [.int k] mt (fun d mt' => d = .list ((gR k).map oD) ∧ mt = mt') := by
  obtain ⟨kl, kh, kk1, kk2⟩ := hk.bd
  walk_at "m_def"
  intro f gf
  refine fun _ _ => ?_; refine ExW.consO fun _ _ => ?_; refine ExW.assign (by with_reducible assumption) (by walk_at "m_sto") ?_; refine TW.call (by with_reducible assumption) rfl (by walk_at "m_k") (by walk_at "m_k") ?_; refine AW.ev (by walk_at "el") ?_
  refine (ranks_ok hk).mono ?_
  rintro d mt' ⟨rfl, rfl⟩
  refine ⟨_, by walk_at "m_set", ?_⟩; refine SeqK.next (by with_reducible assumption) ?_; refine ExW.consO fun _ _ => ?_; refine ExW.assign (by with_reducible assumption) (by walk_at "m_sto") (TW.listM ?_); refine AW.ev (by walk_at "el") ?_; refine ⟨by walk_at "m_len", fun _ => ?_⟩; refine ⟨_, by walk_at "m_set", ?_⟩; refine SeqK.next (by with_reducible assumption) ?_; refine ExW.consO fun _ _ => ?_; refine ExW.forQ ?_
  rename_i a _ _
  refine pats_ok gf rfl ?_
  rw [patD_eq]
  refine ⟨_, fun i loc mt' => Inv loc mt' [("found", .ref a), ("told", tI (rankL k)), ("n", .int k)] ((a, .lst (((gR k).take i).map oD)) :: mt), .tup _, ⟨rfl, rfl⟩, ?_, ?_⟩
  · rintro i d' loc' mt' hi ⟨rfl, rfl⟩
    rw [List.getElem?_map] at hi
    obtain ⟨x, hx, rfl⟩ := Option.map_eq_some_iff.mp hi
    obtain ⟨hi5, hx⟩ := List.getElem?_eq_some_iff.mp hx
    rw [List.getElem_range] at hx
    subst hx
    have hi5 : i < 5 := by simpa using hi5
    have gs := gR_step hk hi5
    obtain ⟨s1, s2, s3, s4⟩ := small_pat hi5
    have fin : ∀ d, (gR k)[i]?.map oD = some d → (((gR k).take i).map oD) ++ [d] = (((gR k).take (i + 1)).map oD) := fun d e => by
      rw [List.take_add_one]
      cases q : (gR k)[i]? with
      | none => rw [q] at e; cases e
      | some y => rw [q] at e; cases e; simp
    refine fun _ _ => ?_; refine AsW.tuple (by with_reducible assumption) (by walk_at "m_names") (Sto.all (by rfl)) (by walk_at "m_seq") (by rfl) ⟨_, by walk_at "m_sets", ?_⟩; refine ExW.last ?_; refine ExW.expr (by with_reducible assumption) ?_; refine TW.appendP ?_; refine TW.ev (by walk_at "e") ?_; refine AppO.mk (by first | walk_at "m_in" | exact At.mem (by assumption) | exact At.mem (At.re (by assumption) _)) ?_; refine TW.ifexp ?_; refine BW.and ?_; refine BW.cmp (by walk_at "e") (by walk_at "e") (by walk_at "e_op") ?_
    refine ⟨fun hc => ?_, fun hc => ?_⟩ <;> simp only [decide_eq_true_eq, decide_eq_false_iff_not] at hc
    · refine BW.and ?_; refine BW.cmp (by walk_at "e") (by walk_at "e") (by walk_at "e_op") ?_
      refine ⟨fun hd => ?_, fun hd => ?_⟩ <;> simp only [decide_eq_true_eq, decide_eq_false_iff_not] at hd
      · refine BW.and_nil ?_
        refine ⟨fun _ => ?_, (fun h => nomatch h)⟩
        obtain ⟨x1, x2, x3⟩ := idx_ok hk hi5 hc hd
        refine TW.sub ?_; refine TW.ev (by walk_at "e") ?_; refine TW.ev (by walk_at "e") ?_
        refine T2.item (.tup _) x1 (by walk_at "m_o") x3 ?_
        refine AppE.mk (by walk_at "m_atq") (by walk_at "m_len") ?_; refine ⟨rfl, ?_⟩; refine LoopK.next (by with_reducible assumption) ?_
        walk_at "m_less"
        rw [fin _ (by rw [gs, if_pos ⟨hc, hd⟩]; rfl)]
      · refine ⟨(fun h => nomatch h), fun _ => ?_⟩
        refine TW.ev (by walk_at "e") ?_; refine AppE.mk (by walk_at "m_atq") (by walk_at "m_len") ?_; refine ⟨rfl, ?_⟩; refine LoopK.next (by with_reducible assumption) ?_
        walk_at "m_less"
        rw [fin _ (by rw [gs, if_neg (fun h => hd h.2)]; rfl)]
    · skip
      refine ⟨(fun h => nomatch h), fun _ => ?_⟩
      refine TW.ev (by walk_at "e") ?_; refine AppE.mk (by walk_at "m_atq") (by walk_at "m_len") ?_; refine ⟨rfl, ?_⟩; refine LoopK.next (by with_reducible assumption) ?_
      walk_at "m_less"
      rw [fin _ (by rw [gs, if_neg (fun h => hc h.1)]; rfl)]
  · rintro loc' mt' ⟨rfl, rfl⟩
    refine SeqK.next (by with_reducible assumption) ?_; refine ExW.last ?_; refine ExW.ret (TW.nameF (GF.kind (by with_reducible assumption)) (by walk_at "m_in") (by walk_at "m_rem") ?_); refine RetK.go (by with_reducible assumption) ?_
    exact RetW.ret ⟨by simp [gR_len, List.take_of_length_le], rfl⟩ (.refl _)
end

-- C5
section
variable {w : World} {p : Program} {loose : List PySem.Str} {mg mb : PySem.Str → Option Value}
noncomputable def nz (kn : List Int) : Option Int → Bool
  | some r => kn.getD r.toNat 0 != 0
  | none => false
noncomputable def worthI (kn : List Int) (k : Int) : Bool := !(kn.getD 0 0 == -1) && (gR k).any (nz kn)
theorem gR_ok {k : Int} (hk : Side k) : ∀ (i : Nat) (r : Int), (gR k)[i]? = some (some r) → 0 < r ∧ r < k * k := by
  intro i r h
  have h := List.mem_of_getElem? h
  rcases hk with rfl | rfl | rfl <;> (have h : some r ∈ ([_, _, _, _, _] : List (Option Int)) := h; simp at h; omega)
theorem worth_ok {n : Nat} {mt : Mt} {k : Int} {kn : List Int} (hk : Side k) (hl : (kn.length : Int) = k * k) : CallW (cx w p loose mg mb) (n + 5) (.ref 332) [.list (iL kn), .int k] mt (fun d mt' => d = .bool (worthI kn k) ∧ mt = mt') := by
  obtain ⟨kl, kh, kk1, kk2⟩ := hk.bd
  walk_at "m_def"
  intro f gf
  refine fun _ _ => ?_; refine ExW.consO fun _ _ => ?_; refine ExW.if_ ?_; refine BW.cmp (by walk_at "e") (by walk_at "e") (by walk_at "e_op") ?_
  refine ⟨fun hc => ?_, fun hc => ?_⟩
  · refine ExW.last ?_; refine ExW.retE (by walk_at "e") ?_; refine SeqK.ret (by with_reducible assumption) ?_; refine RetK.go (by with_reducible assumption) ?_
    exact RetW.ret ⟨by unfold worthI; rw [show kn.getD 0 0 = kn.getD (Int.toNat 0) 0 from rfl, hc]; rfl, rfl⟩ (.refl _)
  · refine ExW.nil ?_; refine SeqK.next (by with_reducible assumption) ?_; refine ExW.consO fun _ _ => ?_; refine ExW.forQ ?_; refine TW.call (by with_reducible assumption) rfl (by walk_at "m_k") (by walk_at "m_k") ?_; refine AW.ev (by walk_at "el") ?_
    refine (granks_ok hk).mono ?_
    rintro d mt' ⟨rfl, rfl⟩
    refine ⟨_, fun i loc mt' => Inv loc mt' [("known", .list (iL kn)), ("n", .int k)] mt ∧ ((gR k).take i).any (nz kn) = false, .list _, ⟨⟨rfl, rfl⟩, rfl⟩, ?_, ?_⟩
    · rintro i d' loc' mt' hi ⟨⟨rfl, rfl⟩, hw⟩
      rw [List.getElem?_map] at hi
      obtain ⟨x, hx, rfl⟩ := Option.map_eq_some_iff.mp hi
      have nxt : ((gR k).take (i + 1)).any (nz kn) = (nz kn x) := by
        rw [List.take_add_one, List.any_append, hw, hx]; simp
      cases x with
      | none =>
        unfold oD
        refine fun _ _ => ?_; refine AsW.name (by with_reducible assumption) (by walk_at "m_sto") ⟨_, by walk_at "m_set", ?_⟩; refine ExW.last ?_; refine ExW.if_ ?_; refine BW.and ?_; refine BW.cmp (by walk_at "e") (by walk_at "e") (by walk_at "e_op") ?_
        refine ⟨(fun h => nomatch h), fun _ => ?_⟩
        refine ⟨(fun h => nomatch h), fun _ => ?_⟩
        refine ExW.nil ?_; refine LoopK.next (by with_reducible assumption) ?_
        exact ⟨_, _, .cons _ (.refl _), .refl _, ⟨rfl, rfl⟩, nxt⟩
      | some r =>
        have hr := gR_ok hk i r hx
        unfold oD
        refine fun _ _ => ?_; refine AsW.name (by with_reducible assumption) (by walk_at "m_sto") ⟨_, by walk_at "m_set", ?_⟩; refine ExW.last ?_; refine ExW.if_ ?_; refine BW.and ?_; refine BW.cmp (by walk_at "e") (by walk_at "e") (by walk_at "e_op") ?_
        refine ⟨fun _ => ?_, (fun h => nomatch h)⟩
        refine BW.and ?_; refine BW.cmp (by walk_at "e") (by walk_at "e") (by walk_at "e_op") ?_
        refine ⟨fun hd => ?_, fun hd => ?_⟩
        · refine BW.and_nil ?_
          refine ⟨fun _ => ?_, (fun h => nomatch h)⟩
          refine ExW.last ?_; refine ExW.retE (by walk_at "e") ?_; refine LoopK.ret (by with_reducible assumption) ?_; refine SeqK.ret (by with_reducible assumption) ?_; refine RetK.go (by with_reducible assumption) ?_
          refine RetW.ret ⟨?_, rfl⟩ (.refl _)
          have : (gR k).any (nz kn) = true := List.any_eq_true.mpr ⟨some r, List.mem_of_getElem? hx, hd⟩
          unfold worthI
          rw [this, show kn.getD 0 0 = kn.getD (Int.toNat 0) 0 from rfl, hc]; rfl
        · refine ⟨(fun h => nomatch h), fun _ => ?_⟩
          refine ExW.nil ?_; refine LoopK.next (by with_reducible assumption) ?_
          exact ⟨_, _, .cons _ (.refl _), .refl _, ⟨rfl, rfl⟩, nxt.trans hd⟩
    · rintro loc' mt' ⟨⟨rfl, rfl⟩, hw⟩
      refine SeqK.next (by with_reducible assumption) ?_; refine ExW.last ?_; refine ExW.retE (by walk_at "e") ?_; refine RetK.go (by with_reducible assumption) ?_
      refine RetW.ret ⟨?_, rfl⟩ (.refl _)
      rw [List.length_map, List.take_length] at hw
      unfold worthI
      rw [hw, Bool.and_false]
end

-- C6
section
variable {w : World} {p : Program} {loose : List PySem.Str} {mg mb : PySem.Str → Option Value}
noncomputable def weighedI (ws ns : List Int) : Int := (List.zipWith (· * ·) ws ns).sum
noncomputable def smMul (k : Int) (i : Nat) : Int := if 2 < k then mny i else few i
noncomputable def smStep (row nine q kn : List Int) (k : Int) (found : List Int) (i : Nat) : List Int := match (gR k).getD i none with
  | some r => if kn.getD r.toNat 0 ≠ 0 ∧ row.getD r.toNat 0 = 0 then found.set r.toNat (guessedI (smMul k i * q.getD 0 0 * weighedI (wtI i) nine) (q.getD r.toNat 0) (kn.getD r.toNat 0)) else found
  | none => found
noncomputable def smTo (row nine q kn : List Int) (k : Int) (i : Nat) : List Int := (List.range i).foldl (smStep row nine q kn k) row
noncomputable def smRow (row nine q kn : List Int) (k : Int) : List Int := smTo row nine q kn k 5
structure RowOk (row nine q kn : List Int) (k : Int) : Prop where
  hk : Side k
  rowL : (row.length : Int) = k * k
  qL : (q.length : Int) = k * k
  knL : (kn.length : Int) = k * k
  nineL : nine.length = 9
  n1 : ∀ x ∈ nine, -1000 ≤ x ∧ x ≤ 1000
  q1 : ∀ x ∈ q, 1 ≤ x ∧ x ≤ 256
  kn1 : ∀ x ∈ kn, -1 ≤ x ∧ x ≤ 3
theorem sum_bound (B : Nat) : ∀ l : List Int, (∀ x ∈ l, x.natAbs ≤ B) → l.sum.natAbs ≤ B * l.length
  | [], _ => by simp
  | x :: l, h => by
    have h1 := h x (.head _)
    have h2 := sum_bound B l fun y hy => h y (.tail _ hy)
    rw [List.sum_cons, List.length_cons, Nat.mul_succ]
    omega
theorem wtI_ok {i : Nat} (hi : i < 5) : (wtI i).length = 9 ∧ (∀ x ∈ wtI i, x.natAbs ≤ 2) ∧ 0 ≤ few i ∧ few i ≤ 36 ∧ 0 ≤ mny i ∧ mny i ≤ 36 := by
  match i, hi with | 0, _ => decide | 1, _ => decide | 2, _ => decide | 3, _ => decide | 4, _ => decide
theorem zip_mem {ws ns : List Int} : ∀ x ∈ List.zipWith (· * ·) ws ns, ∃ a ∈ ws, ∃ b ∈ ns, x = a * b := by
  induction ws generalizing ns with
  | nil => intro x hx; simp at hx
  | cons a ws ih =>
    cases ns with
    | nil => intro x hx; simp at hx
    | cons b ns =>
      intro x hx
      rw [List.zipWith_cons_cons] at hx
      rcases List.mem_cons.mp hx with rfl | hx
      · exact ⟨a, .head _, b, .head _, rfl⟩
      · obtain ⟨c, h1, d, h2, h3⟩ := ih x hx
        exact ⟨c, .tail _ h1, d, .tail _ h2, h3⟩
theorem weighed_small {i : Nat} (hi : i < 5) {nine : List Int} (h9 : nine.length = 9) (hn : ∀ x ∈ nine, -1000 ≤ x ∧ x ≤ 1000) : (weighedI (wtI i) nine).natAbs ≤ 18000 := by
  obtain ⟨h1, h2, _⟩ := wtI_ok hi
  have := sum_bound 2000 (List.zipWith (· * ·) (wtI i) nine) fun x hx => by
    obtain ⟨a, ha, b, hb, rfl⟩ := zip_mem x hx
    rw [Int.natAbs_mul]
    have e1 := h2 a ha
    have e2 := hn b hb
    calc a.natAbs * b.natAbs ≤ 2 * 1000 := Nat.mul_le_mul e1 (by walk_at "m_o")
      _ = 2000 := rfl
  rw [List.length_zipWith, h1, h9] at this
  exact this
theorem num_small {a b c : Int} (ha : a.natAbs ≤ 36) (hb : b.natAbs ≤ 256) (hc : c.natAbs ≤ 18000) : -1000000000000 < a * b * c ∧ a * b * c < 1000000000000 := by
  have : (a * b * c).natAbs ≤ 36 * 256 * 18000 := by
    rw [Int.natAbs_mul, Int.natAbs_mul]
    exact Nat.mul_le_mul (Nat.mul_le_mul ha hb) hc
  omega
theorem smTo_len (row nine q kn : List Int) (k : Int) (i : Nat) : (smTo row nine q kn k i).length = row.length := by
  unfold smTo
  induction i with
  | zero => rfl
  | succ i ih =>
    rw [List.range_succ, List.foldl_append, List.foldl_cons, List.foldl_nil]
    unfold smStep
    split
    · split
      · rw [List.length_set]; exact ih
      · exact ih
    · exact ih
theorem smTo_succ (row nine q kn : List Int) (k : Int) (i : Nat) : smTo row nine q kn k (i + 1) = smStep row nine q kn k (smTo row nine q kn k i) i := by
  unfold smTo
  rw [List.range_succ, List.foldl_append, List.foldl_cons, List.foldl_nil]
theorem weighed_ok {n : Nat} {mt : Mt} {ws ns : List Int} (h1 : ws.length = 9) (h2 : ns.length = 9) (h3 : ∀ x ∈ ws, x.natAbs ≤ 2) : CallW (cx w p loose mg mb) (n + 1) (.ref 344) [tI ws, .list (iL ns)] mt (fun d mt' => d = .int (weighedI ws ns) ∧ mt = mt') := by
  walk_at "m_def"
  intro f gf
  refine fun _ _ => ?_; refine ExW.last ?_; refine ExW.ret ?_; refine TW.callB (by with_reducible assumption) rfl (by walk_at "m_k") (by boot_by_name) ?_; refine AW.cons ?_
  refine TW.compZ [] gf rfl (by walk_at "m_k") (by rfl) (fun _ h => nomatch h) .nil ?_
  unfold tI
  refine AW.ev (by walk_at "el") ?_
  refine ⟨iL ws, iL ns, rfl, by simp [iL, h1, h2], fun i ds mt' => ds = iL ((List.zipWith (· * ·) ws ns).take i) ∧ mt = mt', ⟨by simp [iL], rfl⟩, ?_, ?_, ?_⟩
  · rintro i ds mt' ⟨rfl, _⟩
    simp only [iL, List.length_map, List.length_take, List.length_zipWith]
    omega
  · rintro f' gf' i d' ds mt' hi ⟨rfl, e⟩
    subst e
    unfold zipD iL at hi
    rw [List.getElem?_zipWith] at hi
    simp only [List.getElem?_map] at hi
    cases hw : ws[i]? with
    | none => rw [hw] at hi; cases hi
    | some a =>
      cases hn : ns[i]? with
      | none => rw [hw, hn] at hi; cases hi
      | some b =>
        rw [hw, hn] at hi
        cases hi
        have ha := h3 a (List.mem_of_getElem? hw)
        refine AsW.tuple (by with_reducible assumption) (by walk_at "m_names") (Sto.all (by rfl)) (by walk_at "m_seq") (by rfl) ⟨_, by walk_at "m_sets", ?_⟩
        refine ⟨by walk_at "m_sub", EmW.elt ?_⟩
        refine TW.ev (by walk_at "e") ?_
        refine ⟨?_, rfl⟩
        rw [List.take_add_one, List.getElem?_zipWith, hw, hn]
        simp [iL]
  · rintro ds mt' ⟨rfl, e⟩
    subst e
    refine AW.ev (by walk_at "el") ?_
    refine CallB.sum ?_
    refine RetK.go (by with_reducible assumption) ?_
    refine RetW.ret ⟨?_, rfl⟩ (.refl _)
    rw [List.take_of_length_le (by simp [iL, h1, h2])]
    rfl
theorem smooth_ok {n : Nat} {mt : Mt} {row nine q kn : List Int} {k : Int} (hr : RowOk row nine q kn k) : CallW (cx w p loose mg mb) (n + 5) (.ref 351) [.list (iL row), .list (iL nine), .list (iL q), .list (iL kn), .int k] mt
    (fun d mt' => d = .list (iL (smRow row nine q kn k)) ∧ mt = mt') := by
  obtain ⟨hk, r1, r2, r3, r4, r5, r6, r7⟩ := hr
  obtain ⟨kl, kh, kk1, kk2⟩ := hk.bd
  walk_at "m_def"
  intro f gf
  refine fun _ _ => ?_; refine ExW.consO fun _ _ => ?_; refine ExW.assign (by with_reducible assumption) (by walk_at "m_sto") ?_; refine TW.callT (by with_reducible assumption) rfl (by walk_at "m_k") (by boot_by_name) ?_; refine AW.ev (by walk_at "el") ?_
  refine CallB.listM (by walk_at "m_lst") (by simp [iL]; omega) fun a => ?_
  refine ⟨_, by walk_at "m_set", ?_⟩; refine SeqK.next (by with_reducible assumption) ?_; refine ExW.consO fun _ _ => ?_; refine ExW.assign (by with_reducible assumption) (by walk_at "m_sto") ?_; refine TW.call (by with_reducible assumption) rfl (by walk_at "m_k") (by walk_at "m_k") ?_; refine AW.ev (by walk_at "el") ?_
  refine (granks_ok hk).mono ?_
  rintro d mt' ⟨rfl, e⟩
  subst e
  refine ⟨_, by walk_at "m_set", ?_⟩; refine SeqK.next (by with_reducible assumption) ?_; refine ExW.consO fun _ _ => ?_; refine ExW.forQ ?_; refine TW.callT (by with_reducible assumption) rfl (by walk_at "m_k") (by boot_by_name) ?_; refine AW.cons ?_; refine TW.callB (by with_reducible assumption) rfl (by walk_at "m_k") (by boot_by_name) ?_; refine AW.cons ?_
  refine pats_ok gf rfl ?_
  refine AW.ev (by walk_at "el") ?_
  refine CallB.len (.tup _) (by decide) ?_
  refine AW.ev (by walk_at "el") ?_; refine CallB.range1 ?_
  refine ⟨_, fun i loc mt' => Inv loc mt' [("places", .list ((gR k).map oD)), ("found", .ref a), ("row", .list (iL row)), ("nine", .list (iL nine)), ("qtable", .list (iL q)), ("known", .list (iL kn)), ("n", .int k)] ((a, .lst (iL (smTo row nine q kn k i))) :: mt), .upto 5 (by decide) (by decide) (by decide), ⟨rfl, rfl⟩, ?_, ?_⟩
  · rintro i d' loc' mt' hi ⟨rfl, rfl⟩
    obtain ⟨hi5, rfl⟩ := rangeItems_get0 hi
    refine fun _ _ => ?_; refine AsW.name (by with_reducible assumption) (by walk_at "m_sto") ⟨_, by walk_at "m_set", ?_⟩; refine ExW.consO fun _ _ => ?_; refine ExW.assignTup ?_ (by rfl); refine TW.sub ?_
    refine pats_ok gf rfl ?_
    rw [patD_eq]
    refine TW.ev (by walk_at "e") ?_
    refine T2.item (d' := patI i) (.tup _) (by walk_at "m_o") (by walk_at "m_o") (by simp [hi5]) ?_
    refine AsW.tuple (by with_reducible assumption) (by walk_at "m_names") (Sto.all (by rfl)) (by walk_at "m_seq") (by rfl) ⟨_, by walk_at "m_sets", ?_⟩; refine SeqK.next (by with_reducible assumption) ?_; refine ExW.consO fun _ _ => ?_; refine ExW.assign (by with_reducible assumption) (by walk_at "m_sto") ?_; refine TW.sub ?_; refine TW.ev (by walk_at "e") ?_; refine TW.ev (by walk_at "e") ?_
    have hg5 := gR_len k
    obtain ⟨o, ho⟩ : ∃ o, (gR k)[i]? = some o := ⟨_, List.getElem?_eq_getElem (by walk_at "m_o")⟩
    have ho' : (gR k).getD i none = o := by rw [List.getD, ho]; rfl
    refine T2.item (d' := oD o) (.list _) (by walk_at "m_o") (by walk_at "m_o") (by simp [ho]) ?_
    have hsm := smTo_len row nine q kn k i
    cases o with
    | none =>
      unfold oD
      refine ⟨_, by walk_at "m_set", ?_⟩; refine SeqK.next (by with_reducible assumption) ?_; refine ExW.last ?_; refine ExW.if_ ?_; refine BW.and ?_; refine BW.cmp (by walk_at "e") (by walk_at "e") (by walk_at "e_op") ?_
      refine ⟨(fun h => nomatch h), fun _ => ?_⟩
      refine ⟨(fun h => nomatch h), fun _ => ?_⟩
      refine ExW.nil ?_; refine LoopK.next (by with_reducible assumption) ?_
      walk_at "m_less"
      rw [smTo_succ, smStep, ho']
    | some r =>
      have hr := gR_ok hk i r ho
      obtain ⟨hr0, hr1⟩ := hr
      have c1 : r < 9223372036854775808 := by omega
      have c2 : r < 2 ^ 63 := by omega
      have c3 : r < (q.length : Int) := by omega
      have c4 : r < (kn.length : Int) := by omega
      have c5 : r < (row.length : Int) := by omega
      have c6 : 0 ≤ r := by omega
      unfold oD
      refine ⟨_, by walk_at "m_set", ?_⟩; refine SeqK.next (by with_reducible assumption) ?_; refine ExW.last ?_; refine ExW.if_ ?_; refine BW.and ?_; refine BW.cmp (by walk_at "e") (by walk_at "e") (by walk_at "e_op") ?_
      refine ⟨fun _ => ?_, (fun h => nomatch h)⟩
      refine BW.and ?_; refine BW.cmp (by walk_at "e") (by walk_at "e") (by walk_at "e_op") ?_
      refine ⟨fun hd => ?_, fun hd => ?_⟩
      · refine BW.and ?_; refine BW.cmp (by walk_at "e") (by walk_at "e") (by walk_at "e_op") ?_
        refine ⟨fun he => ?_, fun he => ?_⟩
        · refine BW.and_nil ?_
          refine ⟨fun _ => ?_, (fun h => nomatch h)⟩
          obtain ⟨w1, w2, w3, w4, w5, w6⟩ := wtI_ok hi5
          have hw := weighed_small hi5 r4 r5
          have hq0 := r6 _ (kso_getD (l := q) (i := 0) (by walk_at "m_o"))
          have hqr := r6 _ (kso_getD (l := q) (i := r.toNat) (by walk_at "m_o"))
          have hkr := r7 _ (kso_getD (l := kn) (i := r.toNat) (by walk_at "m_o"))
          have fin : ∀ m, m = smMul k i → smTo row nine q kn k (i + 1) = (smTo row nine q kn k i).set r.toNat (guessedI (m * q.getD 0 0 * weighedI (wtI i) nine) (q.getD r.toNat 0) (kn.getD r.toNat 0)) := fun m hm => by
            rw [smTo_succ, smStep, ho', hm]
            simp only [bne_iff_ne, ne_eq, beq_iff_eq] at hd he
            simp only
            rw [if_pos ⟨hd, he⟩]
          refine ExW.consO fun _ _ => ?_; refine ExW.assign (by with_reducible assumption) (by walk_at "m_sto") ?_; refine TW.binop ?_; refine TW.binop ?_; refine TW.ifexp ?_; refine BW.cmp (by walk_at "e") (by walk_at "e") (by walk_at "e_op") ?_
          refine ⟨fun hg => ?_, fun hg => ?_⟩ <;> simp only [decide_eq_true_eq, decide_eq_false_iff_not] at hg
          · refine TW.ev (by walk_at "e") ?_; refine TW.ev (by walk_at "e") ?_; refine T2.mul (by walk_at "m_mul") ?_; refine TW.call (by with_reducible assumption) rfl (by walk_at "m_k") (by walk_at "m_k") ?_; refine AW.ev (by walk_at "el") ?_
            refine (weighed_ok w1 r4 w2).mono ?_
            rintro d mt' ⟨rfl, e⟩
            subst e
            refine T2.mul (by walk_at "m_mul") ?_; refine ⟨_, by walk_at "m_set", ?_⟩; refine SeqK.next (by with_reducible assumption) ?_; refine ExW.last ?_; refine ExW.setItemP ?_; refine TW.call (by with_reducible assumption) rfl (by walk_at "m_k") (by walk_at "m_k") ?_; refine AW.ev (by walk_at "el") ?_
            have hn := num_small (a := mny i) (b := q.getD 0 0) (c := weighedI (wtI i) nine) (by walk_at "m_o") (by walk_at "m_o") hw
            refine (guessed_ok hn.1 hn.2 (by walk_at "m_o") (by walk_at "m_o") (by walk_at "m_o")).mono ?_
            rintro d mt' ⟨rfl, e⟩
            subst e
            refine TW.ev (by walk_at "e") ?_; refine TW.ev (by walk_at "e") ?_; refine PutW.mk (by walk_at "m_atq") (by walk_at "m_o") (by walk_at "m_len") (by walk_at "m_o") ?_; refine LoopK.next (by with_reducible assumption) ?_
            walk_at "m_less"
            rw [fin _ (by unfold smMul; rw [if_pos hg]), iL_set]
            try rfl
          · refine TW.ev (by walk_at "e") ?_; refine TW.ev (by walk_at "e") ?_; refine T2.mul (by walk_at "m_mul") ?_; refine TW.call (by with_reducible assumption) rfl (by walk_at "m_k") (by walk_at "m_k") ?_; refine AW.ev (by walk_at "el") ?_
            refine (weighed_ok w1 r4 w2).mono ?_
            rintro d mt' ⟨rfl, e⟩
            subst e
            refine T2.mul (by walk_at "m_mul") ?_; refine ⟨_, by walk_at "m_set", ?_⟩; refine SeqK.next (by with_reducible assumption) ?_; refine ExW.last ?_; refine ExW.setItemP ?_; refine TW.call (by with_reducible assumption) rfl (by walk_at "m_k") (by walk_at "m_k") ?_; refine AW.ev (by walk_at "el") ?_
            have hn := num_small (a := few i) (b := q.getD 0 0) (c := weighedI (wtI i) nine) (by walk_at "m_o") (by walk_at "m_o") hw
            refine (guessed_ok hn.1 hn.2 (by walk_at "m_o") (by walk_at "m_o") (by walk_at "m_o")).mono ?_
            rintro d mt' ⟨rfl, e⟩
            subst e
            refine TW.ev (by walk_at "e") ?_; refine TW.ev (by walk_at "e") ?_; refine PutW.mk (by walk_at "m_atq") (by walk_at "m_o") (by walk_at "m_len") (by walk_at "m_o") ?_; refine LoopK.next (by with_reducible assumption) ?_
            walk_at "m_less"
            rw [fin _ (by unfold smMul; rw [if_neg hg]), iL_set]
            try rfl
        · skip
          refine ⟨(fun h => nomatch h), fun _ => ?_⟩
          refine ExW.nil ?_; refine LoopK.next (by with_reducible assumption) ?_
          walk_at "m_less"
          rw [smTo_succ, smStep, ho']
          simp only [beq_eq_false_iff_ne] at he
          simp only
          rw [if_neg (fun h => he h.2)]
      · refine ⟨(fun h => nomatch h), fun _ => ?_⟩
        refine ExW.nil ?_; refine LoopK.next (by with_reducible assumption) ?_
        walk_at "m_less"
        rw [smTo_succ, smStep, ho']
        simp only [bne_eq_false_iff_eq] at hd
        simp only
        rw [if_neg (fun h => h.1 hd)]
  · rintro loc' mt' ⟨rfl, rfl⟩
    refine SeqK.next (by with_reducible assumption) ?_; refine ExW.last ?_; refine ExW.ret (TW.nameF (GF.kind (by with_reducible assumption)) (by walk_at "m_in") (by walk_at "m_rem") ?_); refine RetK.go (by with_reducible assumption) ?_
    exact RetW.ret ⟨rfl, rfl⟩ (.refl _)
end

-- C7
section
variable {w : World} {p : Program} {loose : List PySem.Str} {mg mb : PySem.Str → Option Value}
theorem comp_init {n : Nat} {mt : Mt} {dx : Addr} {a1 a2 a3 a4 : D} : CallW (cx w p loose mg mb) (n + 1) (.ref 400) [.slf 403 dx, a1, a2, a3, a4] ((dx, .dct []) :: mt)
    (fun d mt' => d = .none ∧ mt' = (dx, .dct [("ident", a1), ("across", a2), ("down", a3), ("quant", a4)]) :: mt) := by
  walk_at "m_def"
  intro f gf
  refine fun _ _ => ?_; refine ExW.consO fun _ _ => ?_; refine ExW.setAttrP ?_; refine TW.ev (by walk_at "e") ?_; refine TW.ev (by walk_at "e") ?_; refine SetF.mk (by walk_at "m_atq") (by walk_at "m_cls") (by walk_at "m_k") (by rfl) (by walk_at "m_len") ?_; refine SeqK.next (by with_reducible assumption) ?_; refine ExW.consO fun _ _ => ?_; refine ExW.setAttrP ?_; refine TW.ev (by walk_at "e") ?_; refine TW.ev (by walk_at "e") ?_; refine SetF.mk (by walk_at "m_atq") (by walk_at "m_cls") (by walk_at "m_k") (by rfl) (by walk_at "m_len") ?_; refine SeqK.next (by with_reducible assumption) ?_; refine ExW.consO fun _ _ => ?_; refine ExW.setAttrP ?_; refine TW.ev (by walk_at "e") ?_; refine TW.ev (by walk_at "e") ?_; refine SetF.mk (by walk_at "m_atq") (by walk_at "m_cls") (by walk_at "m_k") (by rfl) (by walk_at "m_len") ?_; refine SeqK.next (by with_reducible assumption) ?_; refine ExW.last ?_; refine ExW.setAttrP ?_; refine TW.ev (by walk_at "e") ?_; refine TW.ev (by walk_at "e") ?_; refine SetF.mk (by walk_at "m_atq") (by walk_at "m_cls") (by walk_at "m_k") (by rfl) (by walk_at "m_len") ?_; refine RetK.go (by with_reducible assumption) ?_
  exact RetW.next ⟨rfl, rfl⟩ (.refl _)
theorem frame_init {n : Nat} {mt : Mt} {dx : Addr} {a1 a2 a3 a4 a5 a6 : D} : CallW (cx w p loose mg mb) (n + 1) (.ref 421) [.slf 469 dx, a1, a2, a3, a4, a5, a6] ((dx, .dct []) :: mt)
    (fun d mt' => d = .none ∧ mt' = (dx, .dct [("kind", a1), ("precision", a2), ("height", a3), ("width", a4), ("components", a5), ("n", a6)]) :: mt) := by
  walk_at "m_def"
  intro f gf
  refine fun _ _ => ?_; refine ExW.consO fun _ _ => ?_; refine ExW.setAttrP ?_; refine TW.ev (by walk_at "e") ?_; refine TW.ev (by walk_at "e") ?_; refine SetF.mk (by walk_at "m_atq") (by walk_at "m_cls") (by walk_at "m_k") (by rfl) (by walk_at "m_len") ?_; refine SeqK.next (by with_reducible assumption) ?_; refine ExW.consO fun _ _ => ?_; refine ExW.setAttrP ?_; refine TW.ev (by walk_at "e") ?_; refine TW.ev (by walk_at "e") ?_; refine SetF.mk (by walk_at "m_atq") (by walk_at "m_cls") (by walk_at "m_k") (by rfl) (by walk_at "m_len") ?_; refine SeqK.next (by with_reducible assumption) ?_; refine ExW.consO fun _ _ => ?_; refine ExW.setAttrP ?_; refine TW.ev (by walk_at "e") ?_; refine TW.ev (by walk_at "e") ?_; refine SetF.mk (by walk_at "m_atq") (by walk_at "m_cls") (by walk_at "m_k") (by rfl) (by walk_at "m_len") ?_; refine SeqK.next (by with_reducible assumption) ?_; refine ExW.consO fun _ _ => ?_; refine ExW.setAttrP ?_; refine TW.ev (by walk_at "e") ?_; refine TW.ev (by walk_at "e") ?_; refine SetF.mk (by walk_at "m_atq") (by walk_at "m_cls") (by walk_at "m_k") (by rfl) (by walk_at "m_len") ?_; refine SeqK.next (by with_reducible assumption) ?_; refine ExW.consO fun _ _ => ?_; refine ExW.setAttrP ?_; refine TW.ev (by walk_at "e") ?_; refine TW.ev (by walk_at "e") ?_; refine SetF.mk (by walk_at "m_atq") (by walk_at "m_cls") (by walk_at "m_k") (by rfl) (by walk_at "m_len") ?_; refine SeqK.next (by with_reducible assumption) ?_; refine ExW.last ?_; refine ExW.setAttrP ?_; refine TW.ev (by walk_at "e") ?_; refine TW.ev (by walk_at "e") ?_; refine SetF.mk (by walk_at "m_atq") (by walk_at "m_cls") (by walk_at "m_k") (by rfl) (by walk_at "m_len") ?_; refine RetK.go (by with_reducible assumption) ?_
  exact RetW.next ⟨rfl, rfl⟩ (.refl _)
noncomputable def compD (i q : Int) : D := .inst 403 [("ident", .int i), ("across", .int 1), ("down", .int 1), ("quant", .int q)]
noncomputable def frameD (h w n : Int) : D := .inst 469 [("kind", .str "progressive"), ("precision", .int 8), ("height", .int h), ("width", .int w), ("components", .list [compD 1 0, compD 2 1]), ("n", .int n)]
theorem most_across_ok {n : Nat} {mt : Mt} {h wd k : Int} : CallW (cx w p loose mg mb) (n + 1) (.ref 426) [frameD h wd k] mt (fun d mt' => d = .int 1 ∧ mt = mt') := by
  walk_at "m_def"
  intro f gf
  refine fun _ _ => ?_; refine ExW.last ?_; refine ExW.ret ?_; refine TW.callB (by with_reducible assumption) rfl (by walk_at "m_k") (by boot_by_name) ?_; refine AW.cons ?_
  refine TW.compS [] gf (.one _ _) (by rfl) (by walk_at "m_lf1") (by decide) ?_
  unfold frameD
  refine TW.ev (by walk_at "e") ?_
  refine CItW.map [compD 1 0, compD 2 1] (iL [1, 1]) (.list _) rfl (by decide) ?_ ?_
  · intro f' gf' i d' hi
    have : ∃ a b, d' = compD a b ∧ (iL [1, 1])[i]? = some (.int 1) := by
      match i, hi with
      | 0, hi => cases hi; exact ⟨_, _, rfl, rfl⟩
      | 1, hi => cases hi; exact ⟨_, _, rfl, rfl⟩
    obtain ⟨a, b, rfl, hv⟩ := this
    unfold compD
    refine AsW.name (by with_reducible assumption) (by walk_at "m_sto") ⟨_, by walk_at "m_set", ?_⟩
    refine ⟨by walk_at "m_sub", ?_⟩
    refine TW.ev (by walk_at "e") ?_
    exact ⟨rfl, hv⟩
  · refine AW.ev (by walk_at "el") ?_
    refine CallB.maxL (x := 1) (by decide) (by decide) ?_
    refine RetK.go (by with_reducible assumption) ?_
    exact RetW.ret ⟨rfl, rfl⟩ (.refl _)
theorem most_down_ok {n : Nat} {mt : Mt} {h wd k : Int} : CallW (cx w p loose mg mb) (n + 1) (.ref 431) [frameD h wd k] mt (fun d mt' => d = .int 1 ∧ mt = mt') := by
  walk_at "m_def"
  intro f gf
  refine fun _ _ => ?_; refine ExW.last ?_; refine ExW.ret ?_; refine TW.callB (by with_reducible assumption) rfl (by walk_at "m_k") (by boot_by_name) ?_; refine AW.cons ?_
  refine TW.compS [] gf (.one _ _) (by rfl) (by walk_at "m_lf1") (by decide) ?_
  unfold frameD
  refine TW.ev (by walk_at "e") ?_
  refine CItW.map [compD 1 0, compD 2 1] (iL [1, 1]) (.list _) rfl (by decide) ?_ ?_
  · intro f' gf' i d' hi
    have : ∃ a b, d' = compD a b ∧ (iL [1, 1])[i]? = some (.int 1) := by
      match i, hi with
      | 0, hi => cases hi; exact ⟨_, _, rfl, rfl⟩
      | 1, hi => cases hi; exact ⟨_, _, rfl, rfl⟩
    obtain ⟨a, b, rfl, hv⟩ := this
    unfold compD
    refine AsW.name (by with_reducible assumption) (by walk_at "m_sto") ⟨_, by walk_at "m_set", ?_⟩
    refine ⟨by walk_at "m_sub", ?_⟩
    refine TW.ev (by walk_at "e") ?_
    exact ⟨rfl, hv⟩
  · refine AW.ev (by walk_at "el") ?_
    refine CallB.maxL (x := 1) (by decide) (by decide) ?_
    refine RetK.go (by with_reducible assumption) ?_
    exact RetW.ret ⟨rfl, rfl⟩ (.refl _)
theorem mcus_across_ok {n : Nat} {mt : Mt} {h a k : Int} (hk : Side k) (ha : 0 ≤ a) (ha' : a ≤ 3) : CallW (cx w p loose mg mb) (n + 2) (.ref 438) [frameD h (k * a) k] mt (fun d mt' => d = .int a ∧ mt = mt') := by
  obtain ⟨kl, kh, kk1, kk2⟩ := hk.bd
  walk_at "m_def"
  intro f gf
  unfold frameD
  refine fun _ _ => ?_; refine ExW.last ?_; refine ExW.ret ?_; refine TW.call (by with_reducible assumption) rfl (by walk_at "m_k") (by walk_at "m_k") ?_; refine AW.cons ?_; refine TW.ev (by walk_at "e") ?_; refine AW.cons ?_; refine TW.binop ?_; refine TW.ev (by walk_at "e") ?_; refine TW.meth0P ?_; refine TW.ev (by walk_at "e") ?_; refine Meth0W.mk (by walk_at "m_ins") (by walk_at "m_cls") (by walk_at "m_k") (by walk_at "m_k") (by walk_at "m_k") (by rfl) ?_
  refine most_across_ok.mono ?_
  rintro d mt' ⟨rfl, e⟩
  subst e
  refine T2.mul (by walk_at "m_mul") ?_; refine AW.ev (by walk_at "el") ?_
  refine (parts_ok (by walk_at "m_o") (by walk_at "m_o")).mono ?_
  rintro d mt' ⟨rfl, e⟩
  subst e
  refine RetK.go (by with_reducible assumption) ?_
  refine RetW.ret ⟨?_, rfl⟩ (.refl _)
  rcases hk with rfl | rfl | rfl <;> (congr 1; omega)
theorem mcus_down_ok {n : Nat} {mt : Mt} {wd a k : Int} (hk : Side k) (ha : 0 ≤ a) (ha' : a ≤ 3) : CallW (cx w p loose mg mb) (n + 2) (.ref 445) [frameD (k * a) wd k] mt (fun d mt' => d = .int a ∧ mt = mt') := by
  obtain ⟨kl, kh, kk1, kk2⟩ := hk.bd
  walk_at "m_def"
  intro f gf
  unfold frameD
  refine fun _ _ => ?_; refine ExW.last ?_; refine ExW.ret ?_; refine TW.call (by with_reducible assumption) rfl (by walk_at "m_k") (by walk_at "m_k") ?_; refine AW.cons ?_; refine TW.ev (by walk_at "e") ?_; refine AW.cons ?_; refine TW.binop ?_; refine TW.ev (by walk_at "e") ?_; refine TW.meth0P ?_; refine TW.ev (by walk_at "e") ?_; refine Meth0W.mk (by walk_at "m_ins") (by walk_at "m_cls") (by walk_at "m_k") (by walk_at "m_k") (by walk_at "m_k") (by rfl) ?_
  refine most_down_ok.mono ?_
  rintro d mt' ⟨rfl, e⟩
  subst e
  refine T2.mul (by walk_at "m_mul") ?_; refine AW.ev (by walk_at "el") ?_
  refine (parts_ok (by walk_at "m_o") (by walk_at "m_o")).mono ?_
  rintro d mt' ⟨rfl, e⟩
  subst e
  refine RetK.go (by with_reducible assumption) ?_
  refine RetW.ret ⟨?_, rfl⟩ (.refl _)
  rcases hk with rfl | rfl | rfl <;> (congr 1; omega)
theorem comps_get {pl : Int} (hp : pl = 0 ∨ pl = 1) : ∃ i q, ([compD 1 0, compD 2 1] : List D)[pl.toNat]? = some (compD i q) := by
  rcases hp with rfl | rfl
  · exact ⟨1, 0, rfl⟩
  · exact ⟨2, 1, rfl⟩
theorem padded_ok {n : Nat} {mt : Mt} {a b k pl : Int} (hk : Side k) (ha : 0 ≤ a) (ha' : a ≤ 3) (hb : 0 ≤ b) (hb' : b ≤ 3) (hp : pl = 0 ∨ pl = 1) : CallW (cx w p loose mg mb) (n + 3) (.ref 466) [frameD (k * b) (k * a) k, .int pl] mt
    (fun d mt' => d = .tup [.int a, .int b] ∧ mt = mt') := by
  obtain ⟨kl, kh, kk1, kk2⟩ := hk.bd
  walk_at "m_def"
  intro f gf
  obtain ⟨i, q, hc⟩ := comps_get hp
  unfold frameD
  refine fun _ _ => ?_; refine ExW.consO fun _ _ => ?_; refine ExW.assign (by with_reducible assumption) (by walk_at "m_sto") ?_; refine TW.sub ?_; refine TW.ev (by walk_at "e") ?_; refine TW.ev (by walk_at "e") ?_
  refine T2.item (.list _) (by walk_at "m_o") (by walk_at "m_o") hc ?_
  unfold compD
  refine ⟨_, by walk_at "m_set", ?_⟩; refine SeqK.next (by with_reducible assumption) ?_; refine ExW.last ?_; refine ExW.ret ?_; refine TW.tuple ?_; refine AW.cons ?_; refine TW.binop ?_; refine TW.meth0P ?_; refine TW.ev (by walk_at "e") ?_; refine Meth0W.mk (by walk_at "m_ins") (by walk_at "m_cls") (by walk_at "m_k") (by walk_at "m_k") (by walk_at "m_k") (by rfl) ?_
  refine (mcus_across_ok hk ha ha').mono ?_
  rintro d mt' ⟨rfl, e⟩
  subst e
  refine TW.ev (by walk_at "e") ?_; refine T2.mul (by walk_at "m_mul") ?_; refine AW.cons ?_; refine TW.binop ?_; refine TW.meth0P ?_; refine TW.ev (by walk_at "e") ?_; refine Meth0W.mk (by walk_at "m_ins") (by walk_at "m_cls") (by walk_at "m_k") (by walk_at "m_k") (by walk_at "m_k") (by rfl) ?_
  refine (mcus_down_ok hk hb hb').mono ?_
  rintro d mt' ⟨rfl, e⟩
  subst e
  refine TW.ev (by walk_at "e") ?_; refine T2.mul (by walk_at "m_mul") ?_; refine AW.ev (by walk_at "el") ?_; refine ⟨by walk_at "m_len", ?_⟩; refine RetK.go (by with_reducible assumption) ?_
  exact RetW.ret ⟨by rw [Int.mul_one, Int.mul_one], rfl⟩ (.refl _)
theorem plane_size_ok {n : Nat} {mt : Mt} {a b k pl : Int} (ha : 0 ≤ a) (ha' : a ≤ 100) (hb : 0 ≤ b) (hb' : b ≤ 100) (hp : pl = 0 ∨ pl = 1) : CallW (cx w p loose mg mb) (n + 2) (.ref 452) [frameD b a k, .int pl] mt
    (fun d mt' => d = .tup [.int a, .int b] ∧ mt = mt') := by
  walk_at "m_def"
  intro f gf
  obtain ⟨i, q, hc⟩ := comps_get hp
  unfold frameD
  refine fun _ _ => ?_; refine ExW.consO fun _ _ => ?_; refine ExW.assign (by with_reducible assumption) (by walk_at "m_sto") ?_; refine TW.sub ?_; refine TW.ev (by walk_at "e") ?_; refine TW.ev (by walk_at "e") ?_
  refine T2.item (.list _) (by walk_at "m_o") (by walk_at "m_o") hc ?_
  unfold compD
  refine ⟨_, by walk_at "m_set", ?_⟩; refine SeqK.next (by with_reducible assumption) ?_; refine ExW.consO fun _ _ => ?_; refine ExW.assign (by with_reducible assumption) (by walk_at "m_sto") ?_; refine TW.call (by with_reducible assumption) rfl (by walk_at "m_k") (by walk_at "m_k") ?_; refine AW.cons ?_; refine TW.ev (by walk_at "e") ?_; refine AW.cons ?_; refine TW.meth0P ?_; refine TW.ev (by walk_at "e") ?_; refine Meth0W.mk (by walk_at "m_ins") (by walk_at "m_cls") (by walk_at "m_k") (by walk_at "m_k") (by walk_at "m_k") (by rfl) ?_
  refine most_across_ok.mono ?_
  rintro d mt' ⟨rfl, e⟩
  subst e
  refine AW.ev (by walk_at "el") ?_
  refine (parts_ok (by walk_at "m_o") (by walk_at "m_o")).mono ?_
  rintro d mt' ⟨rfl, e⟩
  subst e
  refine ⟨_, by walk_at "m_set", ?_⟩; refine SeqK.next (by with_reducible assumption) ?_; refine ExW.last ?_; refine ExW.ret ?_; refine TW.tuple ?_; refine AW.cons ?_; refine TW.ev (by walk_at "e") ?_; refine AW.cons ?_; refine TW.call (by with_reducible assumption) rfl (by walk_at "m_k") (by walk_at "m_k") ?_; refine AW.cons ?_; refine TW.ev (by walk_at "e") ?_; refine AW.cons ?_; refine TW.meth0P ?_; refine TW.ev (by walk_at "e") ?_; refine Meth0W.mk (by walk_at "m_ins") (by walk_at "m_cls") (by walk_at "m_k") (by walk_at "m_k") (by walk_at "m_k") (by rfl) ?_
  refine most_down_ok.mono ?_
  rintro d mt' ⟨rfl, e⟩
  subst e
  refine AW.ev (by walk_at "el") ?_
  refine (parts_ok (by walk_at "m_o") (by walk_at "m_o")).mono ?_
  rintro d mt' ⟨rfl, e⟩
  subst e
  refine AW.ev (by walk_at "el") ?_; refine ⟨by walk_at "m_len", ?_⟩; refine RetK.go (by with_reducible assumption) ?_
  exact RetW.ret ⟨by congr 3 <;> (try congr 1) <;> omega, rfl⟩ (.refl _)
theorem blocks_ok {n : Nat} {mt : Mt} {a b k pl : Int} (hk : Side k) (ha : 0 ≤ a) (ha' : a ≤ 3) (hb : 0 ≤ b) (hb' : b ≤ 3) (hp : pl = 0 ∨ pl = 1) : CallW (cx w p loose mg mb) (n + 3) (.ref 459) [frameD (k * b) (k * a) k, .int pl] mt
    (fun d mt' => d = .tup [.int a, .int b] ∧ mt = mt') := by
  obtain ⟨kl, kh, kk1, kk2⟩ := hk.bd
  walk_at "m_def"
  intro f gf
  have k1 : 0 ≤ k * a ∧ k * a ≤ 100 ∧ 0 ≤ k * b ∧ k * b ≤ 100 := by rcases hk with rfl | rfl | rfl <;> omega
  unfold frameD
  refine fun _ _ => ?_; refine ExW.consO fun _ _ => ?_; refine ExW.assignTup ?_ (by rfl); refine TW.methP ?_; refine TW.ev (by walk_at "e") ?_; refine MethW.mk (by walk_at "m_ins") (by walk_at "m_cls") (by walk_at "m_k") (by walk_at "m_k") (by walk_at "m_k") (by rfl) ?_; refine AW.ev (by walk_at "el") ?_
  refine (plane_size_ok k1.1 k1.2.1 k1.2.2.1 k1.2.2.2 hp).mono ?_
  rintro d mt' ⟨rfl, e⟩
  subst e
  refine AsW.tuple (by with_reducible assumption) (by walk_at "m_names") (Sto.all (by rfl)) (by walk_at "m_seq") (by rfl) ⟨_, by walk_at "m_sets", ?_⟩; refine SeqK.next (by with_reducible assumption) ?_; refine ExW.last ?_; refine ExW.ret ?_; refine TW.tuple ?_; refine AW.cons ?_; refine TW.call (by with_reducible assumption) rfl (by walk_at "m_k") (by walk_at "m_k") ?_; refine AW.ev (by walk_at "el") ?_
  refine (parts_ok (by walk_at "m_o") (by walk_at "m_o")).mono ?_
  rintro d mt' ⟨rfl, e⟩
  subst e
  refine AW.cons ?_; refine TW.call (by with_reducible assumption) rfl (by walk_at "m_k") (by walk_at "m_k") ?_; refine AW.ev (by walk_at "el") ?_
  refine (parts_ok (by walk_at "m_o") (by walk_at "m_o")).mono ?_
  rintro d mt' ⟨rfl, e⟩
  subst e
  refine AW.ev (by walk_at "el") ?_; refine ⟨by walk_at "m_len", ?_⟩; refine RetK.go (by with_reducible assumption) ?_
  refine RetW.ret ⟨?_, rfl⟩ (.refl _)
  rcases hk with rfl | rfl | rfl <;> (congr 3 <;> (try congr 1) <;> omega)
end

-- C8
section
variable {w : World} {p : Program} {loose : List PySem.Str} {mg mb : PySem.Str → Option Value}
noncomputable def oR : Option (List Int) → D
  | some r => .list (iL r)
  | none => .none
noncomputable def gD (many : Int) (P : Addr) : D := .inst 50 [("many", .int many), ("planes", .ref P)]
noncomputable def zeroL (many : Int) : List Int := List.replicate many.toNat 0
theorem flat_zero (m : Nat) : (List.replicate m [D.int 0]).flatten = iL (List.replicate m 0) := by
  induction m with
  | zero => rfl
  | succ m ih => rw [List.replicate_succ, List.flatten_cons, ih]; rfl
theorem get_ok {n : Nat} {mt : Mt} {P a : Addr} {many pl x y : Int} {planes ys cells : List D} {o : Option (List Int)} (hm : 0 ≤ many) (hm' : many ≤ 16) (hP : (P, .lst planes) ∈ mt) (p0 : 0 ≤ pl) (p1 : pl < 2 ^ 63) (hp : planes[pl.toNat]? = some (.list ys))
    (y0 : 0 ≤ y) (y1 : y < 2 ^ 63) (hy : ys[y.toNat]? = some (.ref a)) (ha : (a, .lst cells) ∈ mt) (x0 : 0 ≤ x) (x1 : x < 2 ^ 63) (hx : cells[x.toNat]? = some (oR o)) : CallW (cx w p loose mg mb) (n + 1) (.ref 40) [gD many P, .int pl, .int x, .int y] mt
    (fun d mt' => d = .list (iL (o.getD (zeroL many))) ∧ mt = mt') := by
  walk_at "m_def"
  intro f gf
  unfold gD
  refine fun _ _ => ?_; refine ExW.consO fun _ _ => ?_; refine ExW.assign (by with_reducible assumption) (by walk_at "m_sto") ?_; refine TW.sub ?_; refine TW.sub ?_; refine TW.sub ?_; refine TW.ev (by walk_at "e") ?_; refine TW.ev (by walk_at "e") ?_
  refine T2.item (.ref hP) p0 p1 hp ?_
  refine TW.ev (by walk_at "e") ?_
  refine T2.item (.list _) y0 y1 hy ?_
  refine TW.ev (by walk_at "e") ?_
  refine T2.item (.ref ha) x0 x1 hx ?_
  refine ⟨_, by walk_at "m_set", ?_⟩; refine SeqK.next (by with_reducible assumption) ?_; refine ExW.last ?_; refine ExW.ret ?_; refine TW.ifexp ?_; refine BW.cmp (by walk_at "e") (by walk_at "e") (by walk_at "e_op") ?_
  cases o with
  | none =>
    unfold oR
    skip
    refine ⟨fun _ => ?_, (fun h => nomatch h)⟩
    refine TW.binop ?_; refine TW.list ?_; refine AW.ev (by walk_at "el") ?_; refine ⟨by walk_at "m_len", ?_⟩; refine TW.ev (by walk_at "e") ?_
    refine T2.times (by walk_at "m_lst") hm (by simp; omega) (by walk_at "m_o") ?_
    refine RetK.go (by with_reducible assumption) ?_
    exact RetW.ret ⟨by rw [flat_zero]; rfl, rfl⟩ (.refl _)
  | some r =>
    unfold oR
    skip
    refine ⟨(fun h => nomatch h), fun _ => ?_⟩
    refine TW.ev (by walk_at "e") ?_; refine RetK.go (by with_reducible assumption) ?_
    exact RetW.ret ⟨rfl, rfl⟩ (.refl _)
theorem put_ok {n : Nat} {mt : Mt} {G : M → Mt} {P a : Addr} {many pl x y : Int} {planes ys cells : List D} {r : List Int} (hr : r.length ≤ 1000) (hP : (P, .lst planes) ∈ mt) (p0 : 0 ≤ pl) (p1 : pl < 2 ^ 63) (hp : planes[pl.toNat]? = some (.list ys))
    (y0 : 0 ≤ y) (y1 : y < 2 ^ 63) (hy : ys[y.toNat]? = some (.ref a)) (ha : At a (.lst cells) mt G) (x0 : 0 ≤ x) (x1 : x < cells.length) (x2 : x < 2 ^ 63) : CallW (cx w p loose mg mb) (n + 1) (.ref 47) [gD many P, .int pl, .int x, .int y, .list (iL r)] mt
    (fun d mt' => d = .none ∧ mt' = G (.lst (cells.set x.toNat (oR (some r))))) := by
  walk_at "m_def"
  intro f gf
  unfold gD
  refine fun _ _ => ?_; refine ExW.last ?_; refine ExW.setItemP ?_; refine TW.callT (by with_reducible assumption) rfl (by walk_at "m_k") (by boot_by_name) ?_; refine AW.ev (by walk_at "el") ?_
  refine CallB.frz (CallB.listM (by walk_at "m_lst") (by simp [iL]; omega) fun b => ⟨b, _, _, rfl, .head, ?_⟩)
  refine TW.sub ?_; refine TW.sub ?_; refine TW.ev (by walk_at "e") ?_; refine TW.ev (by walk_at "e") ?_
  refine T2.item (.ref hP) p0 p1 hp ?_
  refine TW.ev (by walk_at "e") ?_
  refine T2.item (.list _) y0 y1 hy ?_
  refine TW.ev (by walk_at "e") ?_
  refine PutW.mk ha x0 x1 x2 ?_
  refine RetK.go (by with_reducible assumption) ?_
  exact RetW.next ⟨rfl, rfl⟩ (.refl _)
noncomputable def planesTo (refs : Nat → Addr) (down k : Nat) : List D := (List.range k).map fun q => .list ((List.range down).map fun y => .ref (refs (q * down + y)))
theorem planesTo_congr {refs refs' : Nat → Addr} {down k : Nat} (h : ∀ j, j < k * down → refs j = refs' j) : planesTo refs down k = planesTo refs' down k := by
  unfold planesTo
  apply List.map_congr_left
  intro q hq
  have hq := List.mem_range.mp hq
  congr 1
  apply List.map_congr_left
  intro y hy
  have hy := List.mem_range.mp hy
  rw [h]
  calc q * down + y < q * down + down := by omega
    _ = (q + 1) * down := by rw [Nat.succ_mul]
    _ ≤ k * down := Nat.mul_le_mul_right _ hq
noncomputable def blank (across : Nat) : List D := List.replicate across .none
theorem flat_none (m : Nat) : (List.replicate m [D.none]).flatten = blank m := by
  induction m with
  | zero => rfl
  | succ m ih => rw [List.replicate_succ, List.flatten_cons, ih]; rfl
theorem grid_init {n : Nat} {mt : Mt} {dx : Addr} {k : Int} {across down : Nat} (hk : Side k) (ha : across ≤ 3) (hb : down ≤ 3) : CallW (cx w p loose mg mb) (n + 4) (.ref 33) [.slf 50 dx, frameD (k * down) (k * across) k] ((dx, .dct []) :: mt)
    (fun d mt' => d = .none ∧ ∃ P refs, mt' = rowsTo refs (fun _ => blank across) (2 * down) ++ (P, .lst (planesTo refs down 2)) :: (dx, .dct [("many", .int (k * k)), ("planes", .ref P)]) :: mt) := by
  obtain ⟨kl, kh, kk1, kk2⟩ := hk.bd
  walk_at "m_def"
  intro f gf
  unfold frameD
  refine fun _ _ => ?_; refine ExW.consO fun _ _ => ?_; refine ExW.setAttrP ?_; refine TW.ev (by walk_at "e") ?_; refine TW.ev (by walk_at "e") ?_; refine SetF.mk (by walk_at "m_atq") (by walk_at "m_cls") (by walk_at "m_k") (by rfl) (by walk_at "m_len") ?_; refine SeqK.next (by with_reducible assumption) ?_; refine ExW.consO fun _ _ => ?_; refine ExW.setAttrP (TW.listM ?_); refine AW.ev (by walk_at "el") ?_; refine ⟨by walk_at "m_len", fun _ => ?_⟩; refine TW.ev (by walk_at "e") ?_; refine SetF.mk (by walk_at "m_atq") (by walk_at "m_cls") (by walk_at "m_k") (by rfl) (by walk_at "m_len") ?_; refine SeqK.next (by with_reducible assumption) ?_; refine ExW.last ?_; refine ExW.forQ ?_; refine TW.callT (by with_reducible assumption) rfl (by walk_at "m_k") (by boot_by_name) ?_; refine AW.cons ?_; refine TW.callB (by with_reducible assumption) rfl (by walk_at "m_k") (by boot_by_name) ?_; refine AW.ev (by walk_at "el") ?_
  rename_i P
  refine CallB.len (.list _) (by decide) ?_
  refine AW.ev (by walk_at "el") ?_; refine CallB.range1 ?_
  refine ⟨_, fun q loc mt' => ∃ refs, Inv loc mt' [("self", .slf 50 dx), ("frame", frameD (k * down) (k * across) k)] (rowsTo refs (fun _ => blank across) (q * down) ++ (P, .lst (planesTo refs down q)) :: (dx, .dct [("many", .int (k * k)), ("planes", .ref P)]) :: mt), .upto 2 (by decide) (by decide) (by decide), ⟨fun _ => 0, rfl, by simp [rowsTo, planesTo]⟩, ?_, ?_⟩
  · rintro q d' loc' mt' hq ⟨refs, rfl, rfl⟩
    obtain ⟨hq2, rfl⟩ := rangeItems_get0 hq
    refine fun _ _ => ?_; refine AsW.name (by with_reducible assumption) (by walk_at "m_sto") ⟨_, by walk_at "m_set", ?_⟩; refine ExW.consO fun _ _ => ?_; refine ExW.assignTup ?_ (by rfl); refine TW.methP ?_; refine TW.ev (by walk_at "e") ?_; refine MethW.mk (by walk_at "m_ins") (by walk_at "m_cls") (by walk_at "m_k") (by walk_at "m_k") (by walk_at "m_k") (by rfl) ?_; refine AW.ev (by walk_at "el") ?_
    unfold frameD
    skip
    refine (padded_ok (n := n) hk (by walk_at "m_o") (by walk_at "m_o") (by walk_at "m_o") (by walk_at "m_o") (by walk_at "m_o")).mono ?_
    rintro d mt' ⟨rfl, e⟩
    subst e
    refine AsW.tuple (by with_reducible assumption) (by walk_at "m_names") (Sto.all (by rfl)) (by walk_at "m_seq") (by rfl) ⟨_, by walk_at "m_sets", ?_⟩; refine SeqK.next (by with_reducible assumption) ?_; refine ExW.last ?_; refine ExW.expr (by with_reducible assumption) ?_; refine TW.appendP ?_; refine TW.attrP ?_; refine TW.ev (by walk_at "e") ?_
    have hP : (P, M.lst (planesTo refs down q)) ∈ rowsTo refs (fun _ => blank across) (q * down) ++ (P, .lst (planesTo refs down q)) :: (dx, .dct [("many", .int (k * k)), ("planes", .ref P)]) :: mt := List.mem_append_right _ (.head _)
    refine FldW.mk (.slf (List.mem_append_right _ (.tail _ (.head _)))) cls_grid (by walk_at "m_k") (by walk_at "m_k") rfl ?_
    refine AppO.mk hP ?_
    refine TW.compS [("across", _)] gf (.one _ _) (by rfl) (by walk_at "m_lf1") (by decide) ?_
    refine TW.callT (by with_reducible assumption) rfl (by walk_at "m_k") (by boot_by_name) ?_; refine AW.ev (by walk_at "el") ?_; refine CallB.range1 ?_
    refine CItW.mk _ (fun i ds mt' => i ≤ down ∧ ∃ refs, ds = (List.range i).map (fun y => .ref (refs (q * down + y))) ∧ mt' = rowsTo refs (fun _ => blank across) (q * down + i) ++ (P, .lst (planesTo refs down q)) :: (dx, .dct [("many", .int (k * k)), ("planes", .ref P)]) :: mt)
      (.upto down (by walk_at "m_o") (by walk_at "m_o") (by walk_at "m_o")) ⟨by omega, refs, rfl, rfl⟩ ?_ ?_ ?_
    · rintro i ds mt' ⟨hi, refs, rfl, _⟩
      simp; omega
    · rintro f' gf' i d' ds mt' hi ⟨hi', refs, rfl, rfl⟩
      obtain ⟨hi1, rfl⟩ := rangeItems_get0 hi
      refine AsW.name (by with_reducible assumption) (by walk_at "m_sto") ⟨_, by walk_at "m_set", ?_⟩
      refine ⟨by walk_at "m_sub", EmW.elt ?_⟩
      refine TW.binop ?_; refine TW.list ?_; refine AW.ev (by walk_at "el") ?_; refine ⟨by walk_at "m_len", ?_⟩; refine TW.ev (by walk_at "e") ?_
      refine T2.timesM (by walk_at "m_lst") (by walk_at "m_o") (by simp; omega) (by walk_at "m_o") fun b => ?_
      rw [Int.toNat_natCast, flat_none]
      have hc : ∀ j, j < q * down + i → refs j = (fun j => if j = q * down + i then b else refs j) j := fun j hj => (if_neg (Nat.ne_of_lt hj)).symm
      refine ⟨hi1, fun j => if j = q * down + i then b else refs j, ?_, ?_⟩
      · rw [List.range_succ, List.map_append]
        congr 1
        · apply List.map_congr_left
          intro y hy
          have hy := List.mem_range.mp hy
          rw [hc _ (by walk_at "m_o")]
        · simp
      · rw [← Nat.add_assoc]
        show _ = ((if q * down + i = q * down + i then b else refs (q * down + i)), M.lst (blank across)) :: _
        rw [if_pos rfl, ← rowsTo_congr (refs := refs) (row := fun _ => blank across) (fun j hj => ⟨hc j hj, rfl⟩), ← planesTo_congr (refs := refs) fun j hj => hc j (by walk_at "m_o")]
        rfl
    · rintro ds mt' ⟨_, refs, rfl, rfl⟩
      refine AppE.mk (At.pre .head _) (by simp [planesTo]; omega) ?_
      rw [rangeItems_len]
      refine ⟨rfl, ?_⟩; refine LoopK.next (by with_reducible assumption) ?_
      refine ⟨_, _, .cons _ (.cons _ (.cons _ (.refl _))), .refl _, refs, rfl, ?_⟩
      rw [Nat.succ_mul]
      congr 3
      unfold planesTo
      rw [List.range_succ, List.map_append]
      rfl
  · rintro loc' mt' ⟨refs, rfl, rfl⟩
    refine RetK.go (by with_reducible assumption) ?_
    exact RetW.next ⟨rfl, P, refs, rfl⟩ (.refl _)
end

-- C9
section
variable {w : World} {p : Program} {loose : List PySem.Str} {mg mb : PySem.Str → Option Value}
noncomputable def GridIn (mt : Mt) (P : Addr) (refs : Nat → Addr) (down : Nat) (row : Nat → List D) : Prop := (P, M.lst (planesTo refs down 2)) ∈ mt ∧ ∀ i, i < 2 * down → (refs i, M.lst (row i)) ∈ mt
noncomputable def gM (refs : Nat → Addr) (P : Addr) (down : Nat) (row : Nat → List D) (rest : Mt) : Mt := rowsTo refs row (2 * down) ++ (P, M.lst (planesTo refs down 2)) :: rest
theorem gM_in (refs : Nat → Addr) (P : Addr) (down : Nat) (row : Nat → List D) (rest : Mt) : GridIn (gM refs P down row rest) P refs down row :=
  ⟨List.mem_append_right _ (.head _), fun _ hi => List.mem_append_left _ (rowsTo_mem refs row hi)⟩
theorem gM_sub {refs : Nat → Addr} {P : Addr} {down : Nat} {row : Nat → List D} {rest : Mt} : ∀ q ∈ rest, q ∈ gM refs P down row rest := fun _ hq => List.mem_append_right _ (.tail _ hq)
theorem GridIn.mono {mt mt' : Mt} {P : Addr} {refs : Nat → Addr} {down : Nat} {row : Nat → List D} (h : GridIn mt P refs down row) (hs : ∀ q ∈ mt, q ∈ mt') : GridIn mt' P refs down row := ⟨hs _ h.1, fun i hi => hs _ (h.2 i hi)⟩
noncomputable abbrev Cell := Nat → Nat → Option (List Int)
noncomputable def rowC (across : Nat) (cell : Cell) (i : Nat) : List D := (List.range across).map fun x => oR (cell i x)
theorem planes_get (refs : Nat → Addr) (down : Nat) {pl : Nat} (hp : pl < 2) : (planesTo refs down 2)[pl]? = some (.list ((List.range down).map fun y => .ref (refs (pl * down + y)))) := by
  unfold planesTo
  simp [hp]
theorem idx_lt {pl y down : Nat} (hp : pl < 2) (hy : y < down) : pl * down + y < 2 * down := by
  have : pl * down ≤ 1 * down := Nat.mul_le_mul_right _ (by walk_at "m_o")
  omega
theorem getG_ok {n : Nat} {mt : Mt} {P : Addr} {refs : Nat → Addr} {down across pl x y : Nat} {cell : Cell} {many : Int} (hm : 0 ≤ many) (hm' : many ≤ 16) (hd : down ≤ 3) (ha : across ≤ 3) (H : GridIn mt P refs down (rowC across cell)) (hp : pl < 2) (hy : y < down) (hx : x < across)
    {ip ix iy : Int} (ep : ip = pl) (ex : ix = x) (ey : iy = y) : CallW (cx w p loose mg mb) (n + 1) (.ref 40) [gD many P, .int ip, .int ix, .int iy] mt (fun d mt' => d = .list (iL ((cell (pl * down + y) x).getD (zeroL many))) ∧ mt = mt') := by
  subst ep ex ey
  exact get_ok hm hm' H.1 (by walk_at "m_o") (by walk_at "m_o") (by rw [Int.toNat_natCast]; exact planes_get refs down hp) (by walk_at "m_o") (by walk_at "m_o") (by simp [hy]) (H.2 _ (idx_lt hp hy)) (by walk_at "m_o") (by walk_at "m_o") (by simp [rowC, hx])
noncomputable def updC (cell : Cell) (i x : Nat) (r : List Int) : Cell := fun j z => if j = i ∧ z = x then some r else cell j z
theorem rowC_set (across : Nat) (cell : Cell) (i x : Nat) (r : List Int) : (rowC across cell i).set x (oR (some r)) = rowC across (updC cell i x r) i := by
  unfold rowC
  apply List.ext_getElem?
  intro j
  rw [List.getElem?_set]
  simp only [List.length_map, List.length_range, List.getElem?_map]
  by_cases hj : x = j
  · subst hj
    by_cases hx : x < across
    · simp [hx, updC]
    · simp [hx]
  · by_cases hx : j < across
    · have : ¬ j = x := fun e => hj e.symm
      simp [hx, hj, this, updC]
    · simp [hx, hj]
theorem rowC_off (across : Nat) (cell : Cell) (i x j : Nat) (r : List Int) (h : j ≠ i) : rowC across (updC cell i x r) j = rowC across cell j := by
  unfold rowC updC
  apply List.map_congr_left
  intro z _
  rw [if_neg (fun e => h e.1)]
theorem putG_ok {n : Nat} {rest : Mt} {P : Addr} {refs : Nat → Addr} {down across pl x y : Nat} {cell : Cell} {many : Int} {r : List Int} (hr : r.length ≤ 1000) (hd : down ≤ 3) (ha : across ≤ 3) (hp : pl < 2) (hy : y < down) (hx : x < across)
    {ip ix iy : Int} (ep : ip = pl) (ex : ix = x) (ey : iy = y) : CallW (cx w p loose mg mb) (n + 1) (.ref 47) [gD many P, .int ip, .int ix, .int iy, .list (iL r)] (gM refs P down (rowC across cell) rest)
    (fun d mt' => d = .none ∧ gM refs P down (rowC across (updC cell (pl * down + y) x r)) rest = mt') := by
  subst ep ex ey
  obtain ⟨G, h1, h2⟩ := rowsTo_at refs (rowC across cell) (2 * down) (pl * down + y) (idx_lt hp hy)
  refine (put_ok (r := r) hr (gM_in refs P down (rowC across cell) rest).1 (by walk_at "m_o") (by walk_at "m_o") (by rw [Int.toNat_natCast]; exact planes_get refs down hp) (by walk_at "m_o") (by walk_at "m_o") (by simp [hy]) (h1.app _) (by walk_at "m_o") (by simp [rowC, hx]) (by walk_at "m_o")).mono ?_
  rintro d mt' ⟨rfl, rfl⟩
  refine ⟨rfl, ?_⟩
  rw [h2, Int.toNat_natCast]
  unfold gM
  congr 1
  refine rowsTo_congr fun j hj => ⟨rfl, ?_⟩
  by_cases e : j = pl * down + y
  · subst e
    rw [if_pos rfl, rowC_set]
  · rw [if_neg e, rowC_off _ _ _ _ _ _ e]
noncomputable def kN (z : Int) (s : Nat) : Nat := (keptI z s).toNat
theorem kN_ok {z : Int} {s : Nat} (hs : 0 < s) : keptI z s = kN z s ∧ kN z s < s := by
  unfold kN keptI
  omega
noncomputable def dcV (cell : Cell) (many : Int) (i x : Nat) : Int := ((cell i x).getD (zeroL many)).getD 0 0
noncomputable def nineV (cell : Cell) (many : Int) (pl down across x y : Nat) (j : Nat) : Int := dcV cell many (pl * down + kN ((y : Int) + ((j / 3 : Nat) - 1)) down) (kN ((x : Int) + ((j % 3 : Nat) - 1)) across)
noncomputable def nineL (cell : Cell) (many : Int) (pl down across x y : Nat) : List Int := (List.range 9).map (nineV cell many pl down across x y)
theorem tri_get {i : Nat} {d : D} (h : (iL [-1, 0, 1])[i]? = some d) : i < 3 ∧ d = .int ((i : Int) - 1) := by
  match i, h with
  | 0, h => cases h; exact ⟨by omega, rfl⟩
  | 1, h => cases h; exact ⟨by omega, rfl⟩
  | 2, h => cases h; exact ⟨by omega, rfl⟩
theorem nine_ok {n : Nat} {mt : Mt} {P : Addr} {refs : Nat → Addr} {down across pl x y : Nat} {cell : Cell} {many : Int} (hm : 0 < many) (hm' : many ≤ 16) (hd : down ≤ 3) (ha : across ≤ 3) (H : GridIn mt P refs down (rowC across cell)) (hp : pl < 2) (hy : y < down) (hx : x < across)
    (hne : ∀ i z, i < 2 * down → z < across → 0 < ((cell i z).getD (zeroL many)).length) : CallW (cx w p loose mg mb) (n + 2) (.ref 365) [gD many P, .int pl, .int x, .int y, .int across, .int down] mt
    (fun d mt' => d = .list (iL (nineL cell many pl down across x y)) ∧ mt = mt') := by
  walk_at "m_def"
  intro f gf
  refine fun _ _ => ?_; refine ExW.consO fun _ _ => ?_; refine ExW.assign (by with_reducible assumption) (by walk_at "m_sto") (TW.listM ?_); refine AW.ev (by walk_at "el") ?_; refine ⟨by walk_at "m_len", fun _ => ?_⟩; refine ⟨_, by walk_at "m_set", ?_⟩; refine SeqK.next (by with_reducible assumption) ?_; refine ExW.consO fun _ _ => ?_; refine ExW.forQ ?_; refine TW.ev (by walk_at "e") ?_
  rename_i a _ _
  unfold gD
  refine ⟨iL [-1, 0, 1], fun i loc mt' => Inv loc mt' [("found", .ref a), ("grid", gD many P), ("place", .int pl), ("x", .int x), ("y", .int y), ("across", .int across), ("down", .int down)] ((a, .lst (iL ((List.range (3 * i)).map (nineV cell many pl down across x y)))) :: mt), .tup _, ⟨rfl, rfl⟩, ?_, ?_⟩
  · rintro i d' loc' mt' hi ⟨rfl, rfl⟩
    obtain ⟨hi3, rfl⟩ := tri_get hi
    refine fun _ _ => ?_; refine AsW.name (by with_reducible assumption) (by walk_at "m_sto") ⟨_, by walk_at "m_set", ?_⟩; refine ExW.last ?_; refine ExW.forQ ?_; refine TW.ev (by walk_at "e") ?_
    refine ⟨iL [-1, 0, 1], fun j loc mt' => Inv loc mt' [("step", .int ((i : Int) - 1)), ("found", .ref a), ("grid", gD many P), ("place", .int pl), ("x", .int x), ("y", .int y), ("across", .int across), ("down", .int down)] ((a, .lst (iL ((List.range (3 * i + j)).map (nineV cell many pl down across x y)))) :: mt), .tup _, ⟨rfl, rfl⟩, ?_, ?_⟩
    · rintro j d' loc' mt' hj ⟨rfl, rfl⟩
      obtain ⟨hj3, rfl⟩ := tri_get hj
      refine fun _ _ => ?_; refine AsW.name (by with_reducible assumption) (by walk_at "m_sto") ⟨_, by walk_at "m_set", ?_⟩; refine ExW.last ?_; refine ExW.expr (by with_reducible assumption) ?_; refine TW.appendP ?_; refine TW.ev (by walk_at "e") ?_; refine AppO.mk (by first | walk_at "m_in" | exact At.mem (by assumption) | exact At.mem (At.re (by assumption) _)) ?_; refine TW.sub ?_; refine TW.methP ?_; refine TW.ev (by walk_at "e") ?_; refine MethW.mk (by walk_at "m_ins") (by walk_at "m_cls") (by walk_at "m_k") (by walk_at "m_k") (by walk_at "m_k") (by rfl) ?_; refine AW.cons ?_; refine TW.ev (by walk_at "e") ?_; refine AW.cons ?_; refine TW.call (by with_reducible assumption) rfl (by walk_at "m_k") (by walk_at "m_k") ?_; refine AW.ev (by walk_at "el") ?_
      unfold gD
      skip
      refine kept_ok.mono ?_
      rintro d mt' ⟨rfl, e⟩
      subst e
      refine AW.cons ?_; refine TW.call (by with_reducible assumption) rfl (by walk_at "m_k") (by walk_at "m_k") ?_; refine AW.ev (by walk_at "el") ?_
      refine kept_ok.mono ?_
      rintro d mt' ⟨rfl, e⟩
      subst e
      refine AW.ev (by walk_at "el") ?_
      obtain ⟨k1, k2⟩ := kN_ok (z := (x : Int) + ((j : Int) - 1)) (s := across) (by walk_at "m_o")
      obtain ⟨k3, k4⟩ := kN_ok (z := (y : Int) + ((i : Int) - 1)) (s := down) (by walk_at "m_o")
      refine (getG_ok (cell := cell) (by walk_at "m_o") hm' hd ha (H.mono fun q hq => .tail _ hq) hp k4 k2 rfl k1 k3).mono ?_
      rintro d mt' ⟨rfl, e⟩
      subst e
      refine TW.ev (by walk_at "e") ?_
      have hl := hne (pl * down + kN ((y : Int) + ((i : Int) - 1)) down) (kN ((x : Int) + ((j : Int) - 1)) across) (idx_lt hp k4) k2
      refine T2.itemI (.list _) (by walk_at "m_o") (by walk_at "m_o") (by walk_at "m_o") ?_
      refine AppE.mk (by walk_at "m_atq") (by walk_at "m_len") ?_; refine ⟨rfl, ?_⟩; refine LoopK.next (by with_reducible assumption) ?_
      refine ⟨_, _, .cons _ (.refl _), .refl _, rfl, ?_⟩
      have e1 : (3 * i + j) / 3 = i := by omega
      have e2 : (3 * i + j) % 3 = j := by omega
      have e3 : iL ((List.range (3 * i + j)).map (nineV cell many pl down across x y)) ++ [D.int (nineV cell many pl down across x y (3 * i + j))] = iL ((List.range (3 * i + (j + 1))).map (nineV cell many pl down across x y)) := by
        rw [show 3 * i + (j + 1) = (3 * i + j) + 1 by omega, List.range_succ, List.map_append]
        simp [iL]
      rw [← e3]
      unfold nineV
      rw [e1, e2]
      rfl
    · rintro loc' mt' ⟨rfl, rfl⟩
      refine LoopK.next (by with_reducible assumption) ?_
      exact ⟨_, _, .cons _ (.refl _), .refl _, rfl, rfl⟩
  · rintro loc' mt' ⟨rfl, rfl⟩
    refine SeqK.next (by with_reducible assumption) ?_; refine ExW.last ?_; refine ExW.ret (TW.nameF (GF.kind (by with_reducible assumption)) (by walk_at "m_in") (by walk_at "m_rem") ?_); refine RetK.go (by with_reducible assumption) ?_
    exact RetW.ret ⟨rfl, rfl⟩ (.refl _)
noncomputable def smCell (cell : Cell) (many : Int) (q kn : List Int) (k : Int) (pl down across : Nat) (y x : Nat) : List Int := smRow ((cell (pl * down + y) x).getD (zeroL many)) (nineL cell many pl down across x y) q kn k
noncomputable def smTill (cell f0 : Cell) (many : Int) (q kn : List Int) (k : Int) (pl down across m : Nat) : Cell := fun i x => if pl * down ≤ i ∧ i < (pl + 1) * down ∧ x < across ∧ (i - pl * down) * across + x < m then some (smCell cell many q kn k pl down across (i - pl * down) x) else f0 i x
theorem smTill_step (cell f0 : Cell) (many : Int) (q kn : List Int) (k : Int) (pl down across y x : Nat) (hy : y < down) (hx : x < across) :
    updC (smTill cell f0 many q kn k pl down across (y * across + x)) (pl * down + y) x (smCell cell many q kn k pl down across y x) = smTill cell f0 many q kn k pl down across (y * across + x + 1) := by
  funext i z
  unfold updC smTill
  by_cases e : i = pl * down + y ∧ z = x
  · obtain ⟨rfl, rfl⟩ := e
    have h1 : pl * down + y < (pl + 1) * down := by rw [Nat.succ_mul]; omega
    have h2 : pl * down + y - pl * down = y := by omega
    rw [if_pos ⟨rfl, rfl⟩, h2, if_pos ⟨by omega, h1, hx, by omega⟩]
  · rw [if_neg e]
    by_cases h : pl * down ≤ i ∧ i < (pl + 1) * down ∧ z < across
    · obtain ⟨h1, h2, h3⟩ := h
      have key : (i - pl * down) * across + z ≠ y * across + x := by
        intro h4
        have h5 : i - pl * down = y := by
          rcases Nat.lt_trichotomy (i - pl * down) y with h6 | h6 | h6
          · have : (i - pl * down + 1) * across ≤ y * across := Nat.mul_le_mul_right _ h6
            rw [Nat.succ_mul] at this
            omega
          · exact h6
          · have : (y + 1) * across ≤ (i - pl * down) * across := Nat.mul_le_mul_right _ h6
            rw [Nat.succ_mul] at this
            omega
        rw [h5] at h4
        exact e ⟨by omega, by omega⟩
      by_cases h4 : (i - pl * down) * across + z < y * across + x
      · rw [if_pos ⟨h1, h2, h3, h4⟩, if_pos ⟨h1, h2, h3, by omega⟩]
      · rw [if_neg (fun h => h4 h.2.2.2), if_neg (fun h => h4 (by walk_at "m_o"))]
    · rw [if_neg (fun g => h ⟨g.1, g.2.1, g.2.2.1⟩), if_neg (fun g => h ⟨g.1, g.2.1, g.2.2.1⟩)]
end

-- C10
section
variable {w : World} {p : Program} {loose : List PySem.Str} {mg mb : PySem.Str → Option Value}
structure CellsOk (cell : Cell) (q kn : List Int) (k : Int) (down across : Nat) : Prop where
  hk : Side k
  len : ∀ i x, i < 2 * down → x < across → (((cell i x).getD (zeroL (k * k))).length : Int) = k * k
  dc : ∀ i x, i < 2 * down → x < across → -1000 ≤ dcV cell (k * k) i x ∧ dcV cell (k * k) i x ≤ 1000
  qL : (q.length : Int) = k * k
  knL : (kn.length : Int) = k * k
  q1 : ∀ x ∈ q, 1 ≤ x ∧ x ≤ 256
  kn1 : ∀ x ∈ kn, -1 ≤ x ∧ x ≤ 3
theorem nineV_small {cell : Cell} {q kn : List Int} {k : Int} {pl down across x y j : Nat} (h : CellsOk cell q kn k down across) (hp : pl < 2) (hy : y < down) (hx : x < across) : -1000 ≤ nineV cell (k * k) pl down across x y j ∧ nineV cell (k * k) pl down across x y j ≤ 1000 :=
  h.dc _ _ (idx_lt hp (kN_ok (by walk_at "m_o")).2) (kN_ok (by walk_at "m_o")).2
theorem CellsOk.row {cell : Cell} {q kn : List Int} {k : Int} {pl down across x y : Nat} (h : CellsOk cell q kn k down across) (hp : pl < 2) (hy : y < down) (hx : x < across) : RowOk ((cell (pl * down + y) x).getD (zeroL (k * k))) (nineL cell (k * k) pl down across x y) q kn k where
  hk := h.hk
  rowL := h.len _ _ (idx_lt hp hy) hx
  qL := h.qL
  knL := h.knL
  nineL := by simp [nineL]
  n1 := fun v hv => by
    obtain ⟨j, _, rfl⟩ := List.mem_map.mp hv
    exact nineV_small h hp hy hx
  q1 := h.q1
  kn1 := h.kn1
theorem smooth_comp_ok {n : Nat} {rest : Mt} {P PF : Addr} {refs refsF : Nat → Addr} {down across pl : Nat} {cell cF : Cell} {k : Int} {q kn : List Int} (hc : CellsOk cell q kn k down across) (hd : down ≤ 3) (ha : across ≤ 3) (hp : pl < 2) (H : GridIn rest P refs down (rowC across cell)) :
    CallW (cx w p loose mg mb) (n + 6) (.ref 372) [gD (k * k) P, gD (k * k) PF, .int pl, .tup [.int across, .int down], .list (iL q), .list (iL kn), .int k] (gM refsF PF down (rowC across cF) rest)
    (fun d mt' => d = .none ∧ gM refsF PF down (rowC across (smTill cell cF (k * k) q kn k pl down across (down * across))) rest = mt') := by
  have hk := hc.hk
  obtain ⟨kl, kh, kk1, kk2⟩ := hk.bd
  walk_at "m_def"
  intro f gf
  refine fun _ _ => ?_; refine ExW.consO fun _ _ => ?_; refine ExW.assignTup ?_ (by rfl); refine TW.ev (by walk_at "e") ?_; refine AsW.tuple (by with_reducible assumption) (by walk_at "m_names") (Sto.all (by rfl)) (by walk_at "m_seq") (by rfl) ⟨_, by walk_at "m_sets", ?_⟩; refine SeqK.next (by with_reducible assumption) ?_; refine ExW.last ?_; refine ExW.forQ ?_; refine TW.callT (by with_reducible assumption) rfl (by walk_at "m_k") (by boot_by_name) ?_; refine AW.ev (by walk_at "el") ?_; refine CallB.range1 ?_
  refine ⟨_, fun y loc mt' => Inv loc mt' [("down", .int down), ("across", .int across), ("grid", gD (k * k) P), ("found", gD (k * k) PF), ("place", .int pl), ("size", .tup [.int across, .int down]), ("qtable", .list (iL q)), ("known", .list (iL kn)), ("n", .int k)] (gM refsF PF down (rowC across (smTill cell cF (k * k) q kn k pl down across (y * across))) rest),
    .upto down (by walk_at "m_o") (by walk_at "m_o") (by walk_at "m_o"), ⟨rfl, ?_⟩, ?_, ?_⟩
  · have : smTill cell cF (k * k) q kn k pl down across (0 * across) = cF := by
      funext i x
      unfold smTill
      rw [if_neg (by walk_at "m_o")]
    rw [this]
  · rintro y d' loc' mt' hy ⟨rfl, rfl⟩
    obtain ⟨hy1, rfl⟩ := rangeItems_get0 hy
    refine fun _ _ => ?_; refine AsW.name (by with_reducible assumption) (by walk_at "m_sto") ⟨_, by walk_at "m_set", ?_⟩; refine ExW.last ?_; refine ExW.forQ ?_; refine TW.callT (by with_reducible assumption) rfl (by walk_at "m_k") (by boot_by_name) ?_; refine AW.ev (by walk_at "el") ?_; refine CallB.range1 ?_
    refine ⟨_, fun x loc mt' => Inv loc mt' [("y", .int y), ("down", .int down), ("across", .int across), ("grid", gD (k * k) P), ("found", gD (k * k) PF), ("place", .int pl), ("size", .tup [.int across, .int down]), ("qtable", .list (iL q)), ("known", .list (iL kn)), ("n", .int k)] (gM refsF PF down (rowC across (smTill cell cF (k * k) q kn k pl down across (y * across + x))) rest),
      .upto across (by walk_at "m_o") (by walk_at "m_o") (by walk_at "m_o"), ⟨rfl, rfl⟩, ?_, ?_⟩
    · rintro x d' loc' mt' hx ⟨rfl, rfl⟩
      obtain ⟨hx1, rfl⟩ := rangeItems_get0 hx
      refine fun _ _ => ?_; refine AsW.name (by with_reducible assumption) (by walk_at "m_sto") ⟨_, by walk_at "m_set", ?_⟩; refine ExW.consO fun _ _ => ?_; refine ExW.assign (by with_reducible assumption) (by walk_at "m_sto") ?_; refine TW.methP ?_; refine TW.ev (by walk_at "e") ?_; refine MethW.mk (by walk_at "m_ins") (by walk_at "m_cls") (by walk_at "m_k") (by walk_at "m_k") (by walk_at "m_k") (by rfl) ?_; refine AW.ev (by walk_at "el") ?_
      unfold gD
      skip
      refine (getG_ok (cell := cell) (by walk_at "m_o") (by walk_at "m_o") hd ha (H.mono fun q hq => gM_sub q hq) hp hy1 hx1 rfl rfl rfl).mono ?_
      rintro d mt' ⟨rfl, e⟩
      subst e
      refine ⟨_, by walk_at "m_set", ?_⟩; refine SeqK.next (by with_reducible assumption) ?_; refine ExW.consO fun _ _ => ?_; refine ExW.assign (by with_reducible assumption) (by walk_at "m_sto") ?_; refine TW.call (by with_reducible assumption) rfl (by walk_at "m_k") (by walk_at "m_k") ?_; refine AW.ev (by walk_at "el") ?_
      refine (nine_ok (n := n + 3) (cell := cell) (by walk_at "m_o") (by walk_at "m_o") hd ha (H.mono fun q hq => gM_sub q hq) hp hy1 hx1 (fun i z hi hz => by have := hc.len i z hi hz; omega)).mono ?_
      rintro d mt' ⟨rfl, e⟩
      subst e
      refine ⟨_, by walk_at "m_set", ?_⟩; refine SeqK.next (by with_reducible assumption) ?_; refine ExW.last ?_; refine ExW.expr (by with_reducible assumption) ?_; refine TW.methP ?_; refine TW.ev (by walk_at "e") ?_; refine MethW.mk (by walk_at "m_ins") (by walk_at "m_cls") (by walk_at "m_k") (by walk_at "m_k") (by walk_at "m_k") (by rfl) ?_; refine AW.cons ?_; refine TW.ev (by walk_at "e") ?_; refine AW.cons ?_; refine TW.ev (by walk_at "e") ?_; refine AW.cons ?_; refine TW.ev (by walk_at "e") ?_; refine AW.cons ?_; refine TW.call (by with_reducible assumption) rfl (by walk_at "m_k") (by walk_at "m_k") ?_; refine AW.ev (by walk_at "el") ?_
      refine (smooth_ok (n := n) (hc.row hp hy1 hx1)).mono ?_
      rintro d mt' ⟨rfl, e⟩
      subst e
      refine AW.ev (by walk_at "el") ?_
      refine (putG_ok (by unfold smRow; rw [smTo_len]; have := hc.len _ _ (idx_lt hp hy1) hx1; omega) hd ha hp hy1 hx1 rfl rfl rfl).mono ?_
      rintro d mt' ⟨rfl, e⟩
      subst e
      refine ⟨rfl, ?_⟩; refine LoopK.next (by with_reducible assumption) ?_
      refine ⟨_, _, .cons _ (.cons _ (.cons _ (.refl _))), .refl _, rfl, ?_⟩
      exact congrArg (fun c => gM refsF PF down (rowC across c) rest) (smTill_step cell cF (k * k) q kn k pl down across y x hy1 hx1)
    · rintro loc' mt' ⟨rfl, rfl⟩
      refine LoopK.next (by with_reducible assumption) ?_
      refine ⟨_, _, .cons _ (.refl _), .refl _, rfl, ?_⟩
      rw [rangeItems_len, Nat.succ_mul]
  · rintro loc' mt' ⟨rfl, rfl⟩
    refine RetK.go (by with_reducible assumption) ?_
    exact RetW.next ⟨rfl, by rw [rangeItems_len]⟩ (.refl _)
end

-- C11
section
variable {w : World} {p : Program} {loose : List PySem.Str} {mg mb : PySem.Str → Option Value}
theorem blank_row (across : Nat) : ∀ i, blank across = rowC across (fun _ _ => none) i := fun i => by
  unfold blank rowC oR
  apply List.ext_getElem?
  intro j
  simp [List.getElem?_replicate]
  split <;> simp_all
theorem gM_congr {refs : Nat → Addr} {P : Addr} {down : Nat} {row row' : Nat → List D} {rest : Mt} (h : ∀ i, i < 2 * down → row i = row' i) : gM refs P down row rest = gM refs P down row' rest := by
  unfold gM
  rw [rowsTo_congr fun j hj => ⟨rfl, h j hj⟩]
noncomputable def cpTill (cell : Cell) (across m : Nat) : Cell := fun i x => if i * across + x < m ∧ x < across then cell i x else none
theorem cpTill_step {cell : Cell} {across i x : Nat} {r : List Int} (hx : x < across) (hr : cell i x = some r) : updC (cpTill cell across (i * across + x)) i x r = cpTill cell across (i * across + x + 1) := by
  funext j z
  unfold updC cpTill
  by_cases e : j = i ∧ z = x
  · obtain ⟨rfl, rfl⟩ := e
    rw [if_pos ⟨rfl, rfl⟩, if_pos ⟨by omega, hx⟩, hr]
  · rw [if_neg e]
    by_cases hz : z < across
    · have key : j * across + z ≠ i * across + x := by
        intro h4
        have h5 : j = i := by
          rcases Nat.lt_trichotomy j i with h6 | h6 | h6
          · have : (j + 1) * across ≤ i * across := Nat.mul_le_mul_right _ h6
            rw [Nat.succ_mul] at this
            omega
          · exact h6
          · have : (i + 1) * across ≤ j * across := Nat.mul_le_mul_right _ h6
            rw [Nat.succ_mul] at this
            omega
        rw [h5] at h4
        exact e ⟨h5, by omega⟩
      by_cases h4 : j * across + z < i * across + x
      · rw [if_pos ⟨h4, hz⟩, if_pos ⟨by omega, hz⟩]
      · rw [if_neg (fun h => h4 h.1), if_neg (fun h => h4 (by walk_at "m_o"))]
    · rw [if_neg (fun h => hz h.2), if_neg (fun h => hz h.2)]
theorem cpTill_all {cell : Cell} {across down : Nat} {i : Nat} (hi : i < 2 * down) : rowC across (cpTill cell across (2 * down * across)) i = rowC across cell i := by
  unfold rowC cpTill
  apply List.map_congr_left
  intro x hx
  have hx := List.mem_range.mp hx
  have : (i + 1) * across ≤ 2 * down * across := Nat.mul_le_mul_right _ hi
  rw [Nat.succ_mul] at this
  rw [if_pos ⟨by omega, hx⟩]
theorem copied_ok {n : Nat} {mt : Mt} {P : Addr} {refs : Nat → Addr} {down across : Nat} {cell : Cell} {k : Int} (hk : Side k) (hd : down ≤ 3) (ha : across ≤ 3) (H : GridIn mt P refs down (rowC across cell))
    (hf : ∀ i x, i < 2 * down → x < across → ∃ r, cell i x = some r ∧ r.length ≤ 1000) : CallW (cx w p loose mg mb) (n + 6) (.ref 61) [gD (k * k) P, frameD (k * down) (k * across) k] mt
    (fun d mt' => ∃ PF refsF, d = gD (k * k) PF ∧ gM refsF PF down (rowC across cell) mt = mt') := by
  obtain ⟨kl, kh, kk1, kk2⟩ := hk.bd
  walk_at "m_def"
  intro f gf
  refine fun _ _ => ?_; refine ExW.consO fun _ _ => ?_; refine ExW.assign (by with_reducible assumption) (by walk_at "m_sto") ?_; refine TW.new (by with_reducible assumption) rfl (by walk_at "m_k") (by walk_at "m_k") (by walk_at "m_k") (by walk_at "m_k") (by walk_at "m_k") ?_; refine AW.ev (by walk_at "el") ?_
  intro dx
  refine (grid_init (n := n) hk ha hd).mono ?_
  rintro d mt' ⟨rfl, PF, refsF, rfl⟩
  refine ⟨rfl, _, _, Rem.pre (.tail .head) _, ?_⟩
  refine ⟨_, by walk_at "m_set", ?_⟩; refine SeqK.next (by with_reducible assumption) ?_; refine ExW.consO fun _ _ => ?_; refine ExW.forQ ?_; refine TW.callT (by with_reducible assumption) rfl (by walk_at "m_k") (by boot_by_name) ?_; refine AW.cons ?_; refine TW.callB (by with_reducible assumption) rfl (by walk_at "m_k") (by boot_by_name) ?_; refine AW.ev (by walk_at "el") ?_
  have e0 : rowsTo refsF (fun _ => blank across) (2 * down) ++ (PF, M.lst (planesTo refsF down 2)) :: mt = gM refsF PF down (rowC across (cpTill cell across (0 * down * across))) mt := by
    refine gM_congr fun i hi => ?_
    rw [blank_row across i]
    unfold rowC cpTill
    apply List.map_congr_left
    intro x _
    rw [if_neg (by walk_at "m_o")]
  rw [e0]
  unfold gD
  skip
  have hl2 : (planesTo refs down 2).length = 2 := by simp [planesTo]
  refine CallB.len (.ref (gM_sub _ H.1)) (by walk_at "m_o") ?_
  rw [hl2]
  refine AW.ev (by walk_at "el") ?_; refine CallB.range1 ?_
  refine ⟨_, fun q loc mt' => Inv loc mt' [("found", gD (k * k) PF), ("grid", gD (k * k) P), ("frame", frameD (k * down) (k * across) k)] (gM refsF PF down (rowC across (cpTill cell across (q * down * across))) mt), .upto 2 (by decide) (by decide) (by decide), ⟨rfl, rfl⟩, ?_, ?_⟩
  · rintro q d' loc' mt' hq ⟨rfl, rfl⟩
    obtain ⟨hq2, rfl⟩ := rangeItems_get0 hq
    have hp := planes_get refs down hq2
    refine fun _ _ => ?_; refine AsW.name (by with_reducible assumption) (by walk_at "m_sto") ⟨_, by walk_at "m_set", ?_⟩; refine ExW.last ?_; refine ExW.forQ ?_; refine TW.callT (by with_reducible assumption) rfl (by walk_at "m_k") (by boot_by_name) ?_; refine AW.cons ?_; refine TW.callB (by with_reducible assumption) rfl (by walk_at "m_k") (by boot_by_name) ?_; refine AW.cons ?_; refine TW.sub ?_; refine TW.ev (by walk_at "e") ?_; refine TW.ev (by walk_at "e") ?_
    unfold gD
    skip
    refine T2.item (.ref (gM_sub _ H.1)) (by walk_at "m_o") (by walk_at "m_o") (by rw [Int.toNat_natCast]; exact hp) ?_
    refine AW.ev (by walk_at "el") ?_
    refine CallB.len (.list _) (by simp; omega) ?_
    rw [List.length_map, List.length_range]
    refine AW.ev (by walk_at "el") ?_; refine CallB.range1 ?_
    refine ⟨_, fun y loc mt' => Inv loc mt' [("place", .int q), ("found", gD (k * k) PF), ("grid", gD (k * k) P), ("frame", frameD (k * down) (k * across) k)] (gM refsF PF down (rowC across (cpTill cell across ((q * down + y) * across))) mt), .upto down (by walk_at "m_o") (by walk_at "m_o") (by walk_at "m_o"), ⟨rfl, rfl⟩, ?_, ?_⟩
    · rintro y d' loc' mt' hy ⟨rfl, rfl⟩
      obtain ⟨hy1, rfl⟩ := rangeItems_get0 hy
      have hi := idx_lt hq2 hy1
      refine fun _ _ => ?_; refine AsW.name (by with_reducible assumption) (by walk_at "m_sto") ⟨_, by walk_at "m_set", ?_⟩; refine ExW.last ?_; refine ExW.forQ ?_; refine TW.callT (by with_reducible assumption) rfl (by walk_at "m_k") (by boot_by_name) ?_; refine AW.cons ?_; refine TW.callB (by with_reducible assumption) rfl (by walk_at "m_k") (by boot_by_name) ?_; refine AW.cons ?_; refine TW.sub ?_; refine TW.sub ?_; refine TW.ev (by walk_at "e") ?_; refine TW.ev (by walk_at "e") ?_
      unfold gD
      skip
      refine T2.item (.ref (gM_sub _ H.1)) (by walk_at "m_o") (by walk_at "m_o") (by rw [Int.toNat_natCast]; exact hp) ?_
      refine TW.ev (by walk_at "e") ?_
      refine T2.item (.list _) (d' := .ref (refs (q * down + y))) (by walk_at "m_o") (by walk_at "m_o") (by simp [hy1]) ?_
      refine AW.ev (by walk_at "el") ?_
      refine CallB.len (.ref (gM_sub _ (H.2 _ hi))) (by simp [rowC]; omega) ?_
      rw [show (rowC across cell (q * down + y)).length = across by simp [rowC]]
      refine AW.ev (by walk_at "el") ?_; refine CallB.range1 ?_
      refine ⟨_, fun x loc mt' => Inv loc mt' [("y", .int y), ("place", .int q), ("found", gD (k * k) PF), ("grid", gD (k * k) P), ("frame", frameD (k * down) (k * across) k)] (gM refsF PF down (rowC across (cpTill cell across ((q * down + y) * across + x))) mt), .upto across (by walk_at "m_o") (by walk_at "m_o") (by walk_at "m_o"), ⟨rfl, rfl⟩, ?_, ?_⟩
      · rintro x d' loc' mt' hx ⟨rfl, rfl⟩
        obtain ⟨hx1, rfl⟩ := rangeItems_get0 hx
        obtain ⟨r, hr, hr'⟩ := hf _ _ hi hx1
        refine fun _ _ => ?_; refine AsW.name (by with_reducible assumption) (by walk_at "m_sto") ⟨_, by walk_at "m_set", ?_⟩; refine ExW.last ?_; refine ExW.if_ ?_; refine BW.compare ?_; refine TW.sub ?_; refine TW.sub ?_; refine TW.sub ?_; refine TW.ev (by walk_at "e") ?_; refine TW.ev (by walk_at "e") ?_
        unfold gD
        skip
        refine T2.item (.ref (gM_sub _ H.1)) (by walk_at "m_o") (by walk_at "m_o") (by rw [Int.toNat_natCast]; exact hp) ?_
        refine TW.ev (by walk_at "e") ?_
        refine T2.item (.list _) (d' := .ref (refs (q * down + y))) (by walk_at "m_o") (by walk_at "m_o") (by simp [hy1]) ?_
        refine TW.ev (by walk_at "e") ?_
        refine T2.item (.ref (gM_sub _ (H.2 _ hi))) (d' := oR (some r)) (by walk_at "m_o") (by walk_at "m_o") (by simp [rowC, hx1, hr]) ?_
        unfold oR
        refine TW.ev (by walk_at "e") ?_; refine T2.notNone ?_; refine B1.bool ?_
        refine ⟨fun _ => ?_, (fun h => nomatch h)⟩
        refine ExW.last ?_; refine ExW.expr (by with_reducible assumption) ?_; refine TW.methP ?_; refine TW.ev (by walk_at "e") ?_; refine MethW.mk (by walk_at "m_ins") (by walk_at "m_cls") (by walk_at "m_k") (by walk_at "m_k") (by walk_at "m_k") (by rfl) ?_; refine AW.cons ?_; refine TW.ev (by walk_at "e") ?_; refine AW.cons ?_; refine TW.ev (by walk_at "e") ?_; refine AW.cons ?_; refine TW.ev (by walk_at "e") ?_; refine AW.cons ?_; refine TW.sub ?_; refine TW.sub ?_; refine TW.sub ?_; refine TW.ev (by walk_at "e") ?_; refine TW.ev (by walk_at "e") ?_
        refine T2.item (.ref (gM_sub _ H.1)) (by walk_at "m_o") (by walk_at "m_o") (by rw [Int.toNat_natCast]; exact hp) ?_
        refine TW.ev (by walk_at "e") ?_
        refine T2.item (.list _) (d' := .ref (refs (q * down + y))) (by walk_at "m_o") (by walk_at "m_o") (by simp [hy1]) ?_
        refine TW.ev (by walk_at "e") ?_
        refine T2.item (.ref (gM_sub _ (H.2 _ hi))) (d' := oR (some r)) (by walk_at "m_o") (by walk_at "m_o") (by simp [rowC, hx1, hr]) ?_
        unfold oR
        refine AW.ev (by walk_at "el") ?_
        refine (putG_ok hr' hd ha hq2 hy1 hx1 rfl rfl rfl).mono ?_
        rintro d mt' ⟨rfl, e⟩
        subst e
        refine ⟨rfl, ?_⟩; refine LoopK.next (by with_reducible assumption) ?_
        refine ⟨_, _, .cons _ (.refl _), .refl _, rfl, ?_⟩
        exact congrArg (fun c => gM refsF PF down (rowC across c) mt) (cpTill_step hx1 hr)
      · rintro loc' mt' ⟨rfl, rfl⟩
        refine LoopK.next (by with_reducible assumption) ?_
        refine ⟨_, _, .cons _ (.refl _), .refl _, rfl, ?_⟩
        rw [rangeItems_len, ← Nat.add_assoc, Nat.succ_mul (q * down + y)]
    · rintro loc' mt' ⟨rfl, rfl⟩
      refine LoopK.next (by with_reducible assumption) ?_
      refine ⟨_, _, .cons _ (.refl _), .refl _, rfl, ?_⟩
      rw [rangeItems_len, Nat.succ_mul q]
  · rintro loc' mt' ⟨rfl, rfl⟩
    refine SeqK.next (by with_reducible assumption) ?_; refine ExW.last ?_; refine ExW.retE (by walk_at "e") ?_; refine RetK.go (by with_reducible assumption) ?_
    refine RetW.ret ⟨PF, refsF, rfl, ?_⟩ (.refl _)
    rw [rangeItems_len]
    exact gM_congr fun i hi => (cpTill_all hi).symm
end

-- C12
section
variable {w : World} {p : Program} {loose : List PySem.Str} {mg mb : PySem.Str → Option Value}
structure ScOk (many : Int) (s : Sc) : Prop where
  s0 : 0 ≤ s.st
  s1 : s.st < many
  e0 : s.st ≤ s.en
  e1 : s.en < 1000
  l0 : 0 ≤ s.low
  l1 : s.low ≤ 3
noncomputable def knO (scans : List Sc) (many : Int) (q : Int) : List Int := knL many.toNat (kAll q scans)
theorem known_okI {n : Nat} {mt : Mt} {scans : List Sc} {place many : Int} (hm : 0 < many) (hm' : many ≤ 16) (hs : ∀ s ∈ scans, ScOk many s) :
    CallW (cx w p loose mg mb) (n + 1) (.ref 318) [.list (scans.map Sc.d), .int place, .int many] mt (fun d mt' => d = .list (iL (knO scans many place)) ∧ mt = mt') := by
  have e : many = (many.toNat : Int) := by omega
  have := known_ok (w := w) (p := p) (loose := loose) (mg := mg) (mb := mb) (n := n) (mt := mt) (scans := scans) (place := place) (many := many.toNat) (by walk_at "m_o") (by walk_at "m_o") fun s h => by
    obtain ⟨a, b, c, d, _, _⟩ := hs s h
    exact ⟨a, by omega, c, d⟩
  rw [← e] at this
  exact this
theorem knO_len (scans : List Sc) (many q : Int) (h : 0 ≤ many) : ((knO scans many q).length : Int) = many := by
  unfold knO knL
  simp; omega
theorem kAll_ok {many : Int} {q : Int} {scans : List Sc} (hs : ∀ s ∈ scans, ScOk many s) (r : Nat) : -1 ≤ kAll q scans r ∧ kAll q scans r ≤ 3 := by
  unfold kAll
  have gen : ∀ (l : List Sc) (f : Nat → Int), (∀ s ∈ l, ScOk many s) → (-1 ≤ f r ∧ f r ≤ 3) → -1 ≤ l.foldl (kStep q) f r ∧ l.foldl (kStep q) f r ≤ 3 := by
    intro l
    induction l with
    | nil => intro f _ h; exact h
    | cons s l ih =>
      intro f hl h
      refine ih _ (fun s hs => hl s (.tail _ hs)) ?_
      unfold kStep
      have := hl s (.head _)
      split
      · exact ⟨by have := this.l0; omega, this.l1⟩
      · exact h
  exact gen scans _ hs (by simp)
theorem knO_ok {many : Int} {q : Int} {scans : List Sc} (hs : ∀ s ∈ scans, ScOk many s) : ∀ x ∈ knO scans many q, -1 ≤ x ∧ x ≤ 3 := fun x hx => by
  obtain ⟨r, _, rfl⟩ := List.mem_map.mp hx
  exact kAll_ok hs r
noncomputable def smAll (cell : Cell) (tabs : Nat → List Int) (scans : List Sc) (k : Int) (down across : Nat) : Nat → Cell
  | 0 => cell
  | q + 1 => if worthI (knO scans (k * k) q) k = true then smTill cell (smAll cell tabs scans k down across q) (k * k) (tabs q) (knO scans (k * k) q) k q down across (down * across) else smAll cell tabs scans k down across q
theorem smgrid_ok {n : Nat} {mt : Mt} {P : Addr} {refs : Nat → Addr} {down across : Nat} {cell : Cell} {k : Int} {tabs : Nat → List Int} {scans : List Sc} (hk : Side k) (hd : down ≤ 3) (ha : across ≤ 3) (H : GridIn mt P refs down (rowC across cell))
    (hf : ∀ i x, i < 2 * down → x < across → ∃ r, cell i x = some r ∧ r.length ≤ 1000) (hs : ∀ s ∈ scans, ScOk (k * k) s) (hc : ∀ q : Nat, q < 2 → CellsOk cell (tabs q) (knO scans (k * k) q) k down across) :
    CallW (cx w p loose mg mb) (n + 7) (.ref 379) [gD (k * k) P, frameD (k * down) (k * across) k, .list [.list (iL (tabs 0)), .list (iL (tabs 1))], .list (scans.map Sc.d)] mt
    (fun d mt' => ∃ PF refsF, d = gD (k * k) PF ∧ gM refsF PF down (rowC across (smAll cell tabs scans k down across 2)) mt = mt') := by
  obtain ⟨kl, kh, kk1, kk2⟩ := hk.bd
  walk_at "m_def"
  intro f gf
  refine fun _ _ => ?_; refine ExW.consO fun _ _ => ?_; refine ExW.assign (by with_reducible assumption) (by walk_at "m_sto") ?_; refine TW.call (by with_reducible assumption) rfl (by walk_at "m_k") (by walk_at "m_k") ?_; refine AW.ev (by walk_at "el") ?_
  refine (copied_ok hk hd ha H hf).mono ?_
  rintro d mt' ⟨PF, refsF, rfl, e⟩
  subst e
  refine ⟨_, by walk_at "m_set", ?_⟩; refine SeqK.next (by with_reducible assumption) ?_; refine ExW.consO fun _ _ => ?_; refine ExW.forQ ?_; refine TW.callT (by with_reducible assumption) rfl (by walk_at "m_k") (by boot_by_name) ?_; refine AW.cons ?_; refine TW.callB (by with_reducible assumption) rfl (by walk_at "m_k") (by boot_by_name) ?_; refine AW.ev (by walk_at "el") ?_
  unfold frameD
  skip
  refine CallB.len (.list _) (by decide) ?_
  refine AW.ev (by walk_at "el") ?_; refine CallB.range1 ?_
  refine ⟨_, fun q loc mt' => Inv loc mt' [("found", gD (k * k) PF), ("grid", gD (k * k) P), ("frame", frameD (k * down) (k * across) k), ("qtables", .list [.list (iL (tabs 0)), .list (iL (tabs 1))]), ("scans", .list (scans.map Sc.d))] (gM refsF PF down (rowC across (smAll cell tabs scans k down across q)) mt), .upto 2 (by decide) (by decide) (by decide), ⟨rfl, rfl⟩, ?_, ?_⟩
  · rintro q d' loc' mt' hq ⟨rfl, rfl⟩
    obtain ⟨hq2, rfl⟩ := rangeItems_get0 hq
    refine fun _ _ => ?_; refine AsW.name (by with_reducible assumption) (by walk_at "m_sto") ⟨_, by walk_at "m_set", ?_⟩; refine ExW.consO fun _ _ => ?_; refine ExW.assign (by with_reducible assumption) (by walk_at "m_sto") ?_; refine TW.call (by with_reducible assumption) rfl (by walk_at "m_k") (by walk_at "m_k") ?_; refine AW.ev (by walk_at "el") ?_
    unfold frameD
    skip
    refine (known_okI (by walk_at "m_o") (by walk_at "m_o") hs).mono ?_
    rintro d mt' ⟨rfl, e⟩
    subst e
    refine ⟨_, by walk_at "m_set", ?_⟩; refine SeqK.next (by with_reducible assumption) ?_; refine ExW.last ?_; refine ExW.if_ ?_; refine BW.plain ?_; refine TW.call (by with_reducible assumption) rfl (by walk_at "m_k") (by walk_at "m_k") ?_; refine AW.ev (by walk_at "el") ?_
    refine (worth_ok hk (knO_len _ _ _ (by walk_at "m_o"))).mono ?_
    rintro d mt' ⟨rfl, e⟩
    subst e
    refine B1.bool ?_
    refine ⟨fun hw => ?_, fun hw => ?_⟩
    · refine ExW.last ?_; refine ExW.expr (by with_reducible assumption) ?_; refine TW.call (by with_reducible assumption) rfl (by walk_at "m_k") (by walk_at "m_k") ?_; refine AW.cons ?_; refine TW.ev (by walk_at "e") ?_; refine AW.cons ?_; refine TW.ev (by walk_at "e") ?_; refine AW.cons ?_; refine TW.ev (by walk_at "e") ?_; refine AW.cons ?_; refine TW.methP ?_; refine TW.ev (by walk_at "e") ?_; refine MethW.mk (by walk_at "m_ins") (by walk_at "m_cls") (by walk_at "m_k") (by walk_at "m_k") (by walk_at "m_k") (by rfl) ?_; refine AW.ev (by walk_at "el") ?_
      refine (blocks_ok (n := n + 3) hk (by walk_at "m_o") (by walk_at "m_o") (by walk_at "m_o") (by walk_at "m_o") (by walk_at "m_o")).mono ?_
      rintro d mt' ⟨rfl, e⟩
      subst e
      refine AW.cons ?_; refine TW.sub ?_; refine TW.ev (by walk_at "e") ?_; refine TW.ev (by walk_at "e") ?_
      refine T2.item (.list _) (d' := .list (iL (tabs q))) (by walk_at "m_o") (by walk_at "m_o") (by match q, hq2 with | 0, _ => rfl | 1, _ => rfl) ?_
      refine AW.ev (by walk_at "el") ?_
      refine (smooth_comp_ok (hc q hq2) hd ha hq2 H).mono ?_
      rintro d mt' ⟨rfl, e⟩
      subst e
      refine ⟨rfl, ?_⟩; refine LoopK.next (by with_reducible assumption) ?_
      refine ⟨_, _, .cons _ (.cons _ (.refl _)), .refl _, rfl, ?_⟩
      rw [smAll, if_pos hw]
    · refine ExW.nil ?_; refine LoopK.next (by with_reducible assumption) ?_
      refine ⟨_, _, .cons _ (.cons _ (.refl _)), .refl _, rfl, ?_⟩
      rw [smAll, if_neg (by rw [hw]; decide)]
  · rintro loc' mt' ⟨rfl, rfl⟩
    refine SeqK.next (by with_reducible assumption) ?_; refine ExW.last ?_; refine ExW.retE (by walk_at "e") ?_; refine RetK.go (by with_reducible assumption) ?_
    refine RetW.ret ⟨PF, refsF, rfl, ?_⟩ (.refl _)
    rw [rangeItems_len]
end

-- C13
section
variable {w : World} {p : Program} {loose : List PySem.Str} {mg mb : PySem.Str → Option Value}
theorem pool_ok {n : Nat} {mt : Mt} {ns : List Int} {k : Int} (hl : ns.length ≤ 63) (h0 : 0 ≤ k) (h1 : k < 2) : CallW (cx w p loose mg mb) (n + 1) (.ref 515) [.list (iL ns), .int k] mt
    (fun d mt' => ∃ a x y, SrcOk x y ∧ d = .ref a ∧ mt' = (a, Src x y) :: mt) := by
  walk_at "m_def"
  intro f gf
  refine fun _ _ => ?_; refine ExW.consO fun _ _ => ?_; refine ExW.assign (by with_reducible assumption) (by walk_at "m_sto") ?_; refine TW.ifexp ?_; refine BW.compare ?_; refine TW.ev (by walk_at "e") ?_; refine TW.callB (by with_reducible assumption) rfl (by walk_at "m_k") (by boot_by_name) ?_; refine AW.ev (by walk_at "el") ?_
  refine CallB.len (.list _) (by simp [iL]; omega) ?_
  rw [show (iL ns).length = ns.length by simp [iL]]
  refine T2.lt ?_; refine B1.bool ?_
  have kk : k * k = 0 ∨ k * k = 1 := by
    have : k = 0 ∨ k = 1 := by omega
    rcases this with rfl | rfl
    · exact .inl rfl
    · exact .inr rfl
  walk_at "m_if" <;>
  · refine TW.ev (by walk_at "e") ?_; refine ⟨_, by walk_at "m_set", ?_⟩; refine SeqK.next (by with_reducible assumption) ?_; refine ExW.consO fun _ _ => ?_; refine ExW.assign (by with_reducible assumption) (by walk_at "m_sto") ?_; refine TW.callB (by with_reducible assumption) rfl (by walk_at "m_k") (by boot_by_name) ?_; refine AW.ev (by walk_at "el") ?_; refine CallB.max ?_; refine ⟨_, by walk_at "m_set", ?_⟩; refine SeqK.next (by with_reducible assumption) ?_; refine ExW.consO fun _ _ => ?_; refine ExW.assignV (by with_reducible assumption) (by walk_at "m_sto") (by walk_at "e") (by walk_at "m_set") ?_; refine SeqK.next (by with_reducible assumption) ?_; refine ExW.last ?_; refine ExW.ret (TW.listM ?_); refine AW.cons ?_; refine TW.ifexp ?_; refine BW.compare ?_; refine TW.ev (by walk_at "e") ?_; refine TW.binop ?_; refine TW.ev (by walk_at "e") ?_; refine TW.ev (by walk_at "e") ?_
    refine T2.powS (by walk_at "m_o") (by walk_at "m_o") (by walk_at "m_o") ?_
    refine T2.ge ?_; refine B1.bool ?_
    walk_at "m_if" <;>
    · refine TW.ev (by walk_at "e") ?_; refine AW.ev (by walk_at "el") ?_; refine ⟨by walk_at "m_len", fun _ => ?_⟩; refine RetK.go (by with_reducible assumption) ?_
      refine RetW.ret ⟨_, _, _, ⟨?_, ?_, ?_⟩, rfl, rfl⟩ (.refl _)
      · omega
      · exact Int.emod_nonneg _ (by walk_at "m_o")
      · exact Int.emod_lt_of_pos _ (by walk_at "m_o")
end

-- C14
section
variable {w : World} {p : Program} {loose : List PySem.Str} {mg mb : PySem.Str → Option Value}
theorem plc {ps : List Int} (hps : ps = [0] ∨ ps = [1] ∨ ps = [0, 1]) {j : Nat} {q0 : Int} (h : ps[j]? = some q0) : (q0 = 0 ∨ q0 = 1) ∧ ps.any (· == q0) = true ∧ (ps.take j).any (· == q0) = false ∧ ∀ q, (ps.take (j + 1)).any (· == q) = ((ps.take j).any (· == q) || q0 == q) := by
  refine ⟨?_, List.any_eq_true.mpr ⟨q0, List.mem_of_getElem? h, by simp⟩, ?_, fun q => by rw [List.take_add_one, h]; simp⟩
  · rcases hps with rfl | rfl | rfl <;> (have := List.mem_of_getElem? h; simp at this; omega)
  · rcases hps with rfl | rfl | rfl
    · match j, h with | 0, _ => rfl
    · match j, h with | 0, _ => rfl
    · match j, h with | 0, _ => rfl | 1, h => cases h; rfl
noncomputable def kj (ps : List Int) (K N : Int → List Int) (q : Int) (j : Nat) : List Int := if (ps.take j).any (· == q) = true then N q else K q
noncomputable def kjD (ps : List Int) (K N : Int → List Int) (j : Nat) : List D := [.list (iL (kj ps K N 0 j)), .list (iL (kj ps K N 1 j))]
theorem kjD_get {ps : List Int} {K N : Int → List Int} {j : Nat} {q : Int} (h : q = 0 ∨ q = 1) : (kjD ps K N j)[q.toNat]? = some (.list (iL (kj ps K N q j))) := by
  rcases h with rfl | rfl <;> rfl
theorem kjD_set {ps : List Int} {K N : Int → List Int} {j : Nat} {q : Int} (h : q = 0 ∨ q = 1) (hn : ∀ r, (ps.take (j + 1)).any (· == r) = ((ps.take j).any (· == r) || q == r)) : (kjD ps K N j).set q.toNat (.list (iL (N q))) = kjD ps K N (j + 1) := by
  unfold kjD kj
  simp only [hn]
  rcases h with rfl | rfl <;> simp
theorem kj_end {ps : List Int} {K N : Int → List Int} (h : ∀ q, ps.any (· == q) = false → N q = K q) : kjD ps K N ps.length = [.list (iL (N 0)), .list (iL (N 1))] := by
  unfold kjD kj
  rw [List.take_length]
  have e : ∀ q, (if ps.any (· == q) = true then N q else K q) = N q := fun q => by
    cases hq : ps.any (· == q) with
    | true => simp
    | false => simp [h q hq]
  rw [e, e]
theorem knO_snoc (scs : List Sc) (sc : Sc) (many q : Int) : knO (scs ++ [sc]) many q = knL many.toNat (kStep q (kAll q scs) sc) := by
  unfold knO kAll
  rw [List.foldl_append]
  rfl
theorem knO_getD (scs : List Sc) (many q : Int) {i : Nat} (h : i < many.toNat) : (knO scs many q).getD i 0 = kAll q scs i := by
  unfold knO knL
  simp [List.getD, h]
theorem three_get {r : Int} (h0 : 0 ≤ r) (h1 : r < 3) : ∃ ps, ([.list [.int 0], .list [.int 1], .list [.int 0, .int 1]] : List D)[r.toNat]? = some (.list (iL ps)) ∧ (ps = [0] ∨ ps = [1] ∨ ps = [0, 1]) := by
  have : r = 0 ∨ r = 1 ∨ r = 2 := by omega
  rcases this with rfl | rfl | rfl
  · exact ⟨[0], rfl, .inl rfl⟩
  · exact ⟨[1], rfl, .inr (.inl rfl)⟩
  · exact ⟨[0, 1], rfl, .inr (.inr rfl)⟩
theorem scans_ok {n : Nat} {mt : Mt} {s : Addr} {x y k : Int} {G : M → Mt} (hk : Side k) (hG : At s (Src x y) mt G) (hs : SrcOk x y) : CallW (cx w p loose mg mb) (n + 3) (.ref 527) [.ref s, .int (k * k)] mt
    (fun d mt' => ∃ scs x' y', (∀ c ∈ scs, ScOk (k * k) c) ∧ SrcOk x' y' ∧ d = .list [.list (scs.map Sc.d), .list [.list (iL (knO scs (k * k) 0)), .list (iL (knO scs (k * k) 1))]] ∧ mt' = G (Src x' y')) := by
  obtain ⟨kl, kh, kk1, kk2⟩ := hk.bd
  generalize k * k = many at kk1 kk2 ⊢
  walk_at "m_def"
  intro f gf
  refine fun _ _ => ?_; refine ExW.consO fun _ _ => ?_; refine ExW.assignTupC (by with_reducible assumption) (by rfl) ?_; refine TW.tuple ?_; refine AW.cons ?_; refine TW.listM ?_; refine AW.ev (by walk_at "el") ?_; refine ⟨by walk_at "m_len", fun _ => ?_⟩; refine AW.cons ?_; refine TW.listM ?_; refine AW.cons ?_; refine TW.binop ?_; refine TW.list ?_; refine AW.ev (by walk_at "el") ?_; refine ⟨by walk_at "m_len", ?_⟩; refine TW.ev (by walk_at "e") ?_
  refine T2.times (by walk_at "m_lst") (by walk_at "m_o") (by simp; omega) (by walk_at "m_o") ?_
  refine AW.cons ?_; refine TW.binop ?_; refine TW.list ?_; refine AW.ev (by walk_at "el") ?_; refine ⟨by walk_at "m_len", ?_⟩; refine TW.ev (by walk_at "e") ?_
  refine T2.times (by walk_at "m_lst") (by walk_at "m_o") (by simp; omega) (by walk_at "m_o") ?_
  rw [knL_minus]
  refine AW.ev (by walk_at "el") ?_; refine ⟨by walk_at "m_len", fun _ => ?_⟩; refine AW.ev (by walk_at "el") ?_; refine ⟨by walk_at "m_len", ?_⟩; refine AsW.tuple (by with_reducible assumption) (by walk_at "m_names") (Sto.all (by rfl)) (by walk_at "m_seq") (by rfl) ⟨_, by walk_at "m_sets", ?_⟩; refine SeqK.next (by with_reducible assumption) ?_; refine ExW.consO fun _ _ => ?_; refine ExW.forQ ?_; refine TW.callT (by with_reducible assumption) rfl (by walk_at "m_k") (by boot_by_name) ?_; refine AW.cons ?_; refine TW.call (by with_reducible assumption) rfl (by walk_at "m_k") (by walk_at "m_k") ?_; refine AW.ev (by walk_at "el") ?_
  rename_i a b _ _
  refine (take_ok (n := n + 1) (.tail (.tail hG)) hs (by walk_at "m_o") (by walk_at "m_o")).mono ?_
  rintro d mt' ⟨r, x0, y0, r0, r1, hs0, rfl, rfl⟩
  refine AW.ev (by walk_at "el") ?_; refine CallB.range1 ?_
  refine ⟨_, fun i loc mt' => ∃ scs x y, (∀ c ∈ scs, ScOk many c) ∧ SrcOk x y ∧ scs.length ≤ i ∧ Inv loc mt' [("known", .ref b), ("scans", .ref a), ("source", .ref s), ("many", .int many)] ((b, .lst [.list (iL (knO scs many 0)), .list (iL (knO scs many 1))]) :: (a, .lst (scs.map Sc.d)) :: G (Src x y)),
    .upto r.toNat (by walk_at "m_o") (by walk_at "m_o") (by walk_at "m_o"), ⟨[], x0, y0, (fun _ h => nomatch h), hs0, by simp, rfl, rfl⟩, ?_, ?_⟩
  · rintro i d' loc' mt' hi ⟨scs, x1, y1, hsc, hs1, hl, rfl, rfl⟩
    obtain ⟨hi1, rfl⟩ := rangeItems_get0 hi
    refine fun _ _ => ?_; refine AsW.name (by with_reducible assumption) (by walk_at "m_sto") ⟨_, by walk_at "m_set", ?_⟩; refine ExW.consO fun _ _ => ?_; refine ExW.assign (by with_reducible assumption) (by walk_at "m_sto") ?_; refine TW.call (by with_reducible assumption) rfl (by walk_at "m_k") (by walk_at "m_k") ?_; refine AW.ev (by walk_at "el") ?_
    refine (take_ok (n := n + 1) (.tail (.tail (hG.re _))) hs1 (by walk_at "m_o") (by walk_at "m_o")).mono ?_
    rintro d mt' ⟨st, x2, y2, st0, st1, hs2, rfl, rfl⟩
    refine ⟨_, by walk_at "m_set", ?_⟩; refine SeqK.next (by with_reducible assumption) ?_; refine ExW.consO fun _ _ => ?_; refine ExW.assignTupC (by with_reducible assumption) (by rfl) ?_; refine TW.tuple ?_; refine AW.cons ?_; refine TW.binop ?_; refine TW.ev (by walk_at "e") ?_; refine TW.call (by with_reducible assumption) rfl (by walk_at "m_k") (by walk_at "m_k") ?_; refine AW.ev (by walk_at "el") ?_
    refine (take_ok (n := n + 1) (.tail (.tail (hG.re _))) hs2 (by walk_at "m_o") (by walk_at "m_o")).mono ?_
    rintro d mt' ⟨en, x3, y3, en0, en1, hs3, rfl, rfl⟩
    refine T2.add ?_; refine AW.cons ?_; refine TW.call (by with_reducible assumption) rfl (by walk_at "m_k") (by walk_at "m_k") ?_; refine AW.ev (by walk_at "el") ?_
    refine (take_ok (n := n + 1) (.tail (.tail (hG.re _))) hs3 (by walk_at "m_o") (by walk_at "m_o")).mono ?_
    rintro d mt' ⟨low, x4, y4, low0, low1, hs4, rfl, rfl⟩
    refine AW.ev (by walk_at "el") ?_; refine ⟨by walk_at "m_len", ?_⟩; refine AsW.tuple (by with_reducible assumption) (by walk_at "m_names") (Sto.all (by rfl)) (by walk_at "m_seq") (by rfl) ⟨_, by walk_at "m_sets", ?_⟩; refine SeqK.next (by with_reducible assumption) ?_; refine ExW.consO fun _ _ => ?_; refine ExW.assign (by with_reducible assumption) (by walk_at "m_sto") ?_; refine TW.sub ?_; refine TW.list ?_; refine AW.cons ?_; refine TW.list ?_; refine AW.ev (by walk_at "el") ?_; refine ⟨by walk_at "m_len", ?_⟩; refine AW.cons ?_; refine TW.list ?_; refine AW.ev (by walk_at "el") ?_; refine ⟨by walk_at "m_len", ?_⟩; refine AW.cons ?_; refine TW.list ?_; refine AW.ev (by walk_at "el") ?_; refine ⟨by walk_at "m_len", ?_⟩; refine AW.ev (by walk_at "el") ?_; refine ⟨by walk_at "m_len", ?_⟩; refine TW.call (by with_reducible assumption) rfl (by walk_at "m_k") (by walk_at "m_k") ?_; refine AW.ev (by walk_at "el") ?_
    refine (take_ok (n := n + 1) (.tail (.tail (hG.re _))) hs4 (by walk_at "m_o") (by walk_at "m_o")).mono ?_
    rintro d mt' ⟨q, x5, y5, q0, q1, hs5, rfl, rfl⟩
    obtain ⟨ps, hps, hps3⟩ := three_get q0 q1
    skip
    refine T2.item (.list _) q0 (by walk_at "m_o") hps ?_
    refine ⟨_, by walk_at "m_set", ?_⟩; refine SeqK.next (by with_reducible assumption) ?_; refine ExW.consO fun _ _ => ?_; refine ExW.expr (by with_reducible assumption) ?_; refine TW.appendP ?_; refine TW.ev (by walk_at "e") ?_; refine AppO.mk (by first | walk_at "m_in" | exact At.mem (by assumption) | exact At.mem (At.re (by assumption) _)) ?_; refine TW.new (by with_reducible assumption) rfl (by walk_at "m_k") (by walk_at "m_k") (by walk_at "m_k") (by walk_at "m_k") (by walk_at "m_k") ?_; refine AW.cons ?_; refine TW.ev (by walk_at "e") ?_; refine AW.cons ?_; refine TW.list ?_; refine AW.ev (by walk_at "el") ?_; refine ⟨by walk_at "m_len", ?_⟩; refine AW.cons ?_; refine TW.list ?_; refine AW.ev (by walk_at "el") ?_; refine ⟨by walk_at "m_len", ?_⟩; refine AW.ev (by walk_at "el") ?_
    intro dx
    refine scan_init.mono ?_
    rintro d mt' ⟨rfl, rfl⟩
    refine ⟨rfl, _, _, .head, ?_⟩
    refine AppE.mk (by walk_at "m_atq") (by walk_at "m_len") ?_; refine ⟨rfl, ?_⟩; refine SeqK.next (by with_reducible assumption) ?_; refine ExW.last ?_; refine ExW.forQ ?_; refine TW.ev (by walk_at "e") ?_
    let sc : Sc := ⟨ps, st, st + en, low⟩
    have hsc' : ∀ c ∈ scs ++ [sc], ScOk many c := fun c hc => by
      rcases List.mem_append.mp hc with hc | hc
      · exact hsc c hc
      · rw [List.mem_singleton.mp hc]
        exact ⟨st0, st1, by show st ≤ st + en; omega, by show st + en < 1000; omega, low0, by show low ≤ 3; omega⟩
    refine ⟨_, fun j loc mt' => Inv loc mt' [("places", .list (iL ps)), ("low", .int low), ("end", .int (st + en)), ("start", .int st), ("turn", .int i), ("known", .ref b), ("scans", .ref a), ("source", .ref s), ("many", .int many)] ((b, .lst (kjD ps (knO scs many) (knO (scs ++ [sc]) many) j)) :: (a, .lst ((scs ++ [sc]).map Sc.d)) :: G (Src x5 y5)), .list _, ⟨rfl, ?_⟩, ?_, ?_⟩
    · simp [kjD, kj, Sc.d, sc]
    · rintro j d' loc' mt' hj ⟨rfl, rfl⟩
      unfold iL at hj
      rw [List.getElem?_map] at hj
      obtain ⟨z, hz, rfl⟩ := Option.map_eq_some_iff.mp hj
      obtain ⟨z1, z2, z3, z4⟩ := plc hps3 hz
      refine fun _ _ => ?_; refine AsW.name (by with_reducible assumption) (by walk_at "m_sto") ⟨_, by walk_at "m_set", ?_⟩; refine ExW.last ?_; refine ExW.setItemP ?_
      refine TW.compS [("low", _), ("end", _), ("start", _), ("known", _), ("place", _)] gf (.one _ _) (by rfl) (by walk_at "m_lf1") (by decide) ?_
      refine TW.callT (by with_reducible assumption) rfl (by walk_at "m_k") (by boot_by_name) ?_; refine AW.ev (by walk_at "el") ?_; refine CallB.range1 ?_
      refine CItW.map (rangeItems 0 1 many.toNat) (iL (knO (scs ++ [sc]) many z)) (.upto _ (by walk_at "m_o") (by walk_at "m_o") (by walk_at "m_o")) (by simp [rangeItems, iL, knO, knL]) (by simp [iL, knO, knL]; omega) ?_ ?_
      · intro f' gf' m d' hm
        obtain ⟨hm1, rfl⟩ := rangeItems_get0 hm
        have hv : (iL (knO (scs ++ [sc]) many z))[m]? = some (.int (if st ≤ m ∧ (m : Int) ≤ st + en then low else kAll z scs m)) := by
          rw [knO_snoc]
          unfold iL knL kStep
          simp [hm1, z2, sc]
        have hk : kj ps (knO scs many) (knO (scs ++ [sc]) many) z j = knO scs many z := by
          unfold kj
          rw [if_neg (by rw [z3]; decide)]
        refine AsW.name (by with_reducible assumption) (by walk_at "m_sto") ⟨_, by walk_at "m_set", ?_⟩
        refine ⟨by walk_at "m_sub", ?_⟩
        refine TW.ifexp ?_; refine BW.chain ?_; refine TW.ev (by walk_at "e") ?_; refine TW.ev (by walk_at "e") ?_; refine T2.le ?_; refine B1.bool ?_
        refine ⟨fun hc => ?_, fun hc => ⟨(fun h => nomatch h), fun _ => ?_⟩⟩ <;> simp only [decide_eq_true_eq, decide_eq_false_iff_not] at hc
        · refine TW.ev (by walk_at "e") ?_; refine T2.le ?_; refine B1.bool ?_
          refine ⟨fun hd => ?_, fun hd => ?_⟩ <;> simp only [decide_eq_true_eq, decide_eq_false_iff_not] at hd
          · refine TW.ev (by walk_at "e") ?_
            exact ⟨rfl, by rw [hv, if_pos ⟨hc, hd⟩]⟩
          · refine TW.sub ?_; refine TW.sub ?_; refine TW.ev (by walk_at "e") ?_; refine TW.ev (by walk_at "e") ?_
            refine T2.item (.ref (.head _)) (by walk_at "m_o") (by walk_at "m_o") (kjD_get z1) ?_
            rw [hk]
            refine TW.ev (by walk_at "e") ?_
            refine T2.itemI (ks := knO scs many z) (.list _) (by walk_at "m_o") (by have := knO_len scs many z (by walk_at "m_o"); omega) (by walk_at "m_o") ?_
            exact ⟨rfl, by rw [hv, if_neg (by walk_at "m_o"), Int.toNat_natCast, knO_getD _ _ _ hm1]⟩
        · refine TW.sub ?_; refine TW.sub ?_; refine TW.ev (by walk_at "e") ?_; refine TW.ev (by walk_at "e") ?_
          refine T2.item (.ref (.head _)) (by walk_at "m_o") (by walk_at "m_o") (kjD_get z1) ?_
          rw [hk]
          refine TW.ev (by walk_at "e") ?_
          refine T2.itemI (ks := knO scs many z) (.list _) (by walk_at "m_o") (by have := knO_len scs many z (by walk_at "m_o"); omega) (by walk_at "m_o") ?_
          exact ⟨rfl, by rw [hv, if_neg (by walk_at "m_o"), Int.toNat_natCast, knO_getD _ _ _ hm1]⟩
      · refine TW.ev (by walk_at "e") ?_; refine TW.ev (by walk_at "e") ?_
        refine PutW.mk (by walk_at "m_atq") (by walk_at "m_o") (by simp [kjD]; omega) (by walk_at "m_o") ?_
        refine LoopK.next (by with_reducible assumption) ?_
        walk_at "m_less"
        rw [kjD_set z1 z4]
    · rintro loc' mt' ⟨rfl, rfl⟩
      refine LoopK.next (by with_reducible assumption) ?_
      refine ⟨_, _, .cons _ (.cons _ (.cons _ (.cons _ (.cons _ (.refl _))))), .refl _, scs ++ [sc], x5, y5, hsc', hs5, by simp; omega, rfl, ?_⟩
      rw [show (iL ps).length = ps.length by simp [iL], kj_end fun q hq => ?_]
      rw [knO_snoc]
      unfold knO knL
      apply List.map_congr_left
      intro r _
      unfold kStep
      rw [if_neg (fun h => by have := h.1; rw [hq] at this; cases this)]
  · rintro loc' mt' ⟨scs, x1, y1, hsc, hs1, hl, rfl, rfl⟩
    refine SeqK.next (by with_reducible assumption) ?_
    refine ExW.last (ExW.ret (TW.list (AW.cons (TW.nameF gf.kind (by walk_at "m_in") (by walk_at "m_rem") (AW.cons (TW.nameF gf.kind (by walk_at "m_in") (by walk_at "m_rem") (AW.nil ?_)))))))
    refine ⟨by walk_at "m_len", ?_⟩; refine RetK.go (by with_reducible assumption) ?_
    exact RetW.ret ⟨scs, x1, y1, hsc, hs1, rfl, rfl⟩ (.refl _)
end

-- C15
section
variable {w : World} {p : Program} {loose : List PySem.Str} {mg mb : PySem.Str → Option Value}
local macro_rules | `(tactic| walk_at "e") => `(tactic| ((with_reducible show Ev _ _ _ _ _ (.List _ _) _); exact Ev.list (by walk_at "el") (by walk_at "m_len")))
noncomputable def pD (p : Int × Int) : D := .tup [.int p.1, .int p.2]
noncomputable def prI (a b : Int) : Int × Int := (a + b, if (a + b) % 2 = 1 then b else a)
noncomputable def aheadTo (k i : Nat) : List (Int × Int) := (List.range i).flatMap fun (a : Nat) => (List.range k).map fun (b : Nat) => prI a b
noncomputable def lessP (s t : Int) (q : Int × Int) : Bool := decide (q.1 < s ∨ (q.1 = s ∧ q.2 < t))
noncomputable def lRank (k : Nat) (x y : Int) : Int := (((aheadTo k k).filter (lessP (x + y) (if (x + y) % 2 = 1 then y else x))).length : Nat)
theorem aheadTo_len (k i : Nat) : (aheadTo k i).length = i * k := by
  unfold aheadTo
  induction i with
  | zero => simp
  | succ i ih => rw [List.range_succ, List.flatMap_append, List.length_append, ih, Nat.succ_mul]; simp
theorem rank_ok {n : Nat} {mt : Mt} {k : Nat} {x y : Int} (hk : k ≤ 4) : CallW (cx w p loose mg mb) (n + 1) (.ref 539) [.int k, .int x, .int y] mt (fun d mt' => d = .int (lRank k x y) ∧ mt = mt') := by
  walk_at "m_def"
  intro f gf
  refine fun _ _ => ?_; refine ExW.consO fun _ _ => ?_
  refine ExW.assignCS [("n", _)] gf (by rfl) (.two _ _ _ _) rfl (by rfl) (by walk_at "m_lf1") (by decide) (by rfl) (by rfl) (by decide) ?_
  refine TW.callT (by with_reducible assumption) rfl (by walk_at "m_k") (by boot_by_name) ?_; refine AW.ev (by walk_at "el") ?_; refine CallB.range1 ?_
  refine CItW.mk _ (fun i ds mt' => i ≤ k ∧ ds = (aheadTo k i).map pD ∧ mt = mt') (.upto k (by walk_at "m_o") (by walk_at "m_o") (by walk_at "m_o")) ⟨by omega, rfl, rfl⟩ ?_ ?_ ?_
  · rintro i ds mt' ⟨hi, rfl, _⟩
    rw [List.length_map, aheadTo_len]
    have : i * k ≤ 4 * 4 := Nat.mul_le_mul (by walk_at "m_o") hk
    omega
  · rintro f' gf' i d' ds mt' hi ⟨_, rfl, e⟩
    subst e
    obtain ⟨hi1, rfl⟩ := rangeItems_get0 hi
    refine AsW.name (by with_reducible assumption) (by walk_at "m_sto") ⟨_, by walk_at "m_set", ?_⟩
    refine ⟨by walk_at "m_sub", EmW.inner ?_⟩
    refine TW.callT (by with_reducible assumption) rfl (by walk_at "m_k") (by boot_by_name) ?_; refine AW.ev (by walk_at "el") ?_; refine CallB.range1 ?_
    refine ⟨_, fun j ds mt' => j ≤ k ∧ ds = (aheadTo k i ++ (List.range j).map fun (b : Nat) => prI i b).map pD ∧ mt = mt', .upto k (by walk_at "m_o") (by walk_at "m_o") (by walk_at "m_o"), ⟨by omega, by simp, rfl⟩, ?_, ?_, ?_⟩
    · rintro j ds mt' ⟨hj, rfl, _⟩
      rw [List.length_map, List.length_append, aheadTo_len, List.length_map, List.length_range]
      have : i * k ≤ 4 * 4 := Nat.mul_le_mul (by walk_at "m_o") hk
      omega
    · rintro j d' ds mt' hj ⟨_, rfl, e⟩
      subst e
      obtain ⟨hj1, rfl⟩ := rangeItems_get0 hj
      refine AsW.name (by with_reducible assumption) (by walk_at "m_sto") ⟨_, by walk_at "m_set", ?_⟩
      refine ⟨by walk_at "m_sub", ?_⟩
      refine TW.tuple ?_; refine AW.cons ?_; refine TW.ev (by walk_at "e") ?_; refine AW.cons ?_; refine TW.ifexp ?_; refine BW.cmp (by walk_at "e") (by walk_at "e") (by walk_at "e_op") ?_
      have fin : ∀ v : Int, v = (prI i j).2 → (aheadTo k i ++ (List.range j).map fun (b : Nat) => prI i b).map pD ++ [D.tup [.int ((i : Int) + j), .int v]] = (aheadTo k i ++ (List.range (j + 1)).map fun (b : Nat) => prI i b).map pD := fun v hv => by
        rw [List.range_succ, hv]
        simp [pD, prI]
      refine ⟨fun hc => ?_, fun hc => ?_⟩ <;> simp only [beq_iff_eq, beq_eq_false_iff_ne, ne_eq] at hc
      · refine TW.ev (by walk_at "e") ?_; refine AW.ev (by walk_at "el") ?_; refine ⟨by walk_at "m_len", ?_⟩
        exact ⟨by omega, fin _ (by unfold prI; rw [if_pos hc]), rfl⟩
      · refine TW.ev (by walk_at "e") ?_; refine AW.ev (by walk_at "el") ?_; refine ⟨by walk_at "m_len", ?_⟩
        exact ⟨by omega, fin _ (by unfold prI; rw [if_neg hc]), rfl⟩
    · rintro ds mt' ⟨_, rfl, e⟩
      subst e
      refine ⟨by omega, ?_, rfl⟩
      rw [rangeItems_len]
      unfold aheadTo
      rw [List.range_succ, List.flatMap_append]
      simp
  · rintro ds mt' ⟨_, rfl, e⟩
    subst e
    rw [rangeItems_len]
    refine ⟨_, by walk_at "m_set", ?_⟩; refine SeqK.next (by with_reducible assumption) ?_; refine ExW.last ?_; refine ExW.ret ?_; refine TW.callB (by with_reducible assumption) rfl (by walk_at "m_k") (by boot_by_name) ?_; refine AW.cons ?_
    refine TW.compS [("x", _), ("y", _)] gf (.test _ _ _) (by rfl) (by walk_at "m_lf1") (by decide) ?_
    refine TW.ev (by walk_at "e") ?_
    refine CItW.mk _ (fun i ds mt' => ds = (((aheadTo k k).take i).filter (lessP (x + y) (if (x + y) % 2 = 1 then y else x))).map pD ∧ mt = mt') (.list _) ⟨rfl, rfl⟩ ?_ ?_ ?_
    · rintro i ds mt' ⟨rfl, _⟩
      rw [List.length_map]
      have h1 := List.length_filter_le (lessP (x + y) (if (x + y) % 2 = 1 then y else x)) ((aheadTo k k).take i)
      rw [List.length_take, aheadTo_len] at h1
      have : k * k ≤ 4 * 4 := Nat.mul_le_mul (by walk_at "m_o") hk
      omega
    · rintro f' gf' i d' ds mt' hi ⟨rfl, e⟩
      subst e
      rw [List.getElem?_map] at hi
      obtain ⟨z, hz, rfl⟩ := Option.map_eq_some_iff.mp hi
      refine AsW.name (by with_reducible assumption) (by walk_at "m_sto") ⟨_, by walk_at "m_set", ?_⟩
      refine ⟨by walk_at "m_sub", EmW.test ?_⟩
      unfold pD
      refine BW.compare ?_; refine TW.ev (by walk_at "e") ?_; refine TW.tuple ?_; refine AW.cons ?_; refine TW.ev (by walk_at "e") ?_; refine AW.cons ?_; refine TW.ifexp ?_; refine BW.cmp (by walk_at "e") (by walk_at "e") (by walk_at "e_op") ?_
      have fin : ∀ t : Int, t = (if (x + y) % 2 = 1 then y else x) → ∀ b : Bool, decide (z.1 < x + y ∨ (z.1 = x + y ∧ z.2 < t)) = b →
        (((aheadTo k k).take (i + 1)).filter (lessP (x + y) (if (x + y) % 2 = 1 then y else x))).map pD = (((aheadTo k k).take i).filter (lessP (x + y) (if (x + y) % 2 = 1 then y else x))).map pD ++ (if b then [pD z] else []) := fun t ht b hb => by
        rw [List.take_add_one, hz, ← ht]
        have hl : lessP (x + y) t z = b := hb
        cases b <;> simp [hl]
      refine ⟨fun hc => ?_, fun hc => ?_⟩ <;> simp only [beq_iff_eq, beq_eq_false_iff_ne, ne_eq] at hc
      · refine TW.ev (by walk_at "e") ?_; refine AW.ev (by walk_at "el") ?_; refine ⟨by walk_at "m_len", ?_⟩; refine T2.ltT ?_; refine B1.bool ?_
        refine ⟨fun hd => ?_, fun hd => ?_⟩
        · refine TW.ev (by walk_at "e") ?_
          exact ⟨(fin y (by rw [if_pos hc]) true hd).symm, rfl⟩
        · exact ⟨((fin y (by rw [if_pos hc]) false hd).trans (List.append_nil _)).symm, rfl⟩
      · refine TW.ev (by walk_at "e") ?_; refine AW.ev (by walk_at "el") ?_; refine ⟨by walk_at "m_len", ?_⟩; refine T2.ltT ?_; refine B1.bool ?_
        refine ⟨fun hd => ?_, fun hd => ?_⟩
        · refine TW.ev (by walk_at "e") ?_
          exact ⟨(fin x (by rw [if_neg hc]) true hd).symm, rfl⟩
        · exact ⟨((fin x (by rw [if_neg hc]) false hd).trans (List.append_nil _)).symm, rfl⟩
    · rintro ds mt' ⟨rfl, e⟩
      subst e
      rw [List.length_map, List.take_length]
      have h1 := List.length_filter_le (lessP (x + y) (if (x + y) % 2 = 1 then y else x)) (aheadTo k k)
      rw [aheadTo_len] at h1
      have : k * k ≤ 4 * 4 := Nat.mul_le_mul (by walk_at "m_o") hk
      refine AW.ev (by walk_at "el") ?_
      refine CallB.len (.list _) (by rw [List.length_map]; omega) ?_
      refine RetK.go (by with_reducible assumption) ?_
      refine RetW.ret ⟨?_, rfl⟩ (.refl _)
      rw [List.length_map]
      rfl
noncomputable abbrev Pl := Int × Int × Int × List (Int × Int)
noncomputable def plD (q : Pl) : D := .tup [.int q.1, .int q.2.1, .int q.2.2.1, .list (q.2.2.2.map pD)]
noncomputable def plL (k : Int) : List Pl := if k = 2 then [(1, 0, 32, [(3, 1), (5, -1)]), (0, 1, 32, [(1, 1), (7, -1)]), (1, 1, 4, [(0, 1), (2, -1), (6, -1), (8, 1)])]
  else [(1, 0, 36, [(3, 1), (5, -1)]), (0, 1, 36, [(1, 1), (7, -1)]), (1, 1, 5, [(0, 1), (2, -1), (6, -1), (8, 1)]), (0, 2, 9, [(1, 1), (7, 1), (4, -2)]), (2, 0, 9, [(3, 1), (5, 1), (4, -2)])]
theorem places_ok {n : Nat} {mt : Mt} {k : Int} (hk : Side k) : CallW (cx w p loose mg mb) (n + 1) (.ref 534) [.int k] mt (fun d mt' => d = .list ((plL k).map plD) ∧ mt = mt') := by
  obtain ⟨kl, kh, kk1, kk2⟩ := hk.bd
  walk_at "m_def"
  intro f gf
  refine fun _ _ => ?_; refine ExW.consO fun _ _ => ?_; refine ExW.assign (by with_reducible assumption) (by walk_at "m_sto") ?_; refine TW.ifexp ?_; refine BW.cmp (by walk_at "e") (by walk_at "e") (by walk_at "e_op") ?_
  refine ⟨fun hc => ?_, fun hc => ?_⟩ <;> simp only [beq_iff_eq, beq_eq_false_iff_ne, ne_eq] at hc
  · refine TW.ev (by walk_at "e") ?_; refine ⟨_, by walk_at "m_set", ?_⟩; refine SeqK.next (by with_reducible assumption) ?_; refine ExW.consO fun _ _ => ?_; refine ExW.assign (by with_reducible assumption) (by walk_at "m_sto") (TW.listM ?_); refine AW.ev (by walk_at "el") ?_; refine ⟨by walk_at "m_len", fun _ => ?_⟩; refine ⟨_, by walk_at "m_set", ?_⟩; refine SeqK.next (by with_reducible assumption) ?_; refine ExW.consO fun _ _ => ?_; refine ExW.expr (by with_reducible assumption) ?_; refine TW.appendP ?_; refine TW.ev (by walk_at "e") ?_; refine AppO.mk (by first | walk_at "m_in" | exact At.mem (by assumption) | exact At.mem (At.re (by assumption) _)) ?_; refine TW.ev (by walk_at "e") ?_; refine AppE.mk (by walk_at "m_atq") (by walk_at "m_len") ?_; refine ⟨rfl, ?_⟩; refine SeqK.next (by with_reducible assumption) ?_; refine ExW.consO fun _ _ => ?_; refine ExW.if_ ?_; refine BW.cmp (by walk_at "e") (by walk_at "e") (by walk_at "e_op") ?_
    refine ⟨fun hd => ?_, fun hd => ?_⟩ <;> simp only [decide_eq_true_eq, decide_eq_false_iff_not] at hd
    · omega
    · refine ExW.nil ?_; refine SeqK.next (by with_reducible assumption) ?_; refine ExW.last ?_; refine ExW.ret (TW.nameF (GF.kind (by with_reducible assumption)) (by walk_at "m_in") (by walk_at "m_rem") ?_); refine RetK.go (by with_reducible assumption) ?_
      exact RetW.ret ⟨by unfold plL; rw [if_pos hc]; rfl, rfl⟩ (.refl _)
  · refine TW.ev (by walk_at "e") ?_; refine ⟨_, by walk_at "m_set", ?_⟩; refine SeqK.next (by with_reducible assumption) ?_; refine ExW.consO fun _ _ => ?_; refine ExW.assign (by with_reducible assumption) (by walk_at "m_sto") (TW.listM ?_); refine AW.ev (by walk_at "el") ?_; refine ⟨by walk_at "m_len", fun _ => ?_⟩; refine ⟨_, by walk_at "m_set", ?_⟩; refine SeqK.next (by with_reducible assumption) ?_; refine ExW.consO fun _ _ => ?_; refine ExW.expr (by with_reducible assumption) ?_; refine TW.appendP ?_; refine TW.ev (by walk_at "e") ?_; refine AppO.mk (by first | walk_at "m_in" | exact At.mem (by assumption) | exact At.mem (At.re (by assumption) _)) ?_; refine TW.ev (by walk_at "e") ?_; refine AppE.mk (by walk_at "m_atq") (by walk_at "m_len") ?_; refine ⟨rfl, ?_⟩; refine SeqK.next (by with_reducible assumption) ?_; refine ExW.consO fun _ _ => ?_; refine ExW.if_ ?_; refine BW.cmp (by walk_at "e") (by walk_at "e") (by walk_at "e_op") ?_
    refine ⟨fun hd => ?_, fun hd => ?_⟩ <;> simp only [decide_eq_true_eq, decide_eq_false_iff_not] at hd
    · refine ExW.consO fun _ _ => ?_; refine ExW.expr (by with_reducible assumption) ?_; refine TW.appendP ?_; refine TW.ev (by walk_at "e") ?_; refine AppO.mk (by first | walk_at "m_in" | exact At.mem (by assumption) | exact At.mem (At.re (by assumption) _)) ?_; refine TW.ev (by walk_at "e") ?_; refine AppE.mk (by walk_at "m_atq") (by walk_at "m_len") ?_; refine ⟨rfl, ?_⟩; refine SeqK.next (by with_reducible assumption) ?_; refine ExW.last ?_; refine ExW.expr (by with_reducible assumption) ?_; refine TW.appendP ?_; refine TW.ev (by walk_at "e") ?_; refine AppO.mk (by first | walk_at "m_in" | exact At.mem (by assumption) | exact At.mem (At.re (by assumption) _)) ?_; refine TW.ev (by walk_at "e") ?_; refine AppE.mk (by walk_at "m_atq") (by walk_at "m_len") ?_; refine ⟨rfl, ?_⟩; refine SeqK.next (by with_reducible assumption) ?_; refine ExW.last ?_; refine ExW.ret (TW.nameF (GF.kind (by with_reducible assumption)) (by walk_at "m_in") (by walk_at "m_rem") ?_); refine RetK.go (by with_reducible assumption) ?_
      exact RetW.ret ⟨by unfold plL; rw [if_neg hc]; rfl, rfl⟩ (.refl _)
    · omega
end

-- L1
noncomputable def lawSum (nine : List Int) (ps : List (Int × Int)) : Int := (ps.map fun q => nine.getD q.1.toNat 0 * q.2).sum
noncomputable def lawMany (number d kn : Int) : Int :=
  let m := absI number / (256 * d) + (if 256 * d ≤ 2 * (absI number % (256 * d)) then 1 else 0)
  if 0 < kn then min m (2 ^ kn.toNat - 1) else m
noncomputable def lawSign (number d kn : Int) : Int := if number < 0 then -lawMany number d kn else lawMany number d kn
noncomputable def lawNum (nine q : List Int) (pl : Pl) : Int := pl.2.2.1 * q.getD 0 0 * lawSum nine pl.2.2.2
noncomputable def lawR (k : Int) (pl : Pl) : Nat := (lRank k.toNat pl.1 pl.2.1).toNat
noncomputable def lawStep (row nine q kn : List Int) (k : Int) (due : List Int) (pl : Pl) : List Int :=
  if kn.getD (lawR k pl) 0 ≠ 0 ∧ row.getD (lawR k pl) 0 = 0 then due.set (lawR k pl) (lawSign (lawNum nine q pl) (q.getD (lawR k pl) 0) (kn.getD (lawR k pl) 0)) else due
noncomputable def lawRow (row nine q kn : List Int) (k : Int) : List Int := (plL k).foldl (lawStep row nine q kn k) row
theorem guess_law {number d kn : Int} (hd : 0 < d) : guessedI number d kn = lawSign number d kn := by
  have hs : 0 ≤ absI number := by unfold absI; split <;> omega
  have key : (d * 128 + absI number) / (d * 256) = absI number / (256 * d) + (if 256 * d ≤ 2 * (absI number % (256 * d)) then 1 else 0) := by
    generalize absI number = s at hs
    have hW : d * 256 = 256 * d := Int.mul_comm _ _
    rw [hW]
    have h1 := Int.mul_ediv_add_emod s (256 * d)
    have h2 : 0 ≤ s % (256 * d) := Int.emod_nonneg _ (by omega)
    have h3 : s % (256 * d) < 256 * d := Int.emod_lt_of_pos _ (by omega)
    generalize hr : s % (256 * d) = r at h1 h2 h3
    generalize hQ : s / (256 * d) = Q at h1
    have e : d * 128 + s = (d * 128 + r) + 256 * d * Q := by omega
    rw [e, Int.add_mul_ediv_left _ _ (by omega), Int.add_comm]
    congr 1
    split
    · have : (d * 128 + r) / (256 * d) = 1 := by
        rw [show d * 128 + r = (d * 128 + r - 256 * d) + 256 * d * 1 by omega, Int.add_mul_ediv_left _ _ (by omega), Int.ediv_eq_zero_of_lt (by omega) (by omega)]
        rfl
      exact this
    · exact Int.ediv_eq_zero_of_lt (by omega) (by omega)
  unfold guessedI lawSign lawMany
  rw [key]
  simp only
  generalize absI number / (256 * d) + (if 256 * d ≤ 2 * (absI number % (256 * d)) then 1 else 0) = m
  generalize (2 : Int) ^ kn.toNat = T
  have e : (if 0 < kn ∧ T ≤ m then T - 1 else m) = (if 0 < kn then min m (T - 1) else m) := by
    by_cases h : 0 < kn
    · rw [if_pos h]
      by_cases h2 : T ≤ m
      · rw [if_pos ⟨h, h2⟩]; omega
      · rw [if_neg (fun g => h2 g.2)]; omega
    · rw [if_neg h, if_neg (fun g => h g.1)]
  rw [e]
noncomputable def txtStep (row nine q kn : List Int) (k : Int) (i r : Nat) (due : List Int) : List Int :=
  if kn.getD r 0 ≠ 0 ∧ row.getD r 0 = 0 then due.set r (guessedI (smMul k i * q.getD 0 0 * weighedI (wtI i) nine) (q.getD r 0) (kn.getD r 0)) else due
theorem step_law {row nine q kn due : List Int} {k : Int} {i r : Nat} {pl : Pl} (hr : lawR k pl = r) (hs : pl.2.2.1 = smMul k i) (hw : lawSum nine pl.2.2.2 = weighedI (wtI i) nine) (hq : 1 ≤ q.getD r 0) :
    txtStep row nine q kn k i r due = lawStep row nine q kn k due pl := by
  unfold txtStep lawStep lawNum
  rw [hr, hs, hw, guess_law (by omega)]
theorem txt_comm {row nine q kn due : List Int} {k : Int} {i j r s : Nat} (h : r ≠ s) : txtStep row nine q kn k i r (txtStep row nine q kn k j s due) = txtStep row nine q kn k j s (txtStep row nine q kn k i r due) := by
  unfold txtStep
  split <;> split <;> first | rfl | exact List.set_comm _ _ (Ne.symm h)
theorem unc {l : List Int} {n : Nat} (h : l.length = n + 1) : ∃ a t, l = a :: t ∧ t.length = n := by
  cases l with
  | nil => cases h
  | cons a t => exact ⟨a, t, rfl, Nat.succ.inj h⟩
theorem nine_cases {nine : List Int} (h : nine.length = 9) : ∃ a b c d e f g x y, nine = [a, b, c, d, e, f, g, x, y] := by
  obtain ⟨a, t1, rfl, h1⟩ := unc h
  obtain ⟨b, t2, rfl, h2⟩ := unc h1
  obtain ⟨c, t3, rfl, h3⟩ := unc h2
  obtain ⟨d, t4, rfl, h4⟩ := unc h3
  obtain ⟨e, t5, rfl, h5⟩ := unc h4
  obtain ⟨f, t6, rfl, h6⟩ := unc h5
  obtain ⟨g, t7, rfl, h7⟩ := unc h6
  obtain ⟨x, t8, rfl, h8⟩ := unc h7
  obtain ⟨y, t9, rfl, h9⟩ := unc h8
  obtain rfl := List.length_eq_zero_iff.mp h9
  exact ⟨a, b, c, d, e, f, g, x, y, rfl⟩
theorem sums_law {nine : List Int} (h : nine.length = 9) :
    lawSum nine [(3, 1), (5, -1)] = weighedI (wtI 0) nine ∧ lawSum nine [(1, 1), (7, -1)] = weighedI (wtI 1) nine ∧ lawSum nine [(1, 1), (7, 1), (4, -2)] = weighedI (wtI 2) nine ∧
    lawSum nine [(0, 1), (2, -1), (6, -1), (8, 1)] = weighedI (wtI 3) nine ∧ lawSum nine [(3, 1), (5, 1), (4, -2)] = weighedI (wtI 4) nine := by
  obtain ⟨a, b, c, d, e, f, g, x, y, rfl⟩ := nine_cases h
  simp only [lawSum, weighedI, wtI, wts, List.map_cons, List.map_nil, List.sum_cons, List.sum_nil, List.getD_cons_zero, List.getD_cons_succ, List.zipWith_cons_cons, List.zipWith_nil_left, List.getD, List.getElem?_cons_zero, List.getElem?_cons_succ, Option.getD_some]
  refine ⟨?_, ?_, ?_, ?_, ?_⟩ <;> simp <;> omega
theorem row_law {row nine q kn : List Int} {k : Int} (h : RowOk row nine q kn k) : smRow row nine q kn k = lawRow row nine q kn k := by
  obtain ⟨s0, s1, s2, s3, s4⟩ := sums_law h.nineL
  have hq : ∀ r, r < (k * k).toNat → 1 ≤ q.getD r 0 := fun r hr => (h.q1 _ (kso_getD (by have := h.qL; omega))).1
  have st : ∀ (i r : Nat) (due : List Int), (gR k).getD i none = some (r : Int) → smStep row nine q kn k due i = txtStep row nine q kn k i r due := fun i r due e => by
    unfold smStep txtStep
    rw [e]
    simp only [Int.toNat_natCast]
  have sn : ∀ i due, (gR k).getD i none = none → smStep row nine q kn k due i = due := fun i due e => by
    unfold smStep
    rw [e]
  unfold smRow smTo lawRow
  rcases h.hk with rfl | rfl | rfl
  · show smStep row nine q kn 2 (smStep row nine q kn 2 (smStep row nine q kn 2 (smStep row nine q kn 2 (smStep row nine q kn 2 row 0) 1) 2) 3) 4 = _
    rw [sn 4 _ rfl, st 3 3 _ rfl, sn 2 _ rfl, st 1 2 _ rfl, st 0 1 _ rfl, step_law (pl := (1, 0, 32, [(3, 1), (5, -1)])) (by decide) rfl s0 (hq _ (by decide)), step_law (pl := (0, 1, 32, [(1, 1), (7, -1)])) (by decide) rfl s1 (hq _ (by decide)),
      step_law (pl := (1, 1, 4, [(0, 1), (2, -1), (6, -1), (8, 1)])) (by decide) rfl s3 (hq _ (by decide))]
    rfl
  · show smStep row nine q kn 3 (smStep row nine q kn 3 (smStep row nine q kn 3 (smStep row nine q kn 3 (smStep row nine q kn 3 row 0) 1) 2) 3) 4 = _
    rw [st 4 5 _ rfl, st 3 4 _ rfl, st 2 3 _ rfl, st 1 2 _ rfl, st 0 1 _ rfl, txt_comm (i := 3) (j := 2) (by decide), step_law (pl := (1, 0, 36, [(3, 1), (5, -1)])) (by decide) rfl s0 (hq _ (by decide)), step_law (pl := (0, 1, 36, [(1, 1), (7, -1)])) (by decide) rfl s1 (hq _ (by decide)),
      step_law (pl := (1, 1, 5, [(0, 1), (2, -1), (6, -1), (8, 1)])) (by decide) rfl s3 (hq _ (by decide)), step_law (pl := (0, 2, 9, [(1, 1), (7, 1), (4, -2)])) (by decide) rfl s2 (hq _ (by decide)), step_law (pl := (2, 0, 9, [(3, 1), (5, 1), (4, -2)])) (by decide) rfl s4 (hq _ (by decide))]
    rfl
  · show smStep row nine q kn 4 (smStep row nine q kn 4 (smStep row nine q kn 4 (smStep row nine q kn 4 (smStep row nine q kn 4 row 0) 1) 2) 3) 4 = _
    rw [st 4 5 _ rfl, st 3 4 _ rfl, st 2 3 _ rfl, st 1 2 _ rfl, st 0 1 _ rfl, txt_comm (i := 3) (j := 2) (by decide), step_law (pl := (1, 0, 36, [(3, 1), (5, -1)])) (by decide) rfl s0 (hq _ (by decide)), step_law (pl := (0, 1, 36, [(1, 1), (7, -1)])) (by decide) rfl s1 (hq _ (by decide)),
      step_law (pl := (1, 1, 5, [(0, 1), (2, -1), (6, -1), (8, 1)])) (by decide) rfl s3 (hq _ (by decide)), step_law (pl := (0, 2, 9, [(1, 1), (7, 1), (4, -2)])) (by decide) rfl s2 (hq _ (by decide)), step_law (pl := (2, 0, 9, [(3, 1), (5, 1), (4, -2)])) (by decide) rfl s4 (hq _ (by decide))]
    rfl

-- C16
section
variable {w : World} {p : Program} {loose : List PySem.Str} {mg mb : PySem.Str → Option Value}
theorem rank_okI {n : Nat} {mt : Mt} {k x y : Int} (hk : Side k) : CallW (cx w p loose mg mb) (n + 1) (.ref 539) [.int k, .int x, .int y] mt (fun d mt' => d = .int (lRank k.toNat x y) ∧ mt = mt') := by
  obtain ⟨kl, kh, kk1, kk2⟩ := hk.bd
  have := rank_ok (w := w) (p := p) (loose := loose) (mg := mg) (mb := mb) (n := n) (mt := mt) (k := k.toNat) (x := x) (y := y) (by walk_at "m_o")
  rw [show ((k.toNat : Nat) : Int) = k by omega] at this
  exact this
theorem pl_facts {k : Int} (hk : Side k) : ∀ pl ∈ plL k, 0 ≤ lRank k.toNat pl.1 pl.2.1 ∧ lRank k.toNat pl.1 pl.2.1 < k * k ∧ 0 ≤ pl.2.2.1 ∧ pl.2.2.1 ≤ 36 ∧ pl.2.2.2.length ≤ 4 ∧ ∀ q ∈ pl.2.2.2, 0 ≤ q.1 ∧ q.1 < 9 ∧ -2 ≤ q.2 ∧ q.2 ≤ 2 := by
  rcases hk with rfl | rfl | rfl <;> decide
theorem lawStep_len (row nine q kn : List Int) (k : Int) (due : List Int) (pl : Pl) : (lawStep row nine q kn k due pl).length = due.length := by
  unfold lawStep
  split
  · simp
  · rfl
theorem lawFold_len (row nine q kn : List Int) (k : Int) (pls : List Pl) : ∀ due, (pls.foldl (lawStep row nine q kn k) due).length = due.length := by
  induction pls with
  | nil => intro due; rfl
  | cons pl pls ih => intro due; rw [List.foldl_cons, ih, lawStep_len]
noncomputable def Drawn (lo hi : Int) (i : Nat) (G : M → Mt) (ds : List D) (mt : Mt) : Prop := ∃ l x y, SrcOk x y ∧ ds = iL l ∧ l.length = i ∧ (∀ v ∈ l, lo ≤ v ∧ v ≤ hi) ∧ mt = G (Src x y)
theorem Drawn.snoc {lo hi : Int} {i : Nat} {G : M → Mt} {l : List Int} {x y v : Int} (hs : SrcOk x y) (hl : l.length = i) (ha : ∀ v ∈ l, lo ≤ v ∧ v ≤ hi) (h1 : lo ≤ v) (h2 : v ≤ hi) : Drawn lo hi (i + 1) G (iL l ++ [D.int v]) (G (Src x y)) :=
  ⟨l ++ [v], x, y, hs, by simp [iL], by simp [hl], fun u hu => by
    rcases List.mem_append.mp hu with hu | hu
    · exact ha u hu
    · rw [List.mem_singleton.mp hu]; exact ⟨h1, h2⟩, rfl⟩
theorem row_right_ok {n : Nat} {mt : Mt} {s : Addr} {x y k : Int} {G : M → Mt} {q kn : List Int} (hk : Side k) (hG : At s (Src x y) mt G) (hs : SrcOk x y) (hq : (q.length : Int) = k * k) (hkn : (kn.length : Int) = k * k) (q1 : ∀ v ∈ q, 1 ≤ v ∧ v ≤ 256) (kn1 : ∀ v ∈ kn, -1 ≤ v ∧ v ≤ 3) :
    CallW (cx w p loose mg mb) (n + 6) (.ref 544) [.ref s, .int k, .list (iL q), .list (iL kn)] mt (fun d mt' => d = .bool true ∧ ∃ x' y', SrcOk x' y' ∧ mt' = G (Src x' y')) := by
  obtain ⟨kl, kh, kk1, kk2⟩ := hk.bd
  walk_at "m_def"
  intro f gf
  refine fun _ _ => ?_; refine ExW.consO fun _ _ => ?_
  refine ExW.assignCSM [("source", _)] gf (by rfl) (.one _ _) rfl (by rfl) (by walk_at "m_lf1") (by decide) (by rfl) (by rfl) (by decide) ?_
  refine TW.callT (by with_reducible assumption) rfl (by walk_at "m_k") (by boot_by_name) ?_; refine AW.ev (by walk_at "el") ?_; refine CallB.range1 ?_
  refine CItW.mk _ (fun i ds mt' => i ≤ 16 ∧ Drawn (-2) 2 i G ds mt') (.upto (k * k).toNat (by walk_at "m_o") (by walk_at "m_o") (by walk_at "m_o")) ⟨by omega, [], x, y, hs, rfl, rfl, (fun _ h => nomatch h), hG.self.symm⟩ ?_ ?_ ?_
  · rintro i ds mt' ⟨hi, l, _, _, _, rfl, hl, _, _⟩
    simp [iL]; omega
  · rintro f' gf' i d' ds mt' hi ⟨hi16, l, x1, y1, hs1, rfl, hl, ha, rfl⟩
    obtain ⟨hi1, rfl⟩ := rangeItems_get0 hi
    refine AsW.name (by with_reducible assumption) (by walk_at "m_sto") ⟨_, by walk_at "m_set", ?_⟩
    refine ⟨by walk_at "m_sub", EmW.elt ?_⟩
    refine TW.binop ?_; refine TW.binop ?_; refine TW.call (by with_reducible assumption) rfl (by walk_at "m_k") (by walk_at "m_k") ?_; refine AW.ev (by walk_at "el") ?_
    refine (take_ok (n := n + 4) (hG.re _) hs1 (by walk_at "m_o") (by walk_at "m_o")).mono ?_
    rintro d mt' ⟨r1, x2, y2, r10, r11, hs2, rfl, rfl⟩
    refine TW.ev (by walk_at "e") ?_; refine T2.sub ?_; refine TW.call (by with_reducible assumption) rfl (by walk_at "m_k") (by walk_at "m_k") ?_; refine AW.ev (by walk_at "el") ?_
    refine (take_ok (n := n + 4) (hG.re _) hs2 (by walk_at "m_o") (by walk_at "m_o")).mono ?_
    rintro d mt' ⟨r2, x3, y3, r20, r21, hs3, rfl, rfl⟩
    refine T2.mul (by walk_at "m_mul") ?_
    have hb : -2 ≤ (r1 - 2) * r2 ∧ (r1 - 2) * r2 ≤ 2 := by
      have : r2 = 0 ∨ r2 = 1 := by omega
      rcases this with rfl | rfl <;> omega
    exact ⟨by omega, Drawn.snoc hs3 hl ha hb.1 hb.2⟩
  · rintro ds mt' ⟨_, row0, x1, y1, hs1, rfl, hl0, ha0, rfl⟩ a
    rw [rangeItems_len] at hl0
    refine ⟨_, by walk_at "m_set", ?_⟩; refine SeqK.next (by with_reducible assumption) ?_; refine ExW.consO fun _ _ => ?_
    refine ExW.assignCC gf (by rfl) (by decide) ?_
    refine TW.compS [("source", _)] gf (.one _ _) (by rfl) (by walk_at "m_lf1") (by decide) ?_
    refine TW.callT (by with_reducible assumption) rfl (by walk_at "m_k") (by boot_by_name) ?_; refine AW.ev (by walk_at "el") ?_; refine CallB.range1 ?_
    refine CItW.mk _ (fun i ds mt' => i ≤ 9 ∧ Drawn (-200) 199 i (fun m => (a, .lst (iL row0)) :: G m) ds mt') (.upto 9 (by walk_at "m_o") (by walk_at "m_o") (by walk_at "m_o")) ⟨by omega, [], x1, y1, hs1, rfl, rfl, (fun _ h => nomatch h), rfl⟩ ?_ ?_ ?_
    · rintro i ds mt' ⟨hi, l, _, _, _, rfl, hl, _, _⟩
      simp [iL]; omega
    · rintro f' gf' i d' ds mt' hi ⟨hi16, l, x2, y2, hs2, rfl, hl, ha, rfl⟩
      obtain ⟨hi1, rfl⟩ := rangeItems_get0 hi
      refine AsW.name (by with_reducible assumption) (by walk_at "m_sto") ⟨_, by walk_at "m_set", ?_⟩
      refine ⟨by walk_at "m_sub", EmW.elt ?_⟩
      refine TW.binop ?_; refine TW.call (by with_reducible assumption) rfl (by walk_at "m_k") (by walk_at "m_k") ?_; refine AW.ev (by walk_at "el") ?_
      refine (take_ok (n := n + 4) (.tail (hG.re _)) hs2 (by walk_at "m_o") (by walk_at "m_o")).mono ?_
      rintro d mt' ⟨r1, x3, y3, r10, r11, hs3, rfl, rfl⟩
      refine TW.ev (by walk_at "e") ?_; refine T2.sub ?_
      exact ⟨by omega, Drawn.snoc (G := fun m => (a, .lst (iL row0)) :: G m) hs3 hl ha (by walk_at "m_o") (by walk_at "m_o")⟩
    · rintro ds mt' ⟨_, nine, x2, y2, hs2, rfl, hl9, ha9, rfl⟩
      rw [rangeItems_len] at hl9
      refine ⟨_, by walk_at "m_set", ?_⟩; refine SeqK.next (by with_reducible assumption) ?_; refine ExW.consO fun _ _ => ?_; refine ExW.frz (ExW.setItemP ?_); refine TW.ev (by walk_at "e") ?_; refine TW.ev (by walk_at "e") ?_; refine TW.ev (by walk_at "e") ?_; refine PutW.mk (by walk_at "m_atq") (by walk_at "m_o") (by walk_at "m_len") (by walk_at "m_o") ?_
      refine ⟨rfl, "row", a, _, _, _, by walk_at "m_in", .head, .tail .head, ?_⟩
      rw [iL_set]
      have RO : RowOk (row0.set (Int.toNat 0) (nine.getD (Int.toNat 4) 0)) nine q kn k := {
        hk := hk
        rowL := by rw [List.length_set]; omega
        qL := hq
        knL := hkn
        nineL := hl9
        n1 := fun v hv => by have := ha9 v hv; omega
        q1 := q1
        kn1 := kn1 }
      generalize row0.set (Int.toNat 0) (nine.getD (Int.toNat 4) 0) = row at RO
      have hrl := RO.rowL
      refine SeqK.next (by with_reducible assumption) ?_; refine ExW.consO fun _ _ => ?_; refine ExW.assign (by with_reducible assumption) (by walk_at "m_sto") ?_; refine TW.callT (by with_reducible assumption) rfl (by walk_at "m_k") (by boot_by_name) ?_; refine AW.ev (by walk_at "el") ?_
      refine CallB.frz (CallB.listM (by walk_at "m_lst") (by simp [iL]; omega) fun b => ⟨b, _, _, rfl, .head, ?_⟩)
      refine ⟨_, by walk_at "m_set", ?_⟩; refine SeqK.next (by with_reducible assumption) ?_; refine ExW.consO fun _ _ => ?_; refine ExW.assign (by with_reducible assumption) (by walk_at "m_sto") ?_; refine TW.call (by with_reducible assumption) rfl (by walk_at "m_k") (by walk_at "m_k") ?_; refine AW.ev (by walk_at "el") ?_
      refine (smooth_ok (n := n) RO).mono ?_
      rintro d mt' ⟨rfl, e⟩
      subst e
      refine ⟨_, by walk_at "m_set", ?_⟩; refine SeqK.next (by with_reducible assumption) ?_; refine ExW.consO fun _ _ => ?_; refine ExW.assign (by with_reducible assumption) (by walk_at "m_sto") ?_; refine TW.callT (by with_reducible assumption) rfl (by walk_at "m_k") (by boot_by_name) ?_; refine AW.ev (by walk_at "el") ?_
      refine CallB.listM (by walk_at "m_lst") (by simp [iL]; omega) fun b => ?_
      refine ⟨_, by walk_at "m_set", ?_⟩; refine SeqK.next (by with_reducible assumption) ?_; refine ExW.consO fun _ _ => ?_; refine ExW.forQ ?_; refine TW.call (by with_reducible assumption) rfl (by walk_at "m_k") (by walk_at "m_k") ?_; refine AW.ev (by walk_at "el") ?_
      refine (places_ok (n := n + 4) hk).mono ?_
      rintro d mt' ⟨rfl, e⟩
      subst e
      skip
      refine ⟨_, fun i loc mt' => Inv loc mt' [("due", .ref b), ("told", .list (iL (smRow row nine q kn k))), ("kept", .list (iL row)), ("nine", .list (iL nine)), ("row", .list (iL row)), ("source", .ref s), ("n", .int k), ("table", .list (iL q)), ("known", .list (iL kn))] ((b, .lst (iL (((plL k).take i).foldl (lawStep row nine q kn k) row))) :: G (Src x2 y2)), .list _, ⟨rfl, rfl⟩, ?_, ?_⟩
      · rintro i d' loc' mt' hi ⟨rfl, rfl⟩
        rw [List.getElem?_map] at hi
        obtain ⟨pl, hpl, rfl⟩ := Option.map_eq_some_iff.mp hi
        obtain ⟨f1, f2, f3, f4, f5, f6⟩ := pl_facts hk pl (List.mem_of_getElem? hpl)
        have hnext : ((plL k).take (i + 1)).foldl (lawStep row nine q kn k) row = lawStep row nine q kn k (((plL k).take i).foldl (lawStep row nine q kn k) row) pl := by
          rw [List.take_add_one, hpl, List.foldl_append]
          rfl
        have hlen := lawFold_len row nine q kn k ((plL k).take i) row
        obtain ⟨due, hdue⟩ : ∃ due, due = ((plL k).take i).foldl (lawStep row nine q kn k) row := ⟨_, rfl⟩
        rw [← hdue] at hnext hlen ⊢
        rw [show lawStep row nine q kn k due pl = (if kn.getD (lRank k.toNat pl.1 pl.2.1).toNat 0 ≠ 0 ∧ row.getD (lRank k.toNat pl.1 pl.2.1).toNat 0 = 0 then due.set (lRank k.toNat pl.1 pl.2.1).toNat (lawSign (lawNum nine q pl) (q.getD (lRank k.toNat pl.1 pl.2.1).toNat 0) (kn.getD (lRank k.toNat pl.1 pl.2.1).toNat 0)) else due) from rfl] at hnext
        unfold plD
        refine fun _ _ => ?_; refine AsW.tuple (by with_reducible assumption) (by walk_at "m_names") (Sto.all (by rfl)) (by walk_at "m_seq") (by rfl) ⟨_, by walk_at "m_sets", ?_⟩; refine ExW.consO fun _ _ => ?_; refine ExW.assign (by with_reducible assumption) (by walk_at "m_sto") ?_; refine TW.call (by with_reducible assumption) rfl (by walk_at "m_k") (by walk_at "m_k") ?_; refine AW.ev (by walk_at "el") ?_
        refine (rank_okI (n := n + 4) hk).mono ?_
        rintro d mt' ⟨rfl, e⟩
        subst e
        generalize lRank k.toNat pl.1 pl.2.1 = rk at f1 f2 hnext ⊢
        have b1 : rk < 9223372036854775808 := by omega
        have b2 : rk < 2 ^ 63 := by omega
        have b3 : rk < (q.length : Int) := by omega
        have b4 : rk < (kn.length : Int) := by omega
        have b5 : rk < (row.length : Int) := by omega
        have b6 : rk < (due.length : Int) := by omega
        have hq0 := q1 _ (kso_getD (l := q) (i := Int.toNat 0) (by show 0 < q.length; omega))
        have hqr := q1 _ (kso_getD (l := q) (i := rk.toNat) (by walk_at "m_o"))
        have hkr := kn1 _ (kso_getD (l := kn) (i := rk.toNat) (by walk_at "m_o"))
        have hsq : (pl.2.2.1 * q.getD (Int.toNat 0) 0).natAbs ≤ 36 * 256 := by
          rw [Int.natAbs_mul]
          exact Nat.mul_le_mul (by walk_at "m_o") (by walk_at "m_o")
        refine ⟨_, by walk_at "m_set", ?_⟩; refine SeqK.next (by with_reducible assumption) ?_; refine ExW.last ?_; refine ExW.if_ ?_; refine BW.and ?_; refine BW.cmp (by walk_at "e") (by walk_at "e") (by walk_at "e_op") ?_
        refine ⟨fun hc => ?_, fun hc => ?_⟩
        · refine BW.and ?_; refine BW.cmp (by walk_at "e") (by walk_at "e") (by walk_at "e_op") ?_
          refine ⟨fun hd => ?_, fun hd => ?_⟩
          · refine BW.and_nil ?_
            refine ⟨fun _ => ?_, (fun h => nomatch h)⟩
            rw [bne_iff_ne] at hc
            rw [beq_iff_eq] at hd
            rw [if_pos ⟨hc, hd⟩] at hnext
            refine ExW.consO fun _ _ => ?_; refine ExW.assign (by with_reducible assumption) (by walk_at "m_sto") ?_; refine TW.binop ?_; refine TW.ev (by walk_at "e") ?_; refine TW.callB (by with_reducible assumption) rfl (by walk_at "m_k") (by boot_by_name) ?_; refine AW.cons ?_
            refine TW.compS [("nine", _)] gf (.one _ _) (by rfl) (by walk_at "m_lf1") (by decide) ?_
            refine TW.ev (by walk_at "e") ?_
            refine CItW.map (pl.2.2.2.map pD) (iL (pl.2.2.2.map fun z => nine.getD z.1.toNat 0 * z.2)) (.list _) (by simp [iL]) (by simp [iL]; omega) ?_ ?_
            · intro f' gf' j d' hj
              rw [List.getElem?_map] at hj
              obtain ⟨z, hz, rfl⟩ := Option.map_eq_some_iff.mp hj
              obtain ⟨z1, z2, z3, z4⟩ := f6 z (List.mem_of_getElem? hz)
              unfold pD
              refine AsW.tuple (by with_reducible assumption) (by walk_at "m_names") (Sto.all (by rfl)) (by walk_at "m_seq") (by rfl) ⟨_, by walk_at "m_sets", ?_⟩
              refine ⟨by walk_at "m_sub", ?_⟩
              refine TW.ev (by walk_at "e") ?_
              exact ⟨rfl, by simp [iL, hz]⟩
            · refine AW.ev (by walk_at "el") ?_
              refine CallB.sum ?_
              refine T2.mul (by walk_at "m_mul") ?_; refine ⟨_, by walk_at "m_set", ?_⟩; refine SeqK.next (by with_reducible assumption) ?_; refine ExW.consO fun _ _ => ?_
              have hN : pl.2.2.1 * q.getD (Int.toNat 0) 0 * (List.map (fun z => nine.getD z.1.toNat 0 * z.2) pl.2.2.2).sum = lawNum nine q pl := rfl
              rw [hN]
              have hfin : ∀ v, v = lawSign (lawNum nine q pl) (q.getD rk.toNat 0) (kn.getD rk.toNat 0) → (iL due).set rk.toNat (.int v) = iL (((plL k).take (i + 1)).foldl (lawStep row nine q kn k) row) := fun v hv => by rw [hnext, iL_set, hv]
              generalize lawNum nine q pl = N at hfin ⊢
              generalize hqv : q.getD rk.toNat 0 = qv at hqr hfin
              generalize hkv : kn.getD rk.toNat 0 = kv at hkr hc hfin
              refine ExW.assignTupL gf (by rfl) (by rfl) ?_
              refine TW.tuple ?_; refine AW.cons ?_; refine TW.callB (by with_reducible assumption) rfl (by walk_at "m_k") (by boot_by_name) ?_; refine AW.ev (by walk_at "el") ?_; refine CallB.abs ?_; refine AW.ev (by walk_at "el") ?_; refine ⟨by walk_at "m_len", ?_⟩
              rw [hqv]
              skip
              refine ⟨_, _, _, rfl, by walk_at "m_sets", ?_⟩
              have hab : (if N < 0 then -N else N) = absI N := rfl
              rw [hab]
              have ha0 : 0 ≤ absI N := by unfold absI; split <;> omega
              have hlaw : lawSign N qv kv = (let m := absI N / (256 * qv) + (if decide (256 * qv ≤ 2 * (absI N % (256 * qv))) = true then 1 else 0); let t := if 0 < kv then min m (2 ^ kv.toNat - 1) else m; if N < 0 then -t else t) := by
                unfold lawSign lawMany
                simp only [decide_eq_true_eq]
              generalize absI N = aN at ha0 hlaw ⊢
              refine SeqK.next (by with_reducible assumption) ?_; refine ExW.consO fun _ _ => ?_; refine ExW.assign (by with_reducible assumption) (by walk_at "m_sto") ?_; refine TW.binop ?_; refine TW.ev (by walk_at "e") ?_; refine TW.callT (by with_reducible assumption) rfl (by walk_at "m_k") (by boot_by_name) ?_; refine AW.ev (by walk_at "el") ?_; refine CallB.intBool ?_; refine T2.add ?_; refine ⟨_, by walk_at "m_set", ?_⟩; refine SeqK.next (by with_reducible assumption) ?_; refine ExW.consO fun _ _ => ?_; refine ExW.if_ ?_; refine BW.cmp (by walk_at "e") (by walk_at "e") (by walk_at "e_op") ?_
              generalize aN / (256 * qv) + (if decide (256 * qv ≤ 2 * (aN % (256 * qv))) = true then 1 else 0) = M at hlaw ⊢
              simp only at hlaw
              rw [hkv]
              refine ⟨fun he => ?_, fun he => ?_⟩ <;> simp only [decide_eq_true_eq, decide_eq_false_iff_not] at he
              · rw [if_pos he] at hlaw
                refine ExW.last ?_; refine ExW.assign (by with_reducible assumption) (by walk_at "m_sto") ?_; refine TW.callB (by with_reducible assumption) rfl (by walk_at "m_k") (by boot_by_name) ?_; refine AW.cons ?_; refine TW.ev (by walk_at "e") ?_; refine AW.cons ?_; refine TW.binop ?_; refine TW.binop ?_; refine TW.ev (by walk_at "e") ?_; refine TW.ev (by walk_at "e") ?_
                rw [hkv]
                refine T2.powS (by walk_at "m_o") (by walk_at "m_o") (by walk_at "m_o") ?_
                refine TW.ev (by walk_at "e") ?_; refine T2.sub ?_; refine AW.ev (by walk_at "el") ?_; refine CallB.min ?_; refine ⟨_, by walk_at "m_set", ?_⟩; refine SeqK.next (by with_reducible assumption) ?_; refine ExW.last ?_; refine ExW.setItemP ?_; refine TW.ifexp ?_; refine BW.cmp (by walk_at "e") (by walk_at "e") (by walk_at "e_op") ?_
                refine ⟨fun hg => ?_, fun hg => ?_⟩ <;> simp only [decide_eq_true_eq, decide_eq_false_iff_not] at hg
                · rw [if_pos hg] at hlaw
                  refine TW.ev (by walk_at "e") ?_; refine TW.ev (by walk_at "e") ?_; refine TW.ev (by walk_at "e") ?_; refine PutW.mk (by walk_at "m_atq") (by walk_at "m_o") (by walk_at "m_len") (by walk_at "m_o") ?_; refine LoopK.next (by with_reducible assumption) ?_
                  walk_at "m_less"
                  rw [hfin _ hlaw.symm]
                · rw [if_neg hg] at hlaw
                  refine TW.ev (by walk_at "e") ?_; refine TW.ev (by walk_at "e") ?_; refine TW.ev (by walk_at "e") ?_; refine PutW.mk (by walk_at "m_atq") (by walk_at "m_o") (by walk_at "m_len") (by walk_at "m_o") ?_; refine LoopK.next (by with_reducible assumption) ?_
                  walk_at "m_less"
                  rw [hfin _ hlaw.symm]
              · rw [if_neg he] at hlaw
                refine ExW.nil ?_; refine SeqK.next (by with_reducible assumption) ?_; refine ExW.last ?_; refine ExW.setItemP ?_; refine TW.ifexp ?_; refine BW.cmp (by walk_at "e") (by walk_at "e") (by walk_at "e_op") ?_
                refine ⟨fun hg => ?_, fun hg => ?_⟩ <;> simp only [decide_eq_true_eq, decide_eq_false_iff_not] at hg
                · rw [if_pos hg] at hlaw
                  refine TW.ev (by walk_at "e") ?_; refine TW.ev (by walk_at "e") ?_; refine TW.ev (by walk_at "e") ?_; refine PutW.mk (by walk_at "m_atq") (by walk_at "m_o") (by walk_at "m_len") (by walk_at "m_o") ?_; refine LoopK.next (by with_reducible assumption) ?_
                  walk_at "m_less"
                  rw [hfin _ hlaw.symm]
                · rw [if_neg hg] at hlaw
                  refine TW.ev (by walk_at "e") ?_; refine TW.ev (by walk_at "e") ?_; refine TW.ev (by walk_at "e") ?_; refine PutW.mk (by walk_at "m_atq") (by walk_at "m_o") (by walk_at "m_len") (by walk_at "m_o") ?_; refine LoopK.next (by with_reducible assumption) ?_
                  walk_at "m_less"
                  rw [hfin _ hlaw.symm]
          · refine ⟨(fun h => nomatch h), fun _ => ?_⟩
            rw [beq_eq_false_iff_ne] at hd
            rw [if_neg (fun h => hd h.2)] at hnext
            refine ExW.nil ?_; refine LoopK.next (by with_reducible assumption) ?_
            walk_at "m_less"
            rw [hnext]
        · refine ⟨(fun h => nomatch h), fun _ => ?_⟩
          rw [bne_eq_false_iff_eq] at hc
          rw [if_neg (fun h => h.1 hc)] at hnext
          refine ExW.nil ?_; refine LoopK.next (by with_reducible assumption) ?_
          walk_at "m_less"
          rw [hnext]
      · rintro loc' mt' ⟨rfl, rfl⟩
        refine SeqK.next (by with_reducible assumption) ?_; refine ExW.last ?_; refine ExW.ret ?_; refine TW.and ?_; refine TW.compare ?_; refine TW.ev (by walk_at "e") ?_; refine TW.ev (by walk_at "e") ?_
        rw [List.length_map, List.take_length, show smRow row nine q kn k = (plL k).foldl (lawStep row nine q kn k) row from row_law RO]
        refine T2.eqL (.list _) (.ref (.head _)) ?_
        rw [decide_eq_true rfl]
        refine ⟨_, rfl, fun _ => ?_, (fun h => nomatch h)⟩
        refine TW.and_one ?_; refine TW.compare ?_; refine TW.ev (by walk_at "e") ?_; refine TW.ev (by walk_at "e") ?_
        refine T2.eqL (.list _) (.list _) ?_
        rw [decide_eq_true rfl]
        refine RetK.go (by with_reducible assumption) ?_
        exact RetW.ret ⟨rfl, x2, y2, hs2, rfl⟩ (.cons _ (.refl _))
end

-- C17
section
variable {w : World} {p : Program} {loose : List PySem.Str} {mg mb : PySem.Str → Option Value}
noncomputable def someL (k : Int) (kn : List Int) : List Int := (plL k).map fun pl => kn.getD (lawR k pl) 0
theorem some_any {k : Int} (hk : Side k) (kn : List Int) : (gR k).any (nz kn) = !decide ((someL k kn).filter (fun v => v != 0) = []) := by
  have e : ∀ l : List Int, (!decide (l.filter (fun v => v != 0) = [])) = l.any (fun v => v != 0) := by
    intro l
    induction l with
    | nil => rfl
    | cons a l ih =>
      rw [List.filter_cons, List.any_cons, ← ih]
      cases h : (a != 0) <;> simp
  rw [e]
  unfold someL
  rw [List.any_map]
  rcases hk with rfl | rfl | rfl
  · show (nz kn (some 1) || (nz kn (some 2) || (nz kn none || (nz kn (some 3) || (nz kn none || false))))) = _
    show _ = ((kn.getD (lawR 2 (1, 0, 32, [(3, 1), (5, -1)])) 0 != 0) || ((kn.getD (lawR 2 (0, 1, 32, [(1, 1), (7, -1)])) 0 != 0) || ((kn.getD (lawR 2 (1, 1, 4, [(0, 1), (2, -1), (6, -1), (8, 1)])) 0 != 0) || false)))
    rw [show lawR 2 (1, 0, 32, [(3, 1), (5, -1)]) = 1 by decide, show lawR 2 (0, 1, 32, [(1, 1), (7, -1)]) = 2 by decide, show lawR 2 (1, 1, 4, [(0, 1), (2, -1), (6, -1), (8, 1)]) = 3 by decide]
    show (_ || (_ || (false || (_ || (false || false))))) = _
    rfl
  · show (nz kn (some 1) || (nz kn (some 2) || (nz kn (some 3) || (nz kn (some 4) || (nz kn (some 5) || false))))) = _
    show _ = ((kn.getD (lawR 3 (1, 0, 36, [(3, 1), (5, -1)])) 0 != 0) || ((kn.getD (lawR 3 (0, 1, 36, [(1, 1), (7, -1)])) 0 != 0) || ((kn.getD (lawR 3 (1, 1, 5, [(0, 1), (2, -1), (6, -1), (8, 1)])) 0 != 0) || ((kn.getD (lawR 3 (0, 2, 9, [(1, 1), (7, 1), (4, -2)])) 0 != 0) || ((kn.getD (lawR 3 (2, 0, 9, [(3, 1), (5, 1), (4, -2)])) 0 != 0) || false)))))
    rw [show lawR 3 (1, 0, 36, [(3, 1), (5, -1)]) = 1 by decide, show lawR 3 (0, 1, 36, [(1, 1), (7, -1)]) = 2 by decide, show lawR 3 (1, 1, 5, [(0, 1), (2, -1), (6, -1), (8, 1)]) = 4 by decide, show lawR 3 (0, 2, 9, [(1, 1), (7, 1), (4, -2)]) = 3 by decide, show lawR 3 (2, 0, 9, [(3, 1), (5, 1), (4, -2)]) = 5 by decide]
    show ((kn.getD 1 0 != 0) || ((kn.getD 2 0 != 0) || ((kn.getD 3 0 != 0) || ((kn.getD 4 0 != 0) || ((kn.getD 5 0 != 0) || false))))) = _
    generalize (kn.getD 1 0 != 0) = b1
    generalize (kn.getD 2 0 != 0) = b2
    generalize (kn.getD 3 0 != 0) = b3
    generalize (kn.getD 4 0 != 0) = b4
    generalize (kn.getD 5 0 != 0) = b5
    cases b1 <;> cases b2 <;> cases b3 <;> cases b4 <;> cases b5 <;> rfl
  · show (nz kn (some 1) || (nz kn (some 2) || (nz kn (some 3) || (nz kn (some 4) || (nz kn (some 5) || false))))) = _
    show _ = ((kn.getD (lawR 4 (1, 0, 36, [(3, 1), (5, -1)])) 0 != 0) || ((kn.getD (lawR 4 (0, 1, 36, [(1, 1), (7, -1)])) 0 != 0) || ((kn.getD (lawR 4 (1, 1, 5, [(0, 1), (2, -1), (6, -1), (8, 1)])) 0 != 0) || ((kn.getD (lawR 4 (0, 2, 9, [(1, 1), (7, 1), (4, -2)])) 0 != 0) || ((kn.getD (lawR 4 (2, 0, 9, [(3, 1), (5, 1), (4, -2)])) 0 != 0) || false)))))
    rw [show lawR 4 (1, 0, 36, [(3, 1), (5, -1)]) = 1 by decide, show lawR 4 (0, 1, 36, [(1, 1), (7, -1)]) = 2 by decide, show lawR 4 (1, 1, 5, [(0, 1), (2, -1), (6, -1), (8, 1)]) = 4 by decide, show lawR 4 (0, 2, 9, [(1, 1), (7, 1), (4, -2)]) = 3 by decide, show lawR 4 (2, 0, 9, [(3, 1), (5, 1), (4, -2)]) = 5 by decide]
    show ((kn.getD 1 0 != 0) || ((kn.getD 2 0 != 0) || ((kn.getD 3 0 != 0) || ((kn.getD 4 0 != 0) || ((kn.getD 5 0 != 0) || false))))) = _
    generalize (kn.getD 1 0 != 0) = b1
    generalize (kn.getD 2 0 != 0) = b2
    generalize (kn.getD 3 0 != 0) = b3
    generalize (kn.getD 4 0 != 0) = b4
    generalize (kn.getD 5 0 != 0) = b5
    cases b1 <;> cases b2 <;> cases b3 <;> cases b4 <;> cases b5 <;> rfl
theorem worth_zero {k : Int} (hk : Side k) : worthI (zeroL (k * k)) k = false := by
  rcases hk with rfl | rfl | rfl <;> decide
theorem worth_minus {k : Int} (hk : Side k) : worthI (knL (k * k).toNat fun _ => -1) k = false := by
  rcases hk with rfl | rfl | rfl <;> decide
theorem worth_right_ok {n : Nat} {mt : Mt} {k : Int} {kn : List Int} (hk : Side k) (hkn : (kn.length : Int) = k * k) (kn1 : ∀ v ∈ kn, -1 ≤ v ∧ v ≤ 3) :
    CallW (cx w p loose mg mb) (n + 6) (.ref 549) [.int k, .list (iL kn)] mt (fun d mt' => d = .bool true ∧ mt = mt') := by
  obtain ⟨kl, kh, kk1, kk2⟩ := hk.bd
  have kn0 := kn1 _ (kso_getD (l := kn) (i := Int.toNat 0) (by show 0 < kn.length; omega))
  walk_at "m_def"
  intro f gf
  refine fun _ _ => ?_; refine ExW.consO fun _ _ => ?_
  refine ExW.assignCS [("known", _), ("n", _)] gf (by rfl) (.one _ _) rfl (by rfl) (by walk_at "m_lf1") (by decide) (by rfl) (by rfl) (by decide) ?_
  refine TW.call (by with_reducible assumption) rfl (by walk_at "m_k") (by walk_at "m_k") ?_; refine AW.ev (by walk_at "el") ?_
  refine (places_ok (n := n + 4) hk).mono ?_
  rintro d mt' ⟨rfl, e⟩
  subst e
  skip
  refine CItW.map ((plL k).map plD) (iL (someL k kn)) (.list _) (by simp [iL, someL]) (by simp [iL, someL, plL]; split <;> simp) ?_ ?_
  · intro f' gf' j d' hj
    rw [List.getElem?_map] at hj
    obtain ⟨pl, hz, rfl⟩ := Option.map_eq_some_iff.mp hj
    obtain ⟨f1, f2, _⟩ := pl_facts hk pl (List.mem_of_getElem? hz)
    have hv : (iL (someL k kn))[j]? = some (.int (kn.getD (lRank k.toNat pl.1 pl.2.1).toNat 0)) := by
      unfold someL iL
      simp [hz, lawR]
    unfold plD
    refine AsW.tuple (by with_reducible assumption) (by walk_at "m_names") (Sto.all (by rfl)) (by walk_at "m_seq") (by rfl) ⟨_, by walk_at "m_sets", ?_⟩
    refine ⟨by walk_at "m_sub", ?_⟩
    refine TW.sub ?_; refine TW.ev (by walk_at "e") ?_; refine TW.call (by with_reducible assumption) rfl (by walk_at "m_k") (by walk_at "m_k") ?_; refine AW.ev (by walk_at "el") ?_
    refine (rank_okI (n := n + 4) hk).mono ?_
    rintro d mt' ⟨rfl, e⟩
    subst e
    refine T2.itemI (.list _) (by walk_at "m_o") (by first | omega | walk_at "m_len") (by walk_at "m_o") ?_
    exact ⟨rfl, hv⟩
  · refine ⟨_, by walk_at "m_set", ?_⟩; refine SeqK.next (by with_reducible assumption) ?_; refine ExW.consO fun _ _ => ?_; refine ExW.assign (by with_reducible assumption) (by walk_at "m_sto") ?_; refine TW.and ?_; refine TW.ev (by walk_at "e") ?_
    refine ⟨_, rfl, fun hb => ?_, fun hb => ?_⟩ <;> simp only [decide_eq_true_eq, decide_eq_false_iff_not] at hb
    · have hw : worthI kn k = !decide ((someL k kn).filter (fun v => v != 0) = []) := by
        unfold worthI
        rw [some_any hk, show (kn.getD 0 0 == -1) = false from by rw [beq_eq_false_iff_ne]; intro h; have h' : kn.getD (Int.toNat 0) 0 = -1 := h; omega]
        rfl
      refine TW.and_one ?_; refine TW.compare ?_
      refine TW.compS [] gf (.test _ _ _) (by rfl) (by walk_at "m_lf1") (by decide) ?_
      refine TW.ev (by walk_at "e") ?_
      refine CItW.mk _ (fun i ds mt' => ds = iL (((someL k kn).take i).filter (fun v => v != 0)) ∧ mt = mt') (.list _) ⟨rfl, rfl⟩ ?_ ?_ ?_
      · rintro i ds mt' ⟨rfl, _⟩
        have h1 := List.length_filter_le (fun v : Int => v != 0) ((someL k kn).take i)
        have h2 : (someL k kn).length ≤ 5 := by unfold someL plL; split <;> simp
        rw [List.length_take] at h1
        unfold iL
        rw [List.length_map]
        omega
      · rintro f' gf' i d' ds mt' hi ⟨rfl, e⟩
        subst e
        unfold iL at hi
        rw [List.getElem?_map] at hi
        obtain ⟨z, hz, rfl⟩ := Option.map_eq_some_iff.mp hi
        refine AsW.name (by with_reducible assumption) (by walk_at "m_sto") ⟨_, by walk_at "m_set", ?_⟩
        refine ⟨by walk_at "m_sub", EmW.test ?_⟩
        refine BW.cmp (by walk_at "e") (by walk_at "e") (by walk_at "e_op") ?_
        refine ⟨fun hd => ?_, fun hd => ?_⟩
        · refine TW.ev (by walk_at "e") ?_
          refine ⟨?_, rfl⟩
          rw [List.take_add_one, hz]
          simp only [bne_iff_ne, ne_eq] at hd
          simp [iL, hd]
        · refine ⟨?_, rfl⟩
          rw [List.take_add_one, hz]
          simp only [bne_eq_false_iff_eq] at hd
          simp [iL, hd]
      · rintro ds mt' ⟨rfl, e⟩
        subst e
        rw [show ((iL (someL k kn)).length) = (someL k kn).length by simp [iL], List.take_length]
        refine TW.list ?_; refine AW.ev (by walk_at "el") ?_; refine ⟨by walk_at "m_len", ?_⟩
        refine T2.neL (js := []) (.list _) (.list _) ?_
        refine ⟨_, by walk_at "m_set", ?_⟩; refine SeqK.next (by with_reducible assumption) ?_; refine ExW.last ?_; refine ExW.ret ?_; refine TW.and ?_; refine TW.compare ?_; refine TW.call (by with_reducible assumption) rfl (by walk_at "m_k") (by walk_at "m_k") ?_; refine AW.ev (by walk_at "el") ?_
        refine (worth_ok (n := n) hk hkn).mono ?_
        rintro d mt' ⟨rfl, e⟩
        subst e
        refine TW.ev (by walk_at "e") ?_; refine T2.eqB ?_
        refine ⟨_, rfl, fun _ => ?_, fun h => absurd h (by rw [hw]; simp)⟩
        refine TW.and ?_; refine TW.not ?_; refine TW.call (by with_reducible assumption) rfl (by walk_at "m_k") (by walk_at "m_k") ?_; refine AW.cons ?_; refine TW.binop ?_; refine TW.list ?_; refine AW.ev (by walk_at "el") ?_; refine ⟨by walk_at "m_len", ?_⟩; refine TW.ev (by walk_at "e") ?_
        refine T2.times (by walk_at "m_lst") (by walk_at "m_o") (by simp; omega) (by walk_at "m_o") ?_
        rw [flat_zero]
        refine AW.ev (by walk_at "el") ?_
        refine (worth_ok (n := n) (kn := zeroL (k * k)) hk (by simp [zeroL]; omega)).mono ?_
        rintro d mt' ⟨rfl, e⟩
        subst e
        rw [worth_zero hk]
        refine B1.bool ?_
        refine ⟨_, rfl, fun _ => ?_, fun h => absurd h (by decide)⟩
        refine TW.and_one ?_; refine TW.not ?_; refine TW.call (by with_reducible assumption) rfl (by walk_at "m_k") (by walk_at "m_k") ?_; refine AW.cons ?_; refine TW.binop ?_; refine TW.list ?_; refine AW.ev (by walk_at "el") ?_; refine ⟨by walk_at "m_len", ?_⟩; refine TW.ev (by walk_at "e") ?_
        refine T2.times (by walk_at "m_lst") (by walk_at "m_o") (by simp; omega) (by walk_at "m_o") ?_
        rw [knL_minus]
        refine AW.ev (by walk_at "el") ?_
        refine (worth_ok (n := n) (kn := knL (k * k).toNat fun _ => -1) hk (by simp [knL]; omega)).mono ?_
        rintro d mt' ⟨rfl, e⟩
        subst e
        rw [worth_minus hk]
        refine B1.bool ?_; refine RetK.go (by with_reducible assumption) ?_
        exact RetW.ret ⟨rfl, rfl⟩ (.refl _)
    · have hw : worthI kn k = false := by
        unfold worthI
        rw [show (kn.getD 0 0 == -1) = true from by rw [beq_iff_eq]; show kn.getD (Int.toNat 0) 0 = -1; omega]
        rfl
      refine ⟨_, by walk_at "m_set", ?_⟩; refine SeqK.next (by with_reducible assumption) ?_; refine ExW.last ?_; refine ExW.ret ?_; refine TW.and ?_; refine TW.compare ?_; refine TW.call (by with_reducible assumption) rfl (by walk_at "m_k") (by walk_at "m_k") ?_; refine AW.ev (by walk_at "el") ?_
      refine (worth_ok (n := n) hk hkn).mono ?_
      rintro d mt' ⟨rfl, e⟩
      subst e
      refine TW.ev (by walk_at "e") ?_; refine T2.eqB ?_
      refine ⟨_, rfl, fun _ => ?_, fun h => absurd h (by rw [hw]; simp)⟩
      refine TW.and ?_; refine TW.not ?_; refine TW.call (by with_reducible assumption) rfl (by walk_at "m_k") (by walk_at "m_k") ?_; refine AW.cons ?_; refine TW.binop ?_; refine TW.list ?_; refine AW.ev (by walk_at "el") ?_; refine ⟨by walk_at "m_len", ?_⟩; refine TW.ev (by walk_at "e") ?_
      refine T2.times (by walk_at "m_lst") (by walk_at "m_o") (by simp; omega) (by walk_at "m_o") ?_
      rw [flat_zero]
      refine AW.ev (by walk_at "el") ?_
      refine (worth_ok (n := n) (kn := zeroL (k * k)) hk (by simp [zeroL]; omega)).mono ?_
      rintro d mt' ⟨rfl, e⟩
      subst e
      rw [worth_zero hk]
      refine B1.bool ?_
      refine ⟨_, rfl, fun _ => ?_, fun h => absurd h (by decide)⟩
      refine TW.and_one ?_; refine TW.not ?_; refine TW.call (by with_reducible assumption) rfl (by walk_at "m_k") (by walk_at "m_k") ?_; refine AW.cons ?_; refine TW.binop ?_; refine TW.list ?_; refine AW.ev (by walk_at "el") ?_; refine ⟨by walk_at "m_len", ?_⟩; refine TW.ev (by walk_at "e") ?_
      refine T2.times (by walk_at "m_lst") (by walk_at "m_o") (by simp; omega) (by walk_at "m_o") ?_
      rw [knL_minus]
      refine AW.ev (by walk_at "el") ?_
      refine (worth_ok (n := n) (kn := knL (k * k).toNat fun _ => -1) hk (by simp [knL]; omega)).mono ?_
      rintro d mt' ⟨rfl, e⟩
      subst e
      rw [worth_minus hk]
      refine B1.bool ?_; refine RetK.go (by with_reducible assumption) ?_
      exact RetW.ret ⟨rfl, rfl⟩ (.refl _)
end

-- C18
section
variable {w : World} {p : Program} {loose : List PySem.Str} {mg mb : PySem.Str → Option Value}
theorem gM_at {refs : Nat → Addr} {P : Addr} {down : Nat} {row : Nat → List D} {rest : Mt} {s : Addr} {m : M} {G : M → Mt} (h : At s m rest G) : At s m (gM refs P down row rest) (fun y => gM refs P down row (G y)) := At.pre (.tail h) _
noncomputable def Filled (cell : Cell) (dl : List (List Int)) (k : Int) (pl down y x : Nat) : Prop := ∃ r, cell (pl * down + y) x = some r ∧ r.length = (k * k).toNat ∧ r.getD 0 0 = (dl.getD y []).getD x 0
structure Field (cell cell' : Cell) (dl : List (List Int)) (k : Int) (pl down across : Nat) : Prop where
  dlen : dl.length = down
  drow : ∀ l ∈ dl, l.length = across ∧ ∀ v ∈ l, -40 ≤ v ∧ v ≤ 58
  fill : ∀ y x, y < down → x < across → Filled cell' dl k pl down y x
  off : ∀ i x, (i < pl * down ∨ (pl + 1) * down ≤ i) → cell' i x = cell i x
theorem field_ok {n : Nat} {rest : Mt} {P s : Addr} {refs : Nat → Addr} {down across pl : Nat} {cell : Cell} {k x y : Int} {G : M → Mt} (hk : Side k) (hd : down ≤ 3) (ha : across ≤ 3) (hp : pl < 2) (hG : At s (Src x y) rest G) (hs : SrcOk x y) :
    CallW (cx w p loose mg mb) (n + 2) (.ref 554) [.ref s, .int k, gD (k * k) P, .int pl, .int across, .int down] (gM refs P down (rowC across cell) rest)
    (fun d mt' => ∃ dl cell' x' y', SrcOk x' y' ∧ Field cell cell' dl k pl down across ∧ d = .list (dl.map fun l => .list (iL l)) ∧ gM refs P down (rowC across cell') (G (Src x' y')) = mt') := by
  obtain ⟨kl, kh, kk1, kk2⟩ := hk.bd
  walk_at "m_def"
  intro f gf
  refine fun _ _ => ?_; refine ExW.consO fun _ _ => ?_
  refine ExW.assignCS [("source", _), ("across", _)] gf (by rfl) (.one _ _) rfl (by rfl) (by walk_at "m_lf1") (by decide) (by rfl) (by rfl) (by decide) ?_
  refine TW.callT (by with_reducible assumption) rfl (by walk_at "m_k") (by boot_by_name) ?_; refine AW.ev (by walk_at "el") ?_; refine CallB.range1 ?_
  refine CItW.mk _ (fun i ds mt' => i ≤ down ∧ ∃ (dl : List (List Int)) (x y : Int), SrcOk x y ∧ dl.length = i ∧ (∀ l ∈ dl, l.length = across ∧ ∀ v ∈ l, -40 ≤ v ∧ v ≤ 58) ∧ ds = dl.map (fun l => .list (iL l)) ∧ mt' = gM refs P down (rowC across cell) (G (Src x y)))
    (.upto down (by walk_at "m_o") (by walk_at "m_o") (by walk_at "m_o")) ⟨by omega, [], x, y, hs, rfl, (fun _ h => nomatch h), rfl, by rw [hG.self]⟩ ?_ ?_ ?_
  · rintro i ds mt' ⟨hi, dl, _, _, _, hl, _, rfl, _⟩
    rw [List.length_map]; omega
  · rintro f' gf' i d' ds mt' hi ⟨_, dl, x1, y1, hs1, hl, hdl, rfl, rfl⟩
    obtain ⟨hi1, rfl⟩ := rangeItems_get0 hi
    refine AsW.name (by with_reducible assumption) (by walk_at "m_sto") ⟨_, by walk_at "m_set", ?_⟩
    refine ⟨by walk_at "m_sub", EmW.elt ?_⟩
    refine TW.compS [("source", _)] gf' (.one _ _) (by rfl) (by walk_at "m_lf1") (by decide) ?_
    refine TW.callT (by with_reducible assumption) rfl (by walk_at "m_k") (by boot_by_name) ?_; refine AW.ev (by walk_at "el") ?_; refine CallB.range1 ?_
    refine CItW.mk _ (fun j ds mt' => j ≤ across ∧ Drawn (-40) 58 j (fun m => gM refs P down (rowC across cell) (G m)) ds mt') (.upto across (by walk_at "m_o") (by walk_at "m_o") (by walk_at "m_o")) ⟨by omega, [], x1, y1, hs1, rfl, rfl, (fun _ h => nomatch h), rfl⟩ ?_ ?_ ?_
    · rintro j ds mt' ⟨hj, l, _, _, _, rfl, hl, _, _⟩
      simp [iL]; omega
    · rintro f'' gf'' j d' ds mt' hj ⟨hj3, l, x2, y2, hs2, rfl, hl2, ha2, rfl⟩
      obtain ⟨hj1, rfl⟩ := rangeItems_get0 hj
      refine AsW.name (by with_reducible assumption) (by walk_at "m_sto") ⟨_, by walk_at "m_set", ?_⟩
      refine ⟨by walk_at "m_sub", EmW.elt ?_⟩
      refine TW.binop ?_; refine TW.call (by with_reducible assumption) rfl (by walk_at "m_k") (by walk_at "m_k") ?_; refine AW.ev (by walk_at "el") ?_
      refine (take_ok (n := n) (gM_at (hG.re _)) hs2 (by walk_at "m_o") (by walk_at "m_o")).mono ?_
      rintro d mt' ⟨r1, x3, y3, r10, r11, hs3, rfl, rfl⟩
      refine TW.ev (by walk_at "e") ?_; refine T2.sub ?_
      exact ⟨by omega, Drawn.snoc (G := fun m => gM refs P down (rowC across cell) (G m)) hs3 hl2 ha2 (by walk_at "m_o") (by walk_at "m_o")⟩
    · rintro ds mt' ⟨_, l, x2, y2, hs2, rfl, hl2, ha2, rfl⟩
      rw [rangeItems_len] at hl2
      refine ⟨by omega, dl ++ [l], x2, y2, hs2, by simp [hl], fun v hv => ?_, by simp, rfl⟩
      rcases List.mem_append.mp hv with hv | hv
      · exact hdl v hv
      · rw [List.mem_singleton.mp hv]; exact ⟨hl2, ha2⟩
  · rintro ds mt' ⟨_, dl, x1, y1, hs1, hl, hdl, rfl, rfl⟩
    rw [rangeItems_len] at hl
    refine ⟨_, by walk_at "m_set", ?_⟩; refine SeqK.next (by with_reducible assumption) ?_; refine ExW.consO fun _ _ => ?_; refine ExW.forQ ?_; refine TW.callT (by with_reducible assumption) rfl (by walk_at "m_k") (by boot_by_name) ?_; refine AW.ev (by walk_at "el") ?_; refine CallB.range1 ?_
    refine ⟨_, fun i loc mt' => ∃ (cell' : Cell) (x y : Int), SrcOk x y ∧ (∀ y' x', y' < i → x' < across → Filled cell' dl k pl down y' x') ∧ (∀ j z, (j < pl * down ∨ (pl + 1) * down ≤ j) → cell' j z = cell j z) ∧ Inv loc mt' [("dcs", .list (dl.map fun l => .list (iL l))), ("source", .ref s), ("n", .int k), ("grid", gD (k * k) P), ("place", .int pl), ("across", .int across), ("down", .int down)] (gM refs P down (rowC across cell') (G (Src x y))),
      .upto down (by walk_at "m_o") (by walk_at "m_o") (by walk_at "m_o"), ⟨cell, x1, y1, hs1, (fun _ _ h => absurd h (Nat.not_lt_zero _)), (fun _ _ _ => rfl), rfl, rfl⟩, ?_, ?_⟩
    · rintro i d' loc' mt' hi ⟨cell1, x2, y2, hs2, hfl, hoff, rfl, rfl⟩
      obtain ⟨hi1, rfl⟩ := rangeItems_get0 hi
      refine fun _ _ => ?_; refine AsW.name (by with_reducible assumption) (by walk_at "m_sto") ⟨_, by walk_at "m_set", ?_⟩; refine ExW.last ?_; refine ExW.forQ ?_; refine TW.callT (by with_reducible assumption) rfl (by walk_at "m_k") (by boot_by_name) ?_; refine AW.ev (by walk_at "el") ?_; refine CallB.range1 ?_
      refine ⟨_, fun j loc mt' => ∃ (cell' : Cell) (x y : Int), SrcOk x y ∧ (∀ y' x', (y' < i ∨ (y' = i ∧ x' < j)) → x' < across → Filled cell' dl k pl down y' x') ∧ (∀ j z, (j < pl * down ∨ (pl + 1) * down ≤ j) → cell' j z = cell j z) ∧ Inv loc mt' [("y", .int i), ("dcs", .list (dl.map fun l => .list (iL l))), ("source", .ref s), ("n", .int k), ("grid", gD (k * k) P), ("place", .int pl), ("across", .int across), ("down", .int down)] (gM refs P down (rowC across cell') (G (Src x y))),
        .upto across (by walk_at "m_o") (by walk_at "m_o") (by walk_at "m_o"), ⟨cell1, x2, y2, hs2, (fun y' x' h h' => hfl y' x' (by walk_at "m_o") h'), hoff, rfl, rfl⟩, ?_, ?_⟩
      · rintro j d' loc' mt' hj ⟨cell2, x3, y3, hs3, hfl2, hoff2, rfl, rfl⟩
        obtain ⟨hj1, rfl⟩ := rangeItems_get0 hj
        refine fun _ _ => ?_; refine AsW.name (by with_reducible assumption) (by walk_at "m_sto") ⟨_, by walk_at "m_set", ?_⟩; refine ExW.consO fun _ _ => ?_
        refine ExW.assignCS [("source", _)] gf (by rfl) (.one _ _) rfl (by rfl) (by walk_at "m_lf1") (by decide) (by rfl) (by rfl) (by decide) ?_
        refine TW.callT (by with_reducible assumption) rfl (by walk_at "m_k") (by boot_by_name) ?_; refine AW.ev (by walk_at "el") ?_; refine CallB.range1 ?_
        refine CItW.mk _ (fun m ds mt' => m ≤ 16 ∧ Drawn (-1) 1 m (fun z => gM refs P down (rowC across cell2) (G z)) ds mt') (.upto (k * k - 1).toNat (by walk_at "m_o") (by walk_at "m_o") (by walk_at "m_o")) ⟨by omega, [], x3, y3, hs3, rfl, rfl, (fun _ h => nomatch h), rfl⟩ ?_ ?_ ?_
        · rintro m ds mt' ⟨hm, l, _, _, _, rfl, hl, _, _⟩
          simp [iL]; omega
        · rintro f' gf' m d' ds mt' hm ⟨hm16, l, x4, y4, hs4, rfl, hl2, ha2, rfl⟩
          obtain ⟨hm1, rfl⟩ := rangeItems_get0 hm
          refine AsW.name (by with_reducible assumption) (by walk_at "m_sto") ⟨_, by walk_at "m_set", ?_⟩
          refine ⟨by walk_at "m_sub", EmW.elt ?_⟩
          refine TW.binop ?_; refine TW.binop ?_; refine TW.call (by with_reducible assumption) rfl (by walk_at "m_k") (by walk_at "m_k") ?_; refine AW.ev (by walk_at "el") ?_
          refine (take_ok (n := n) (gM_at (hG.re _)) hs4 (by walk_at "m_o") (by walk_at "m_o")).mono ?_
          rintro d mt' ⟨r1, x5, y5, r10, r11, hs5, rfl, rfl⟩
          refine TW.ev (by walk_at "e") ?_; refine T2.sub ?_; refine TW.call (by with_reducible assumption) rfl (by walk_at "m_k") (by walk_at "m_k") ?_; refine AW.ev (by walk_at "el") ?_
          refine (take_ok (n := n) (gM_at (hG.re _)) hs5 (by walk_at "m_o") (by walk_at "m_o")).mono ?_
          rintro d mt' ⟨r2, x6, y6, r20, r21, hs6, rfl, rfl⟩
          refine T2.mul (by walk_at "m_mul") ?_
          have hb : -1 ≤ (r1 - 1) * r2 ∧ (r1 - 1) * r2 ≤ 1 := by
            have : r2 = 0 ∨ r2 = 1 := by omega
            rcases this with rfl | rfl <;> omega
          exact ⟨by omega, Drawn.snoc (G := fun z => gM refs P down (rowC across cell2) (G z)) hs6 hl2 ha2 hb.1 hb.2⟩
        · rintro ds mt' ⟨_, l, x4, y4, hs4, rfl, hl2, ha2, rfl⟩
          rw [rangeItems_len] at hl2
          have hdy : i < dl.length := by omega
          have hrow := hdl _ (List.getElem_mem hdy)
          have hget : dl.getD i [] = dl[i] := by simp [List.getD, hdy]
          refine ⟨_, by walk_at "m_set", ?_⟩; refine SeqK.next (by with_reducible assumption) ?_; refine ExW.last ?_; refine ExW.expr (by with_reducible assumption) ?_; refine TW.methP ?_; refine TW.ev (by walk_at "e") ?_; refine MethW.mk (by walk_at "m_ins") (by walk_at "m_cls") (by walk_at "m_k") (by walk_at "m_k") (by walk_at "m_k") (by rfl) ?_; refine AW.cons ?_; refine TW.ev (by walk_at "e") ?_; refine AW.cons ?_; refine TW.ev (by walk_at "e") ?_; refine AW.cons ?_; refine TW.ev (by walk_at "e") ?_; refine AW.cons ?_; refine TW.binop ?_; refine TW.list ?_; refine AW.cons ?_; refine TW.sub ?_; refine TW.sub ?_; refine TW.ev (by walk_at "e") ?_; refine TW.ev (by walk_at "e") ?_
          unfold gD
          skip
          refine T2.item (.list _) (d' := .list (iL (dl.getD i []))) (by walk_at "m_o") (by walk_at "m_o") (by simp [hdy]) ?_
          refine TW.ev (by walk_at "e") ?_
          refine T2.itemI (.list _) (by walk_at "m_o") (by rw [hget, hrow.1]; omega) (by walk_at "m_o") ?_
          refine AW.ev (by walk_at "el") ?_; refine ⟨by walk_at "m_len", ?_⟩; refine TW.ev (by walk_at "e") ?_
          rw [Int.toNat_natCast]
          refine T2.cat (xs := iL [(dl.getD i []).getD j 0]) (ys := iL l) (.list _) (.list _) (by simp [iL]; omega) ?_
          rw [← iL_append]
          refine AW.ev (by walk_at "el") ?_
          refine (putG_ok (n := n) (by simp; omega) hd ha hp hi1 hj1 rfl rfl rfl).mono ?_
          rintro d mt' ⟨rfl, e⟩
          subst e
          refine ⟨rfl, ?_⟩; refine LoopK.next (by with_reducible assumption) ?_
          refine ⟨_, _, .cons _ (.cons _ (.refl _)), .refl _, _, x4, y4, hs4, ?_, ?_, rfl, rfl⟩
          · intro y' x' h h'
            by_cases e : y' = i ∧ x' = j
            · obtain ⟨rfl, rfl⟩ := e
              exact ⟨_, by unfold updC; rw [if_pos ⟨rfl, rfl⟩], by simp; omega, rfl⟩
            · obtain ⟨r, e1, e2, e3⟩ := hfl2 y' x' (by walk_at "m_o") h'
              exact ⟨r, by unfold updC; rw [if_neg (by walk_at "m_o")]; exact e1, e2, e3⟩
          · intro j' z h
            unfold updC
            rw [Nat.succ_mul] at h
            rw [if_neg (by walk_at "m_o")]
            exact hoff2 j' z (by rw [Nat.succ_mul]; exact h)
      · rintro loc' mt' ⟨cell2, x3, y3, hs3, hfl2, hoff2, rfl, rfl⟩
        rw [rangeItems_len] at hfl2
        refine LoopK.next (by with_reducible assumption) ?_
        refine ⟨_, _, .cons _ (.refl _), .refl _, cell2, x3, y3, hs3, fun y' x' h h' => hfl2 y' x' (by walk_at "m_o") h', hoff2, rfl, rfl⟩
    · rintro loc' mt' ⟨cell1, x2, y2, hs2, hfl, hoff, rfl, rfl⟩
      rw [rangeItems_len] at hfl
      refine SeqK.next (by with_reducible assumption) ?_; refine ExW.last ?_; refine ExW.retE (by walk_at "e") ?_; refine RetK.go (by with_reducible assumption) ?_
      exact RetW.ret ⟨dl, cell1, x2, y2, hs2, ⟨hl, hdl, hfl, hoff⟩, rfl, rfl⟩ (.refl _)
end

-- L2
noncomputable def rowV (cell : Cell) (k : Int) (i x : Nat) : List Int := (cell i x).getD (zeroL (k * k))
theorem block_in {pl y down : Nat} (hy : y < down) : pl * down ≤ pl * down + y ∧ pl * down + y < (pl + 1) * down := by
  rw [Nat.succ_mul]; omega
theorem smTill_in {cell f0 : Cell} {many : Int} {q kn : List Int} {k : Int} {pl down across y x : Nat} (hy : y < down) (hx : x < across) : smTill cell f0 many q kn k pl down across (down * across) (pl * down + y) x = some (smCell cell many q kn k pl down across y x) := by
  unfold smTill
  obtain ⟨h1, h2⟩ := block_in (pl := pl) hy
  have h3 : pl * down + y - pl * down = y := by omega
  have h4 : (y + 1) * across ≤ down * across := Nat.mul_le_mul_right _ hy
  rw [Nat.succ_mul] at h4
  rw [h3, if_pos ⟨h1, h2, hx, by omega⟩]
theorem smTill_out {cell f0 : Cell} {many : Int} {q kn : List Int} {k : Int} {pl down across i x m : Nat} (h : i < pl * down ∨ (pl + 1) * down ≤ i) : smTill cell f0 many q kn k pl down across m i x = f0 i x := by
  unfold smTill
  rw [if_neg (by omega)]
theorem smAll_at {cell : Cell} {tabs : Nat → List Int} {scans : List Sc} {k : Int} {pl down across y x : Nat} (hp : pl < 2) (hy : y < down) (hx : x < across) (hc : cell (pl * down + y) x = some (rowV cell k (pl * down + y) x)) :
    smAll cell tabs scans k down across 2 (pl * down + y) x = some (if worthI (knO scans (k * k) pl) k = true then smCell cell (k * k) (tabs pl) (knO scans (k * k) pl) k pl down across y x else rowV cell k (pl * down + y) x) := by
  have one : ∀ q, (q = pl → smAll cell tabs scans k down across q (pl * down + y) x = cell (pl * down + y) x → smAll cell tabs scans k down across (q + 1) (pl * down + y) x = some (if worthI (knO scans (k * k) pl) k = true then smCell cell (k * k) (tabs pl) (knO scans (k * k) pl) k pl down across y x else rowV cell k (pl * down + y) x)) := by
    rintro q rfl h
    unfold smAll
    by_cases hw : worthI (knO scans (k * k) q) k = true
    · rw [if_pos hw, if_pos hw, smTill_in hy hx]
    · rw [if_neg hw, if_neg hw, h, hc]
  have off : ∀ q, q ≠ pl → smAll cell tabs scans k down across (q + 1) (pl * down + y) x = smAll cell tabs scans k down across q (pl * down + y) x := by
    intro q hq
    rw [smAll]
    split
    · refine smTill_out ?_
      rcases Nat.lt_or_gt_of_ne hq with h | h
      · right
        have : (q + 1) * down ≤ pl * down := Nat.mul_le_mul_right _ h
        omega
      · left
        have h1 : (pl + 1) * down ≤ q * down := Nat.mul_le_mul_right _ h
        rw [Nat.succ_mul] at h1
        omega
    · rfl
  have : pl = 0 ∨ pl = 1 := by omega
  rcases this with rfl | rfl
  · rw [off 1 (by decide)]
    exact one 0 rfl rfl
  · refine one 1 rfl ?_
    rw [off 0 (by decide)]
    rfl
structure FOk (cell : Cell) (dl : List (List Int)) (k : Int) (pl down across : Nat) : Prop where
  dlen : dl.length = down
  drow : ∀ l ∈ dl, l.length = across ∧ ∀ v ∈ l, -40 ≤ v ∧ v ≤ 58
  fill : ∀ y x, y < down → x < across → Filled cell dl k pl down y x
theorem Field.f {cell cell' : Cell} {dl : List (List Int)} {k : Int} {pl down across : Nat} (h : Field cell cell' dl k pl down across) : FOk cell' dl k pl down across := ⟨h.dlen, h.drow, h.fill⟩
theorem FOk.next {cell cell' : Cell} {dl dl' : List (List Int)} {k : Int} {pl pl' down across : Nat} (h : FOk cell dl k pl down across) (F : Field cell cell' dl' k pl' down across) (hlt : pl < pl') : FOk cell' dl k pl down across := ⟨h.dlen, h.drow, fun y x hy hx => by
  obtain ⟨r, e1, e2, e3⟩ := h.fill y x hy hx
  refine ⟨r, ?_, e2, e3⟩
  rw [F.off _ _ (.inl ?_)]
  · exact e1
  · have h1 : (pl + 1) * down ≤ pl' * down := Nat.mul_le_mul_right _ hlt
    rw [Nat.succ_mul] at h1
    omega⟩
theorem FOk.val {cell : Cell} {dl : List (List Int)} {k : Int} {pl down across y x : Nat} (h : FOk cell dl k pl down across) (hy : y < down) (hx : x < across) : cell (pl * down + y) x = some (rowV cell k (pl * down + y) x) ∧ (rowV cell k (pl * down + y) x).length = (k * k).toNat ∧ (rowV cell k (pl * down + y) x).getD 0 0 = (dl.getD y []).getD x 0 := by
  obtain ⟨r, e1, e2, e3⟩ := h.fill y x hy hx
  have : rowV cell k (pl * down + y) x = r := by unfold rowV; rw [e1]; rfl
  rw [this]
  exact ⟨e1, e2, e3⟩
theorem FOk.dc {cell : Cell} {dl : List (List Int)} {k : Int} {pl down across y x : Nat} (h : FOk cell dl k pl down across) (hy : y < down) (hx : x < across) : dcV cell (k * k) (pl * down + y) x = (dl.getD y []).getD x 0 := (h.val hy hx).2.2
theorem FOk.line {cell : Cell} {dl : List (List Int)} {k : Int} {pl down across y : Nat} (h : FOk cell dl k pl down across) (hy : y < down) : (dl.getD y []).length = across ∧ ∀ v ∈ dl.getD y [], -40 ≤ v ∧ v ≤ 58 := by
  have hd : y < dl.length := by rw [h.dlen]; exact hy
  rw [show dl.getD y [] = dl[y] by simp [List.getD, hd]]
  exact h.drow _ (List.getElem_mem hd)
theorem all_cells {cell : Cell} {dls : Nat → List (List Int)} {k : Int} {down across : Nat} (h : ∀ q, q < 2 → FOk cell (dls q) k q down across) (i x : Nat) (hi : i < 2 * down) (hx : x < across) : cell i x = some (rowV cell k i x) ∧ (rowV cell k i x).length = (k * k).toNat ∧ -40 ≤ dcV cell (k * k) i x ∧ dcV cell (k * k) i x ≤ 58 := by
  have hd : 0 < down := by omega
  have h1 : i / down < 2 := Nat.div_lt_of_lt_mul (by omega)
  have h2 : i % down < down := Nat.mod_lt _ hd
  have h3 : i / down * down + i % down = i := by rw [Nat.mul_comm]; exact Nat.div_add_mod i down
  have F := h _ h1
  have v := F.val h2 hx
  have d := F.dc h2 hx
  rw [h3] at v d
  refine ⟨v.1, v.2.1, ?_⟩
  rw [d]
  have l := F.line h2
  exact l.2 _ (kso_getD (by rw [l.1]; exact hx))
theorem cells_ok {cell : Cell} {dls : Nat → List (List Int)} {k : Int} {down across : Nat} {q kn : List Int} (hk : Side k) (h : ∀ q, q < 2 → FOk cell (dls q) k q down across) (qL : (q.length : Int) = k * k) (knL' : (kn.length : Int) = k * k) (q1 : ∀ x ∈ q, 1 ≤ x ∧ x ≤ 256) (kn1 : ∀ x ∈ kn, -1 ≤ x ∧ x ≤ 3) :
    CellsOk cell q kn k down across where
  hk := hk
  len := fun i x hi hx => by
    have := (all_cells h i x hi hx).2.1
    have kk : 0 ≤ k * k := by rcases hk with rfl | rfl | rfl <;> decide
    show ((rowV cell k i x).length : Int) = _
    omega
  dc := fun i x hi hx => by have := (all_cells h i x hi hx).2.2; omega
  qL := qL
  knL := knL'
  q1 := q1
  kn1 := kn1
theorem nine_field {cell : Cell} {dl : List (List Int)} {k : Int} {pl down across y x : Nat} (h : FOk cell dl k pl down across) (hy : y < down) (hx : x < across) {i j : Nat} (hi : i < 3) (hj : j < 3) :
    nineV cell (k * k) pl down across x y (3 * i + j) = (dl.getD (kN ((y : Int) + ((i : Int) - 1)) down) []).getD (kN ((x : Int) + ((j : Int) - 1)) across) 0 := by
  unfold nineV
  have e1 : (3 * i + j) / 3 = i := by omega
  have e2 : (3 * i + j) % 3 = j := by omega
  rw [e1, e2]
  exact h.dc (kN_ok (by omega)).2 (kN_ok (by omega)).2
theorem gM_subl {refs : Nat → Addr} {P : Addr} {down : Nat} {row : Nat → List D} {rest : Mt} : List.Sublist rest (gM refs P down row rest) := (List.sublist_cons_self _ _).trans (List.sublist_append_right _ _)

-- C19
section
variable {w : World} {p : Program} {loose : List PySem.Str} {mg mb : PySem.Str → Option Value}
noncomputable def dD (dl : List (List Int)) : D := .list (dl.map fun l => .list (iL l))
noncomputable def two (α : Type) (a b : α) : Nat → α := fun q => if q = 0 then a else b
theorem grid_right_ok {n : Nat} {mt : Mt} {s : Addr} {x y k : Int} {G : M → Mt} {tabs : Nat → List Int} {scans : List Sc} (hk : Side k) (hG : At s (Src x y) mt G) (hs : SrcOk x y) (hsc : ∀ c ∈ scans, ScOk (k * k) c)
    (hq : ∀ q : Nat, q < 2 → ((tabs q).length : Int) = k * k ∧ ∀ v ∈ tabs q, 1 ≤ v ∧ v ≤ 256) :
    CallW (cx w p loose mg mb) (n + 9) (.ref 559) [.ref s, .int k, .list [.list (iL (tabs 0)), .list (iL (tabs 1))], .list (scans.map Sc.d), .list [.list (iL (knO scans (k * k) 0)), .list (iL (knO scans (k * k) 1))]] mt
    (fun d mt' => d = .bool true ∧ ∃ x' y', SrcOk x' y' ∧ mt' = G (Src x' y')) := by
  obtain ⟨kl, kh, kk1, kk2⟩ := hk.bd
  walk_at "m_def"
  intro f gf
  refine fun _ _ => ?_; refine ExW.consO fun _ _ => ?_; refine ExW.assignTupC (by with_reducible assumption) (by rfl) ?_; refine TW.tuple ?_; refine AW.cons ?_; refine TW.binop ?_; refine TW.ev (by walk_at "e") ?_; refine TW.call (by with_reducible assumption) rfl (by walk_at "m_k") (by walk_at "m_k") ?_; refine AW.ev (by walk_at "el") ?_
  refine (take_ok (n := n + 7) hG hs (by walk_at "m_o") (by walk_at "m_o")).mono ?_
  rintro d mt' ⟨r1, x1, y1, r10, r11, hs1, rfl, rfl⟩
  refine T2.add ?_; refine AW.cons ?_; refine TW.binop ?_; refine TW.ev (by walk_at "e") ?_; refine TW.call (by with_reducible assumption) rfl (by walk_at "m_k") (by walk_at "m_k") ?_; refine AW.ev (by walk_at "el") ?_
  refine (take_ok (n := n + 7) (hG.re _) hs1 (by walk_at "m_o") (by walk_at "m_o")).mono ?_
  rintro d mt' ⟨r2, x2, y2, r20, r21, hs2, rfl, rfl⟩
  obtain ⟨across, ea⟩ : ∃ a : Nat, 1 + r1 = a := ⟨(1 + r1).toNat, by omega⟩
  obtain ⟨down, eb⟩ : ∃ a : Nat, 1 + r2 = a := ⟨(1 + r2).toNat, by omega⟩
  refine T2.add ?_; refine AW.ev (by walk_at "el") ?_; refine ⟨by walk_at "m_len", ?_⟩; refine AsW.tuple (by with_reducible assumption) (by walk_at "m_names") (Sto.all (by rfl)) (by walk_at "m_seq") (by rfl) ⟨_, by walk_at "m_sets", ?_⟩; refine SeqK.next (by with_reducible assumption) ?_; refine ExW.consO fun _ _ => ?_; refine ExW.assign (by with_reducible assumption) (by walk_at "m_sto") ?_; refine TW.new (by with_reducible assumption) rfl (by walk_at "m_k") (by walk_at "m_k") (by walk_at "m_k") (by walk_at "m_k") (by walk_at "m_k") ?_; refine AW.cons ?_; refine TW.ev (by walk_at "e") ?_; refine AW.cons ?_; refine TW.ev (by walk_at "e") ?_; refine AW.cons ?_; refine TW.ev (by walk_at "e") ?_; refine AW.cons ?_; refine TW.ev (by walk_at "e") ?_; refine AW.cons ?_; refine TW.list ?_; refine AW.cons ?_; refine TW.new (by with_reducible assumption) rfl (by walk_at "m_k") (by walk_at "m_k") (by walk_at "m_k") (by walk_at "m_k") (by walk_at "m_k") ?_; refine AW.ev (by walk_at "el") ?_
  rw [ea, eb]
  skip
  intro dx1
  refine comp_init.mono ?_
  rintro d mt' ⟨rfl, rfl⟩
  refine ⟨rfl, _, _, .head, ?_⟩
  refine AW.cons ?_; refine TW.new (by with_reducible assumption) rfl (by walk_at "m_k") (by walk_at "m_k") (by walk_at "m_k") (by walk_at "m_k") (by walk_at "m_k") ?_; refine AW.ev (by walk_at "el") ?_
  intro dx2
  refine comp_init.mono ?_
  rintro d mt' ⟨rfl, rfl⟩
  refine ⟨rfl, _, _, .head, ?_⟩
  refine AW.ev (by walk_at "el") ?_; refine ⟨by walk_at "m_len", ?_⟩; refine AW.ev (by walk_at "el") ?_
  intro dx3
  refine frame_init.mono ?_
  rintro d mt' ⟨rfl, rfl⟩
  refine ⟨rfl, _, _, .head, ?_⟩
  refine ⟨_, by walk_at "m_set", ?_⟩; refine SeqK.next (by with_reducible assumption) ?_; refine ExW.consO fun _ _ => ?_; refine ExW.assign (by with_reducible assumption) (by walk_at "m_sto") ?_; refine TW.new (by with_reducible assumption) rfl (by walk_at "m_k") (by walk_at "m_k") (by walk_at "m_k") (by walk_at "m_k") (by walk_at "m_k") ?_; refine AW.ev (by walk_at "el") ?_
  intro dx4
  have ha : across ≤ 3 := by omega
  have hb : down ≤ 3 := by omega
  refine (grid_init (n := n + 3) hk ha hb).mono ?_
  rintro d mt' ⟨rfl, P, refs, rfl⟩
  refine ⟨rfl, _, _, Rem.pre (.tail .head) _, ?_⟩
  have e0 : rowsTo refs (fun _ => blank across) (2 * down) ++ (P, M.lst (planesTo refs down 2)) :: G (Src x2 y2) = gM refs P down (rowC across (fun _ _ => none)) (G (Src x2 y2)) := gM_congr fun i _ => blank_row across i
  rw [e0]
  refine ⟨_, by walk_at "m_set", ?_⟩; refine SeqK.next (by with_reducible assumption) ?_; refine ExW.consO fun _ _ => ?_
  refine ExW.assignCC gf (by rfl) (by decide) ?_
  refine TW.compS [("source", _), ("n", _), ("grid", _), ("across", _), ("down", _)] gf (.one _ _) (by rfl) (by walk_at "m_lf1") (by decide) ?_
  refine TW.callT (by with_reducible assumption) rfl (by walk_at "m_k") (by boot_by_name) ?_; refine AW.ev (by walk_at "el") ?_; refine CallB.range1 ?_
  refine CItW.mk _ (fun i ds mt' => i ≤ 2 ∧ ∃ (dls : List (List (List Int))) (cell : Cell) (x y : Int), SrcOk x y ∧ dls.length = i ∧ (∀ q, q < i → FOk cell (dls.getD q []) k q down across) ∧ ds = dls.map dD ∧ mt' = gM refs P down (rowC across cell) (G (Src x y)))
    (.upto 2 (by decide) (by decide) (by decide)) ⟨by omega, [], _, x2, y2, hs2, rfl, (fun _ h => absurd h (Nat.not_lt_zero _)), rfl, rfl⟩ ?_ ?_ ?_
  · rintro i ds mt' ⟨hi, dls, _, _, _, _, hl, _, rfl, _⟩
    rw [List.length_map]; omega
  · rintro f' gf' i d' ds mt' hi ⟨_, dls, cell, x3, y3, hs3, hl, hF, rfl, rfl⟩
    obtain ⟨hi1, rfl⟩ := rangeItems_get0 hi
    refine AsW.name (by with_reducible assumption) (by walk_at "m_sto") ⟨_, by walk_at "m_set", ?_⟩
    refine ⟨by walk_at "m_sub", EmW.elt ?_⟩
    refine TW.call (by with_reducible assumption) rfl (by walk_at "m_k") (by walk_at "m_k") ?_; refine AW.ev (by walk_at "el") ?_
    refine (field_ok (n := n + 6) hk hb ha hi1 (hG.re _) hs3).mono ?_
    rintro d mt' ⟨dl, cell', x4, y4, hs4, F, rfl, e⟩
    subst e
    refine ⟨by omega, dls ++ [dl], cell', x4, y4, hs4, by simp [hl], fun q hq => ?_, by simp [dD], rfl⟩
    by_cases e : q = i
    · subst e
      rw [show (dls ++ [dl]).getD q [] = dl by simp [List.getD, ← hl]]
      exact F.f
    · have h1 : q < i := by omega
      rw [show (dls ++ [dl]).getD q [] = dls.getD q [] by simp [List.getD, List.getElem?_append, hl, h1]]
      exact (hF q h1).next F h1
  · rintro ds mt' ⟨_, dls, cell, x3, y3, hs3, hl, hF, rfl, rfl⟩
    rw [rangeItems_len] at hl hF
    obtain ⟨dA, dB, rfl⟩ : ∃ dA dB, dls = [dA, dB] := by
      match dls, hl with
      | [a, b], _ => exact ⟨a, b, rfl⟩
    have hf : ∀ i x, i < 2 * down → x < across → ∃ r, cell i x = some r ∧ r.length ≤ 1000 := fun i x hi hx => by
      obtain ⟨e1, e2, _⟩ := all_cells hF i x hi hx
      exact ⟨_, e1, by omega⟩
    have hc : ∀ q : Nat, q < 2 → CellsOk cell (tabs q) (knO scans (k * k) q) k down across := fun q h => cells_ok hk hF (hq q h).1 (knO_len _ _ _ (by walk_at "m_o")) (hq q h).2 (knO_ok hsc)
    refine ⟨_, by walk_at "m_set", ?_⟩; refine SeqK.next (by with_reducible assumption) ?_; refine ExW.consO fun _ _ => ?_; refine ExW.assign (by with_reducible assumption) (by walk_at "m_sto") ?_; refine TW.call (by with_reducible assumption) rfl (by walk_at "m_k") (by walk_at "m_k") ?_; refine AW.ev (by walk_at "el") ?_
    refine (smgrid_ok (n := n + 1) (cell := cell) hk hb ha (gM_in refs P down (rowC across cell) _) hf hsc hc).mono ?_
    rintro d mt' ⟨PF, refsF, rfl, e⟩
    subst e
    refine ⟨_, by walk_at "m_set", ?_⟩; refine SeqK.next (by with_reducible assumption) ?_; refine ExW.consO fun _ _ => ?_; refine ExW.forC ?_; refine TW.callT (by with_reducible assumption) rfl (by walk_at "m_k") (by boot_by_name) ?_; refine AW.ev (by walk_at "el") ?_; refine CallB.range1 ?_
    have hfield : ∀ q, q < 2 → ([dD dA, dD dB] : List D)[((q : Nat) : Int).toNat]? = some (dD ([dA, dB].getD q [])) := fun q h => by
      match q, h with
      | 0, _ => rfl
      | 1, _ => rfl
    have hknown : ∀ q, q < 2 → ([.list (iL (knO scans (k * k) 0)), .list (iL (knO scans (k * k) 1))] : List D)[((q : Nat) : Int).toNat]? = some (.list (iL (knO scans (k * k) q))) := fun q h => by
      match q, h with
      | 0, _ => rfl
      | 1, _ => rfl
    have htab : ∀ q, q < 2 → ([.list (iL (tabs 0)), .list (iL (tabs 1))] : List D)[((q : Nat) : Int).toNat]? = some (.list (iL (tabs q))) := fun q h => by
      match q, h with
      | 0, _ => rfl
      | 1, _ => rfl
    generalize hdq : (fun q => [dA, dB].getD q []) = dq at hF
    have hfield : ∀ q, q < 2 → ([dD dA, dD dB] : List D)[((q : Nat) : Int).toNat]? = some (dD (dq q)) := fun q h => by rw [← hdq]; exact hfield q h
    have hF : ∀ q, q < 2 → FOk cell (dq q) k q down across := fun q h => by have := hF q h; rw [← hdq]; exact this
    refine ForC.mk _ (fun q loc mt' => Inv loc mt' [("found", gD (k * k) PF), ("fields", .list [dD dA, dD dB]), ("grid", gD (k * k) P), ("down", .int down), ("across", .int across), ("n", .int k), ("tables", .list [.list (iL (tabs 0)), .list (iL (tabs 1))]), ("known", .list [.list (iL (knO scans (k * k) 0)), .list (iL (knO scans (k * k) 1))])] (gM refsF PF down (rowC across (smAll cell tabs scans k down across 2)) (gM refs P down (rowC across cell) (G (Src x3 y3))))) (.upto 2 (by decide) (by decide) (by decide)) ⟨_, _, .cons_cons _ (.cons_cons _ (.cons_cons _ (.cons _ (.cons_cons _ (.cons_cons _ (.cons _ (.cons_cons _ (.cons_cons _ (.cons _ (.refl _)))))))))), .refl _, rfl, rfl⟩ ?_ ?_
    · rintro q d' loc' mt' Ψ1 hq' ⟨rfl, rfl⟩ hΨ1
      obtain ⟨hq2, rfl⟩ := rangeItems_get0 hq'
      have F := hF q hq2
      refine AsW.name (by with_reducible assumption) (by walk_at "m_sto") ⟨_, by walk_at "m_set", ?_⟩; refine ExW.last ?_; refine ExW.forC ?_; refine TW.callT (by with_reducible assumption) rfl (by walk_at "m_k") (by boot_by_name) ?_; refine AW.ev (by walk_at "el") ?_; refine CallB.range1 ?_
      refine ForC.mk _ (fun y loc mt' => Inv loc mt' [("place", .int q), ("found", gD (k * k) PF), ("fields", .list [dD dA, dD dB]), ("grid", gD (k * k) P), ("down", .int down), ("across", .int across), ("n", .int k), ("tables", .list [.list (iL (tabs 0)), .list (iL (tabs 1))]), ("known", .list [.list (iL (knO scans (k * k) 0)), .list (iL (knO scans (k * k) 1))])] (gM refsF PF down (rowC across (smAll cell tabs scans k down across 2)) (gM refs P down (rowC across cell) (G (Src x3 y3))))) (.upto down (by walk_at "m_o") (by walk_at "m_o") (by walk_at "m_o")) ⟨_, _, .refl _, .refl _, rfl, rfl⟩ ?_ ?_
      · rintro y d' loc' mt' Ψ2 hy ⟨rfl, rfl⟩ hΨ2
        obtain ⟨hy1, rfl⟩ := rangeItems_get0 hy
        refine AsW.name (by with_reducible assumption) (by walk_at "m_sto") ⟨_, by walk_at "m_set", ?_⟩; refine ExW.consO fun _ _ => ?_
        obtain ⟨lv, hlv⟩ : ∃ lv : Nat → List Int, lv = fun (i : Nat) => (dq q).getD (kN ((y : Int) + ((i : Int) - 1)) down) [] := ⟨_, rfl⟩
        refine ExW.assignCS [("down", _), ("fields", _), ("place", _), ("y", _)] gf (by rfl) (.one _ _) rfl (by rfl) (by walk_at "m_lf1") (by decide) (by rfl) (by rfl) (by decide) ?_
        refine TW.list ?_; refine AW.ev (by walk_at "el") ?_; refine ⟨by walk_at "m_len", ?_⟩
        refine CItW.map (iL [-1, 0, 1]) ((List.range 3).map fun i => .list (iL (lv i))) (.list _) rfl (by simp) ?_ ?_
        · intro f' gf' i d' hi
          obtain ⟨hi3, rfl⟩ := tri_get hi
          refine AsW.name (by with_reducible assumption) (by walk_at "m_sto") ⟨_, by walk_at "m_set", ?_⟩
          refine ⟨by walk_at "m_sub", ?_⟩
          refine TW.sub ?_; refine TW.sub ?_; refine TW.ev (by walk_at "e") ?_; refine TW.ev (by walk_at "e") ?_
          refine T2.item (.list _) (d' := dD (dq q)) (by walk_at "m_o") (by walk_at "m_o") (hfield q hq2) ?_
          unfold dD
          refine TW.callB (by with_reducible assumption) rfl (by walk_at "m_k") (by boot_by_name) ?_; refine AW.cons ?_; refine TW.ev (by walk_at "e") ?_; refine AW.cons ?_; refine TW.callB (by with_reducible assumption) rfl (by walk_at "m_k") (by boot_by_name) ?_; refine AW.ev (by walk_at "el") ?_; refine CallB.min ?_; refine AW.ev (by walk_at "el") ?_; refine CallB.max ?_
          obtain ⟨k1, k2⟩ := kN_ok (z := (y : Int) + ((i : Int) - 1)) (s := down) (by walk_at "m_o")
          refine T2.item (.list _) (d' := .list (iL (lv i))) (by walk_at "m_o") (by walk_at "m_o") ?_ ?_
          · show ((dq q).map fun l => D.list (iL l))[kN ((y : Int) + ((i : Int) - 1)) down]? = _
            rw [hlv]
            simp [F.dlen, k2]
          · exact ⟨rfl, by simp [hi3]⟩
        · refine ⟨_, by walk_at "m_set", ?_⟩; refine SeqK.next (by with_reducible assumption) ?_; refine ExW.last ?_; refine ExW.forC ?_; refine TW.callT (by with_reducible assumption) rfl (by walk_at "m_k") (by boot_by_name) ?_; refine AW.ev (by walk_at "el") ?_; refine CallB.range1 ?_
          refine ForC.mk _ (fun x loc mt' => Inv loc mt' [("lines", .list ((List.range 3).map fun i => .list (iL (lv i)))), ("y", .int y), ("place", .int q), ("found", gD (k * k) PF), ("fields", .list [dD dA, dD dB]), ("grid", gD (k * k) P), ("down", .int down), ("across", .int across), ("n", .int k), ("tables", .list [.list (iL (tabs 0)), .list (iL (tabs 1))]), ("known", .list [.list (iL (knO scans (k * k) 0)), .list (iL (knO scans (k * k) 1))])] (gM refsF PF down (rowC across (smAll cell tabs scans k down across 2)) (gM refs P down (rowC across cell) (G (Src x3 y3))))) (.upto across (by walk_at "m_o") (by walk_at "m_o") (by walk_at "m_o")) ⟨_, _, .refl _, .refl _, rfl, rfl⟩ ?_ ?_
          · rintro x d' loc' mt' Ψ3 hx ⟨rfl, rfl⟩ hΨ3
            obtain ⟨hx1, rfl⟩ := rangeItems_get0 hx
            obtain ⟨v1, v2, v3⟩ := F.val hy1 hx1
            have hrow : (cell (q * down + y) x).getD (zeroL (k * k)) = rowV cell k (q * down + y) x := rfl
            have hat := smAll_at (tabs := tabs) (scans := scans) hq2 hy1 hx1 v1
            refine AsW.name (by with_reducible assumption) (by walk_at "m_sto") ⟨_, by walk_at "m_set", ?_⟩; refine ExW.consO fun _ _ => ?_; refine ExW.assign (by with_reducible assumption) (by walk_at "m_sto") (TW.list ?_); refine AW.ev (by walk_at "el") ?_; refine ⟨by walk_at "m_len", ?_⟩; refine ⟨_, by walk_at "m_set", ?_⟩; refine SeqK.next (by with_reducible assumption) ?_; refine ExW.consO fun _ _ => ?_; refine ExW.forC ?_; refine TW.ev (by walk_at "e") ?_
            refine ForC.mk _ (fun j loc mt' => Inv loc mt' [("nine", .list (iL ((List.range (3 * j)).map (nineV cell (k * k) q down across x y)))), ("x", .int x), ("lines", .list ((List.range 3).map fun i => .list (iL (lv i)))), ("y", .int y), ("place", .int q), ("found", gD (k * k) PF), ("fields", .list [dD dA, dD dB]), ("grid", gD (k * k) P), ("down", .int down), ("across", .int across), ("n", .int k), ("tables", .list [.list (iL (tabs 0)), .list (iL (tabs 1))]), ("known", .list [.list (iL (knO scans (k * k) 0)), .list (iL (knO scans (k * k) 1))])] (gM refsF PF down (rowC across (smAll cell tabs scans k down across 2)) (gM refs P down (rowC across cell) (G (Src x3 y3))))) (.list _) ⟨_, _, .refl _, .refl _, rfl, rfl⟩ ?_ ?_
            · rintro j d' loc' mt' Ψ4 hj ⟨rfl, rfl⟩ hΨ4
              rw [List.getElem?_map] at hj
              obtain ⟨j', hj1, rfl⟩ := Option.map_eq_some_iff.mp hj
              obtain ⟨hj3, hj2⟩ := List.getElem?_eq_some_iff.mp hj1
              rw [List.getElem_range] at hj2
              subst hj2
              have hj3 : j < 3 := by simpa using hj3
              have hll : (lv j).length = across := by rw [hlv]; exact (F.line (kN_ok (by walk_at "m_o")).2).1
              refine AsW.name (by with_reducible assumption) (by walk_at "m_sto") ⟨_, by walk_at "m_set", ?_⟩; refine ExW.last ?_; refine ExW.assign (by with_reducible assumption) (by walk_at "m_sto") ?_; refine TW.binop ?_; refine TW.ev (by walk_at "e") ?_
              refine TW.compS [("across", _), ("line", _), ("x", _)] gf (.one _ _) (by rfl) (by walk_at "m_lf1") (by decide) ?_
              refine TW.list ?_; refine AW.ev (by walk_at "el") ?_; refine ⟨by walk_at "m_len", ?_⟩
              refine CItW.map (iL [-1, 0, 1]) (iL ((List.range 3).map fun t => nineV cell (k * k) q down across x y (3 * j + t))) (.list _) rfl (by simp [iL]) ?_ ?_
              · intro f' gf' t d' ht
                obtain ⟨ht3, rfl⟩ := tri_get ht
                refine AsW.name (by with_reducible assumption) (by walk_at "m_sto") ⟨_, by walk_at "m_set", ?_⟩
                refine ⟨by walk_at "m_sub", ?_⟩
                refine TW.sub ?_; refine TW.ev (by walk_at "e") ?_; refine TW.callB (by with_reducible assumption) rfl (by walk_at "m_k") (by boot_by_name) ?_; refine AW.cons ?_; refine TW.ev (by walk_at "e") ?_; refine AW.cons ?_; refine TW.callB (by with_reducible assumption) rfl (by walk_at "m_k") (by boot_by_name) ?_; refine AW.ev (by walk_at "el") ?_; refine CallB.min ?_; refine AW.ev (by walk_at "el") ?_; refine CallB.max ?_; refine T2.itemI (.list _) (by walk_at "m_o") (by first | omega | walk_at "m_len") (by walk_at "m_o") ?_
                obtain ⟨k1, k2⟩ := kN_ok (z := (x : Int) + ((t : Int) - 1)) (s := across) (by walk_at "m_o")
                refine ⟨rfl, ?_⟩
                have e := nine_field F hy1 hx1 hj3 ht3
                have e' : (lv j).getD (kN ((x : Int) + ((t : Int) - 1)) across) 0 = nineV cell (k * k) q down across x y (3 * j + t) := by rw [e, hlv]
                show _ = some (D.int ((lv j).getD (kN ((x : Int) + ((t : Int) - 1)) across) 0))
                rw [e']
                simp [iL, ht3]
              · refine T2.cat (.list _) (.list _) (by simp [iL]; omega) ?_
                rw [← iL_append]
                refine ⟨_, by walk_at "m_set", ?_⟩
                refine hΨ4 _ _ ⟨_, _, .cons _ (.refl _), .refl _, ?_, rfl⟩
                rw [show 3 * (j + 1) = 3 * j + 3 by omega, List.range_add, List.map_append, List.map_map]
                rfl
            · rintro loc' mt' ⟨rfl, rfl⟩
              rw [List.length_map, List.length_range, show (List.range (3 * 3)).map (nineV cell (k * k) q down across x y) = nineL cell (k * k) q down across x y from rfl]
              refine SeqK.next (by with_reducible assumption) ?_; refine ExW.consO fun _ _ => ?_; refine ExW.assign (by with_reducible assumption) (by walk_at "m_sto") ?_; refine TW.methP ?_; refine TW.ev (by walk_at "e") ?_; refine MethW.mk (by walk_at "m_ins") (by walk_at "m_cls") (by walk_at "m_k") (by walk_at "m_k") (by walk_at "m_k") (by rfl) ?_; refine AW.ev (by walk_at "el") ?_
              refine (getG_ok (cell := cell) (by walk_at "m_o") (by walk_at "m_o") hb ha ((gM_in refs P down (rowC across cell) (G (Src x3 y3))).mono fun z hz => gM_sub z hz) hq2 hy1 hx1 rfl rfl rfl).mono ?_
              rintro d mt' ⟨rfl, e⟩
              subst e
              rw [hrow]
              refine ⟨_, by walk_at "m_set", ?_⟩; refine SeqK.next (by with_reducible assumption) ?_; refine ExW.consO fun _ _ => ?_; refine ExW.if_ ?_; refine BW.plain ?_; refine TW.call (by with_reducible assumption) rfl (by walk_at "m_k") (by walk_at "m_k") ?_; refine AW.cons ?_; refine TW.sub ?_; refine TW.ev (by walk_at "e") ?_; refine TW.ev (by walk_at "e") ?_
              refine T2.item (.list _) (d' := .list (iL (knO scans (k * k) q))) (by walk_at "m_o") (by walk_at "m_o") (hknown q hq2) ?_
              refine AW.ev (by walk_at "el") ?_
              refine (worth_ok (n := n + 3) hk (knO_len _ _ _ (by walk_at "m_o"))).mono ?_
              rintro d mt' ⟨rfl, e⟩
              subst e
              refine B1.bool ?_
              refine ⟨fun hw => ?_, fun hw => ?_⟩
              · rw [if_pos hw] at hat
                refine ExW.last ?_; refine ExW.assign (by with_reducible assumption) (by walk_at "m_sto") ?_; refine TW.call (by with_reducible assumption) rfl (by walk_at "m_k") (by walk_at "m_k") ?_; refine AW.cons ?_; refine TW.ev (by walk_at "e") ?_; refine AW.cons ?_; refine TW.ev (by walk_at "e") ?_; refine AW.cons ?_; refine TW.sub ?_; refine TW.ev (by walk_at "e") ?_; refine TW.ev (by walk_at "e") ?_
                refine T2.item (.list _) (d' := .list (iL (tabs q))) (by walk_at "m_o") (by walk_at "m_o") (htab q hq2) ?_
                refine AW.cons ?_; refine TW.sub ?_; refine TW.ev (by walk_at "e") ?_; refine TW.ev (by walk_at "e") ?_
                refine T2.item (.list _) (d' := .list (iL (knO scans (k * k) q))) (by walk_at "m_o") (by walk_at "m_o") (hknown q hq2) ?_
                refine AW.ev (by walk_at "el") ?_
                refine (smooth_ok (n := n + 3) ((hc q hq2).row hq2 hy1 hx1)).mono ?_
                rintro d mt' ⟨rfl, e⟩
                subst e
                rw [show smRow ((cell (q * down + y) x).getD (zeroL (k * k))) (nineL cell (k * k) q down across x y) (tabs q) (knO scans (k * k) q) k = smCell cell (k * k) (tabs q) (knO scans (k * k) q) k q down across y x from rfl]
                refine ⟨_, by walk_at "m_set", ?_⟩; refine SeqK.next (by with_reducible assumption) ?_; refine ExW.last ?_; refine ExW.if_ ?_; refine BW.or ?_; refine BW.compare ?_; refine TW.methP ?_; refine TW.ev (by walk_at "e") ?_; refine MethW.mk (by walk_at "m_ins") (by walk_at "m_cls") (by walk_at "m_k") (by walk_at "m_k") (by walk_at "m_k") (by rfl) ?_; refine AW.ev (by walk_at "el") ?_
                refine (getG_ok (cell := smAll cell tabs scans k down across 2) (by walk_at "m_o") (by walk_at "m_o") hb ha (gM_in ..) hq2 hy1 hx1 rfl rfl rfl).mono ?_
                rintro d mt' ⟨rfl, e⟩
                subst e
                rw [hat]
                refine TW.ev (by walk_at "e") ?_
                refine T2.neL (.list _) (.list _) ?_
                rw [Option.getD_some, decide_eq_true rfl]
                refine B1.bool ?_
                refine ⟨(fun h => nomatch h), fun _ => ?_⟩
                refine BW.or ?_; refine BW.compare ?_; refine TW.sub ?_; refine TW.methP ?_; refine TW.ev (by walk_at "e") ?_; refine MethW.mk (by walk_at "m_ins") (by walk_at "m_cls") (by walk_at "m_k") (by walk_at "m_k") (by walk_at "m_k") (by rfl) ?_; refine AW.ev (by walk_at "el") ?_
                refine (getG_ok (cell := cell) (by walk_at "m_o") (by walk_at "m_o") hb ha ((gM_in refs P down (rowC across cell) (G (Src x3 y3))).mono fun z hz => gM_sub z hz) hq2 hy1 hx1 rfl rfl rfl).mono ?_
                rintro d mt' ⟨rfl, e⟩
                subst e
                rw [hrow]
                refine TW.ev (by walk_at "e") ?_; refine T2.itemI (.list _) (by walk_at "m_o") (by first | omega | walk_at "m_len") (by walk_at "m_o") ?_; refine TW.sub ?_; refine TW.sub ?_; refine TW.sub ?_; refine TW.ev (by walk_at "e") ?_; refine TW.ev (by walk_at "e") ?_
                refine T2.item (.list _) (d' := dD (dq q)) (by walk_at "m_o") (by walk_at "m_o") (hfield q hq2) ?_
                unfold dD
                refine TW.ev (by walk_at "e") ?_
                refine T2.item (.list _) (d' := .list (iL ((dq q).getD y []))) (by walk_at "m_o") (by walk_at "m_o") (by simp [F.dlen, hy1]) ?_
                refine TW.ev (by walk_at "e") ?_
                refine T2.itemI (.list _) (by walk_at "m_o") (by rw [(F.line hy1).1]; omega) (by walk_at "m_o") ?_
                refine T2.ne ?_; refine B1.bool ?_
                rw [show (rowV cell k (q * down + y) x).getD (Int.toNat 0) 0 = ((dq q).getD y []).getD (x : Int).toNat 0 from v3]
                refine ⟨fun h => absurd h (by simp), fun _ => ?_⟩
                refine BW.or_nil ?_
                refine ⟨(fun h => nomatch h), fun _ => ?_⟩
                refine ExW.nil ?_
                exact hΨ3 _ _ ⟨_, _, .cons _ (.cons _ (.cons _ (.refl _))), .refl _, rfl, rfl⟩
              · rw [if_neg (by rw [hw]; decide)] at hat
                refine ExW.nil ?_; refine SeqK.next (by with_reducible assumption) ?_; refine ExW.last ?_; refine ExW.if_ ?_; refine BW.or ?_; refine BW.compare ?_; refine TW.methP ?_; refine TW.ev (by walk_at "e") ?_; refine MethW.mk (by walk_at "m_ins") (by walk_at "m_cls") (by walk_at "m_k") (by walk_at "m_k") (by walk_at "m_k") (by rfl) ?_; refine AW.ev (by walk_at "el") ?_
                refine (getG_ok (cell := smAll cell tabs scans k down across 2) (by walk_at "m_o") (by walk_at "m_o") hb ha (gM_in ..) hq2 hy1 hx1 rfl rfl rfl).mono ?_
                rintro d mt' ⟨rfl, e⟩
                subst e
                rw [hat]
                refine TW.ev (by walk_at "e") ?_
                refine T2.neL (.list _) (.list _) ?_
                rw [Option.getD_some, decide_eq_true rfl]
                refine B1.bool ?_
                refine ⟨(fun h => nomatch h), fun _ => ?_⟩
                refine BW.or ?_; refine BW.compare ?_; refine TW.sub ?_; refine TW.methP ?_; refine TW.ev (by walk_at "e") ?_; refine MethW.mk (by walk_at "m_ins") (by walk_at "m_cls") (by walk_at "m_k") (by walk_at "m_k") (by walk_at "m_k") (by rfl) ?_; refine AW.ev (by walk_at "el") ?_
                refine (getG_ok (cell := cell) (by walk_at "m_o") (by walk_at "m_o") hb ha ((gM_in refs P down (rowC across cell) (G (Src x3 y3))).mono fun z hz => gM_sub z hz) hq2 hy1 hx1 rfl rfl rfl).mono ?_
                rintro d mt' ⟨rfl, e⟩
                subst e
                rw [hrow]
                refine TW.ev (by walk_at "e") ?_; refine T2.itemI (.list _) (by walk_at "m_o") (by first | omega | walk_at "m_len") (by walk_at "m_o") ?_; refine TW.sub ?_; refine TW.sub ?_; refine TW.sub ?_; refine TW.ev (by walk_at "e") ?_; refine TW.ev (by walk_at "e") ?_
                refine T2.item (.list _) (d' := dD (dq q)) (by walk_at "m_o") (by walk_at "m_o") (hfield q hq2) ?_
                unfold dD
                refine TW.ev (by walk_at "e") ?_
                refine T2.item (.list _) (d' := .list (iL ((dq q).getD y []))) (by walk_at "m_o") (by walk_at "m_o") (by simp [F.dlen, hy1]) ?_
                refine TW.ev (by walk_at "e") ?_
                refine T2.itemI (.list _) (by walk_at "m_o") (by rw [(F.line hy1).1]; omega) (by walk_at "m_o") ?_
                refine T2.ne ?_; refine B1.bool ?_
                rw [show (rowV cell k (q * down + y) x).getD (Int.toNat 0) 0 = ((dq q).getD y []).getD (x : Int).toNat 0 from v3]
                refine ⟨fun h => absurd h (by simp), fun _ => ?_⟩
                refine BW.or_nil ?_
                refine ⟨(fun h => nomatch h), fun _ => ?_⟩
                refine ExW.nil ?_
                exact hΨ3 _ _ ⟨_, _, .cons _ (.cons _ (.cons _ (.refl _))), .refl _, rfl, rfl⟩
          · rintro loc' mt' ⟨rfl, rfl⟩
            skip
            exact hΨ2 _ _ ⟨_, _, .cons _ (.cons _ (.refl _)), .refl _, rfl, rfl⟩
      · rintro loc' mt' ⟨rfl, rfl⟩
        skip
        exact hΨ1 _ _ ⟨_, _, .cons _ (.refl _), .refl _, rfl, rfl⟩
    · rintro loc' mt' ⟨rfl, rfl⟩
      refine SeqK.next (by with_reducible assumption) ?_; refine ExW.last ?_; refine ExW.retE (by walk_at "e") ?_; refine RetK.go (by with_reducible assumption) ?_
      exact RetW.ret ⟨rfl, x3, y3, hs3, rfl⟩ (gM_subl.trans gM_subl)
end

-- C20
section
variable {w : World} {p : Program} {loose : List PySem.Str} {mg mb : PySem.Str → Option Value}
theorem flat_v (m : Nat) (v : Int) : (List.replicate m [D.int v]).flatten = iL (List.replicate m v) := by
  induction m with
  | zero => rfl
  | succ m ih => rw [List.replicate_succ, List.flatten_cons, ih]; rfl
theorem sides_get {r : Int} (h0 : 0 ≤ r) (h1 : r < 3) : ∃ k, ([.int 2, .int 4, .int 3] : List D)[r.toNat]? = some (.int k) ∧ Side k := by
  have : r = 0 ∨ r = 1 ∨ r = 2 := by omega
  rcases this with rfl | rfl | rfl
  · exact ⟨2, rfl, .inl rfl⟩
  · exact ⟨4, rfl, .inr (.inr rfl)⟩
  · exact ⟨3, rfl, .inr (.inl rfl)⟩
theorem tops_get {r : Int} (h0 : 0 ≤ r) (h1 : r < 3) : ∃ k, ([.int 3, .int 20, .int 255] : List D)[r.toNat]? = some (.int k) ∧ 0 < k ∧ k ≤ 255 := by
  have : r = 0 ∨ r = 1 ∨ r = 2 := by omega
  rcases this with rfl | rfl | rfl
  · exact ⟨3, rfl, by omega⟩
  · exact ⟨20, rfl, by omega⟩
  · exact ⟨255, rfl, by omega⟩
theorem law_top {A : Around} {s : Shared} {R : Result → Shared → Prop} {ns : List Int} {a : Addr} (Rm : Room A 12) (bs : Base (cx w p loose mg mb) s.heap) (hw : Well w.params s.heap (.ref a) (ofPy (.list (ns.map .int)))) (hl : ns.length ≤ 63)
    (k : ∀ h' tk, (∀ b o, s.heap.get? b = some o → h'.get? b = some o) → R (.ok (.ret (.bool true))) { s with heap := h', toks := tk }) : codeAny (model PySem.Challenge.rw_nt0561_01.row.prog w) A (.call (.ref 564) ⟨[.ref a], []⟩) R s := by
  obtain ⟨vs, h1, h2⟩ := scriptAt hw
  refine' top_enter (c := cx w p loose mg mb) (n := 11) (ds := [.list (iL ns)]) (im := [(a, listOf vs.toArray 0)]) ?ho ?hcd ?hbind ?hal ?hnd ?hkind ?hcn ?hfr ?hco ?hgen ?hk ?h Rm bs rfl ?him ?hz k
  case ho => walk_at "m_k"
  case hcd => walk_at "m_k"
  case hal => walk_at "m_args"
  case hbind => walk_at "m_bind"
  case hnd => decide
  case hkind => decide
  case hcn => decide
  case hfr => decide
  case hco => rfl
  case hgen => rfl
  case hk => rfl
  case him =>
    intro q hq
    rw [List.mem_singleton.mp hq]
    exact h1
  case hz =>
    intro q hq
    have e := List.mem_singleton.mp hq
    subst e
    exact ⟨a, vs.toArray, 0, rfl, .head _, RepL.mono (im := []) (fun _ h => nomatch h) h2⟩
  intro f gf
  refine ExW.consO fun _ _ => ?_; refine ExW.forC ?_; refine TW.callT (by with_reducible assumption) rfl (by walk_at "m_k") (by boot_by_name) ?_; refine AW.cons ?_; refine TW.callB (by with_reducible assumption) rfl (by walk_at "m_k") (by boot_by_name) ?_; refine AW.cons ?_; refine TW.ev (by walk_at "e") ?_; refine AW.cons ?_; refine TW.callB (by with_reducible assumption) rfl (by walk_at "m_k") (by boot_by_name) ?_; refine AW.cons ?_; refine TW.callB (by with_reducible assumption) rfl (by walk_at "m_k") (by boot_by_name) ?_; refine AW.ev (by walk_at "el") ?_
  refine CallB.len (.list _) (by simp [iL]; omega) ?_
  rw [show (iL ns).length = ns.length by simp [iL]]
  refine AW.ev (by walk_at "el") ?_; refine CallB.min ?_; refine AW.ev (by walk_at "el") ?_; refine CallB.max ?_; refine AW.ev (by walk_at "el") ?_; refine CallB.range1 ?_
  refine ForC.mk _ (fun _ loc mt' => Inv loc mt' [("script", .list (iL ns))] []) (.upto (max 1 (min (ns.length : Int) 2)).toNat (by walk_at "m_o") (by walk_at "m_o") (by walk_at "m_o")) ⟨_, _, .refl _, .refl _, rfl, rfl⟩ ?_ ?_
  · rintro i d' loc' mt' Ψ1 hi ⟨rfl, rfl⟩ hΨ1
    obtain ⟨hi1, rfl⟩ := rangeItems_get0 hi
    refine AsW.name (by with_reducible assumption) (by walk_at "m_sto") ⟨_, by walk_at "m_set", ?_⟩; refine ExW.consO fun _ _ => ?_; refine ExW.assign (by with_reducible assumption) (by walk_at "m_sto") ?_; refine TW.call (by with_reducible assumption) rfl (by walk_at "m_k") (by walk_at "m_k") ?_; refine AW.ev (by walk_at "el") ?_
    refine (pool_ok (n := 10) hl (by walk_at "m_o") (by walk_at "m_o")).mono ?_
    rintro d mt' ⟨b, x, y, hs, rfl, rfl⟩
    refine ⟨_, by walk_at "m_set", ?_⟩; refine SeqK.next (by with_reducible assumption) ?_; refine ExW.consO fun _ _ => ?_; refine ExW.assign (by with_reducible assumption) (by walk_at "m_sto") ?_; refine TW.sub ?_; refine TW.list ?_; refine AW.ev (by walk_at "el") ?_; refine ⟨by walk_at "m_len", ?_⟩; refine TW.call (by with_reducible assumption) rfl (by walk_at "m_k") (by walk_at "m_k") ?_; refine AW.ev (by walk_at "el") ?_
    refine (take_ok (n := 10) .head hs (by walk_at "m_o") (by walk_at "m_o")).mono ?_
    rintro d mt' ⟨r, x1, y1, r0, r1, hs1, rfl, rfl⟩
    obtain ⟨k, hkg, hk⟩ := sides_get r0 r1
    obtain ⟨kl, kh, kk1, kk2⟩ := hk.bd
    skip
    refine T2.item (.list _) r0 (by walk_at "m_o") hkg ?_
    refine ⟨_, by walk_at "m_set", ?_⟩; refine SeqK.next (by with_reducible assumption) ?_; refine ExW.consO fun _ _ => ?_; refine ExW.assignTup ?_ (by rfl); refine TW.call (by with_reducible assumption) rfl (by walk_at "m_k") (by walk_at "m_k") ?_; refine AW.ev (by walk_at "el") ?_
    refine (scans_ok (n := 8) hk .head hs1).mono ?_
    rintro d mt' ⟨scs, x2, y2, hsc, hs2, rfl, rfl⟩
    refine AsW.tuple (by with_reducible assumption) (by walk_at "m_names") (Sto.all (by rfl)) (by walk_at "m_seq") (by rfl) ⟨_, by walk_at "m_sets", ?_⟩; refine SeqK.next (by with_reducible assumption) ?_; refine ExW.consO fun _ _ => ?_; refine ExW.forC ?_; refine TW.callT (by with_reducible assumption) rfl (by walk_at "m_k") (by boot_by_name) ?_; refine AW.ev (by walk_at "el") ?_; refine CallB.range1 ?_
    have hknown : ∀ q, q < 2 → ([.list (iL (knO scs (k * k) 0)), .list (iL (knO scs (k * k) 1))] : List D)[((q : Nat) : Int).toNat]? = some (.list (iL (knO scs (k * k) q))) := fun q h => by
      match q, h with
      | 0, _ => rfl
      | 1, _ => rfl
    refine ForC.mk _ (fun _ loc mt' => Inv loc mt' [("known", .list [.list (iL (knO scs (k * k) 0)), .list (iL (knO scs (k * k) 1))]), ("scans", .list (scs.map Sc.d)), ("n", .int k), ("source", .ref b), ("k", .int i), ("script", .list (iL ns))] [(b, Src x2 y2)]) (.upto 2 (by decide) (by decide) (by decide)) ⟨_, _, .refl _, .refl _, rfl, rfl⟩ ?_ ?_
    · rintro q d' loc' mt' Ψ2 hq ⟨rfl, rfl⟩ hΨ2
      obtain ⟨hq2, rfl⟩ := rangeItems_get0 hq
      refine AsW.name (by with_reducible assumption) (by walk_at "m_sto") ⟨_, by walk_at "m_set", ?_⟩; refine ExW.last ?_; refine ExW.if_ ?_; refine BW.or ?_; refine BW.compare ?_; refine TW.call (by with_reducible assumption) rfl (by walk_at "m_k") (by walk_at "m_k") ?_; refine AW.ev (by walk_at "el") ?_
      refine (known_okI (n := 10) (by walk_at "m_o") (by walk_at "m_o") hsc).mono ?_
      rintro d mt' ⟨rfl, e⟩
      subst e
      refine TW.sub ?_; refine TW.ev (by walk_at "e") ?_; refine TW.ev (by walk_at "e") ?_
      refine T2.item (.list _) (d' := .list (iL (knO scs (k * k) q))) (by walk_at "m_o") (by walk_at "m_o") (hknown q hq2) ?_
      skip
      refine T2.neL (.list _) (.list _) ?_
      rw [decide_eq_true rfl]
      refine B1.bool ?_
      refine ⟨(fun h => nomatch h), fun _ => ?_⟩
      refine BW.or ?_; refine BW.not ?_; refine BW.plain ?_; refine TW.call (by with_reducible assumption) rfl (by walk_at "m_k") (by walk_at "m_k") ?_; refine AW.cons ?_; refine TW.ev (by walk_at "e") ?_; refine AW.cons ?_; refine TW.sub ?_; refine TW.ev (by walk_at "e") ?_; refine TW.ev (by walk_at "e") ?_
      refine T2.item (.list _) (d' := .list (iL (knO scs (k * k) q))) (by walk_at "m_o") (by walk_at "m_o") (hknown q hq2) ?_
      refine AW.ev (by walk_at "el") ?_
      refine (worth_right_ok (n := 5) hk (knO_len _ _ _ (by walk_at "m_o")) (knO_ok hsc)).mono ?_
      rintro d mt' ⟨rfl, e⟩
      subst e
      refine B1.bool ?_
      refine ⟨(fun h => nomatch h), fun _ => ?_⟩
      refine BW.or_nil ?_
      refine ⟨(fun h => nomatch h), fun _ => ?_⟩
      refine ExW.nil ?_
      exact hΨ2 _ _ ⟨_, _, .cons _ (.refl _), .refl _, rfl, rfl⟩
    · rintro loc' mt' ⟨rfl, rfl⟩
      refine SeqK.next (by with_reducible assumption) ?_; refine ExW.consO fun _ _ => ?_; refine ExW.assign (by with_reducible assumption) (by walk_at "m_sto") (TW.listM ?_); refine AW.ev (by walk_at "el") ?_; refine ⟨by walk_at "m_len", fun _ => ?_⟩; refine ⟨_, by walk_at "m_set", ?_⟩; refine SeqK.next (by with_reducible assumption) ?_; refine ExW.consO fun _ _ => ?_; refine ExW.frz (ExW.forC ?_); refine TW.callT (by with_reducible assumption) rfl (by walk_at "m_k") (by boot_by_name) ?_; refine AW.ev (by walk_at "el") ?_; refine CallB.range1 ?_
      rename_i tb _ _
      refine ForC.mk _ (fun q loc mt' => ∃ (ts : List (List Int)) (x y : Int), q ≤ 2 ∧ SrcOk x y ∧ ts.length = q ∧ (∀ t ∈ ts, (t.length : Int) = k * k ∧ ∀ v ∈ t, 1 ≤ v ∧ v ≤ 256) ∧ Inv loc mt' [("tables", .ref tb), ("known", .list [.list (iL (knO scs (k * k) 0)), .list (iL (knO scs (k * k) 1))]), ("scans", .list (scs.map Sc.d)), ("n", .int k), ("source", .ref b), ("k", .int i), ("script", .list (iL ns))] [(tb, .lst (ts.map fun t => .list (iL t))), (b, Src x y)]) (.upto 2 (by decide) (by decide) (by decide)) ⟨_, _, .refl _, .refl _, [], x2, y2, by decide, hs2, rfl, (fun _ h => nomatch h), rfl, rfl⟩ ?_ ?_
      · rintro q d' loc' mt' Ψ3 hq ⟨ts, x3, y3, _, hs3, hts, hta, rfl, rfl⟩ hΨ3
        obtain ⟨hq2, rfl⟩ := rangeItems_get0 hq
        refine AsW.name (by with_reducible assumption) (by walk_at "m_sto") ⟨_, by walk_at "m_set", ?_⟩; refine ExW.last ?_; refine ExW.expr (by with_reducible assumption) ?_; refine TW.appendP ?_; refine TW.ev (by walk_at "e") ?_; refine AppO.mk (by first | walk_at "m_in" | exact At.mem (by assumption) | exact At.mem (At.re (by assumption) _)) ?_
        refine TW.compS [("source", _)] gf (.one _ _) (by rfl) (by walk_at "m_lf1") (by decide) ?_
        refine TW.callT (by with_reducible assumption) rfl (by walk_at "m_k") (by boot_by_name) ?_; refine AW.ev (by walk_at "el") ?_; refine CallB.range1 ?_
        refine CItW.mk _ (fun j ds mt' => j ≤ 16 ∧ Drawn 1 256 j (fun m => [(tb, .lst (ts.map fun t => .list (iL t))), (b, m)]) ds mt') (.upto (k * k).toNat (by walk_at "m_o") (by walk_at "m_o") (by walk_at "m_o")) ⟨by omega, [], x3, y3, hs3, rfl, rfl, (fun _ h => nomatch h), rfl⟩ ?_ ?_ ?_
        · rintro j ds mt' ⟨hj, l, _, _, _, rfl, hl, _, _⟩
          simp [iL]; omega
        · rintro f' gf' j d' ds mt' hj ⟨hj16, l, x4, y4, hs4, rfl, hl4, ha4, rfl⟩
          obtain ⟨hj1, rfl⟩ := rangeItems_get0 hj
          refine AsW.name (by with_reducible assumption) (by walk_at "m_sto") ⟨_, by walk_at "m_set", ?_⟩
          refine ⟨by walk_at "m_sub", EmW.elt ?_⟩
          refine TW.binop ?_; refine TW.ev (by walk_at "e") ?_; refine TW.call (by with_reducible assumption) rfl (by walk_at "m_k") (by walk_at "m_k") ?_; refine AW.cons ?_; refine TW.ev (by walk_at "e") ?_; refine AW.cons ?_; refine TW.sub ?_; refine TW.list ?_; refine AW.ev (by walk_at "el") ?_; refine ⟨by walk_at "m_len", ?_⟩; refine TW.call (by with_reducible assumption) rfl (by walk_at "m_k") (by walk_at "m_k") ?_; refine AW.ev (by walk_at "el") ?_
          refine (take_ok (n := 10) (.tail .head) hs4 (by walk_at "m_o") (by walk_at "m_o")).mono ?_
          rintro d mt' ⟨t, x5, y5, t0, t1, hs5, rfl, rfl⟩
          obtain ⟨top, htop, htop0, htop1⟩ := tops_get t0 t1
          skip
          refine T2.item (.list _) t0 (by walk_at "m_o") htop ?_
          refine AW.ev (by walk_at "el") ?_
          refine (take_ok (n := 10) (.tail .head) hs5 (by walk_at "m_o") (by walk_at "m_o")).mono ?_
          rintro d mt' ⟨u, x6, y6, u0, u1, hs6, rfl, rfl⟩
          refine T2.add ?_
          exact ⟨by omega, Drawn.snoc (G := fun m => [(tb, .lst (ts.map fun t => .list (iL t))), (b, m)]) hs6 hl4 ha4 (by walk_at "m_o") (by walk_at "m_o")⟩
        · rintro ds mt' ⟨_, l, x4, y4, hs4, rfl, hl4, ha4, rfl⟩
          rw [rangeItems_len] at hl4
          refine AppE.mk .head (by simp; omega) ?_
          refine ⟨rfl, ?_⟩
          refine hΨ3 _ _ ⟨_, _, .cons _ (.refl _), .refl _, ts ++ [l], x4, y4, by omega, hs4, by simp [hts], fun t ht => ?_, rfl, by simp⟩
          rcases List.mem_append.mp ht with ht | ht
          · exact hta t ht
          · rw [List.mem_singleton.mp ht]; exact ⟨by omega, ha4⟩
      · rintro loc' mt' ⟨ts, x3, y3, _, hs3, hts, hta, rfl, rfl⟩
        rw [rangeItems_len] at hts
        refine ⟨rfl, "tables", tb, _, _, _, .head _, .head, .head, ?_⟩
        obtain ⟨tA, tB, rfl⟩ : ∃ tA tB, ts = [tA, tB] := by
          match ts, hts with
          | [u, v], _ => exact ⟨u, v, rfl⟩
        refine SeqK.next (by with_reducible assumption) ?_; refine ExW.consO fun _ _ => ?_; refine ExW.assign (by with_reducible assumption) (by walk_at "m_sto") ?_; refine TW.binop ?_; refine TW.list ?_; refine AW.ev (by walk_at "el") ?_; refine ⟨by walk_at "m_len", ?_⟩; refine TW.binop ?_; refine TW.list ?_; refine AW.cons ?_; refine TW.binop ?_; refine TW.ev (by walk_at "e") ?_; refine TW.call (by with_reducible assumption) rfl (by walk_at "m_k") (by walk_at "m_k") ?_; refine AW.ev (by walk_at "el") ?_
        refine (take_ok (n := 10) .head hs3 (by walk_at "m_o") (by walk_at "m_o")).mono ?_
        rintro d mt' ⟨fv, x4, y4, fv0, fv1, hs4, rfl, rfl⟩
        refine T2.add ?_; refine AW.ev (by walk_at "el") ?_; refine ⟨by walk_at "m_len", ?_⟩; refine TW.ev (by walk_at "e") ?_
        refine T2.times (.list _) (by walk_at "m_o") (by simp; omega) (by walk_at "m_o") ?_
        rw [flat_v]
        refine T2.cat (xs := iL [0]) (.list _) (.list _) (by simp [iL]; omega) ?_
        rw [← iL_append]
        refine ⟨_, by walk_at "m_set", ?_⟩; refine SeqK.next (by with_reducible assumption) ?_; refine ExW.consO fun _ _ => ?_; refine ExW.forC ?_; refine TW.list ?_; refine AW.cons ?_; refine TW.ev (by walk_at "e") ?_; refine AW.cons ?_; refine TW.binop ?_; refine TW.list ?_; refine AW.ev (by walk_at "el") ?_; refine ⟨by walk_at "m_len", ?_⟩; refine TW.ev (by walk_at "e") ?_
        refine T2.times (by walk_at "m_lst") (by walk_at "m_o") (by simp; omega) (by walk_at "m_o") ?_
        rw [knL_minus]
        refine AW.ev (by walk_at "el") ?_; refine ⟨by walk_at "m_len", ?_⟩
        have hbits : ∀ d' ∈ ([.list (iL (knO scs (k * k) 0)), .list (iL (knL (k * k).toNat fun _ => -1)), .list (iL ([0] ++ List.replicate (k * k - 1).toNat (1 + fv)))] : List D), ∃ kn, d' = .list (iL kn) ∧ (kn.length : Int) = k * k ∧ ∀ v ∈ kn, -1 ≤ v ∧ v ≤ 3 := by
          intro d' hd'
          rcases List.mem_cons.mp hd' with rfl | hd'
          · exact ⟨_, rfl, knO_len _ _ _ (by walk_at "m_o"), knO_ok hsc⟩
          rcases List.mem_cons.mp hd' with rfl | hd'
          · refine ⟨_, rfl, by simp [knL]; omega, fun v hv => ?_⟩
            obtain ⟨_, _, rfl⟩ := List.mem_map.mp hv
            omega
          · rw [List.mem_singleton.mp hd']
            refine ⟨_, rfl, by simp; omega, fun v hv => ?_⟩
            rcases List.mem_append.mp hv with hv | hv
            · rw [List.mem_singleton.mp hv]; omega
            · rw [(List.mem_replicate.mp hv).2]; omega
        obtain ⟨hA1, hA2⟩ := hta tA (.head _)
        obtain ⟨hB1, hB2⟩ := hta tB (.tail _ (.head _))
        refine ForC.mk _ (fun _ loc mt' => ∃ x y, SrcOk x y ∧ Inv loc mt' [("tables", .list [.list (iL tA), .list (iL tB)]), ("known", .list [.list (iL (knO scs (k * k) 0)), .list (iL (knO scs (k * k) 1))]), ("scans", .list (scs.map Sc.d)), ("n", .int k), ("source", .ref b), ("k", .int i), ("script", .list (iL ns))] [(b, Src x y)]) (.list _) ⟨_, _, .cons _ (.refl _), .refl _, x4, y4, hs4, rfl, rfl⟩ ?_ ?_
        · rintro j d' loc' mt' Ψ4 hj ⟨x5, y5, hs5, rfl, rfl⟩ hΨ4
          obtain ⟨kn, rfl, hkn, kn1⟩ := hbits d' (List.mem_of_getElem? hj)
          refine AsW.name (by with_reducible assumption) (by walk_at "m_sto") ⟨_, by walk_at "m_set", ?_⟩; refine ExW.last ?_; refine ExW.if_ ?_; refine BW.not ?_; refine BW.plain ?_; refine TW.call (by with_reducible assumption) rfl (by walk_at "m_k") (by walk_at "m_k") ?_; refine AW.ev (by walk_at "el") ?_
          refine (row_right_ok (n := 5) hk .head hs5 hA1 hkn hA2 kn1).mono ?_
          rintro d mt' ⟨rfl, x6, y6, hs6, rfl⟩
          refine B1.bool ?_
          refine ⟨(fun h => nomatch h), fun _ => ?_⟩
          refine ExW.nil ?_
          exact hΨ4 _ _ ⟨_, _, .cons _ (.refl _), .refl _, x6, y6, hs6, rfl, rfl⟩
        · rintro loc' mt' ⟨x5, y5, hs5, rfl, rfl⟩
          refine SeqK.next (by with_reducible assumption) ?_; refine ExW.last ?_; refine ExW.if_ ?_; refine BW.and ?_; refine BW.cmp (by walk_at "e") (by walk_at "e") (by walk_at "e_op") ?_
          refine ⟨fun hc => ?_, fun hc => ?_⟩
          · refine BW.and ?_; refine BW.not ?_; refine BW.plain ?_; refine TW.call (by with_reducible assumption) rfl (by walk_at "m_k") (by walk_at "m_k") ?_; refine AW.ev (by walk_at "el") ?_
            refine (grid_right_ok (n := 2) (tabs := two _ tA tB) hk .head hs5 hsc (fun q h => ?_)).mono ?_
            · match q, h with
              | 0, _ => exact ⟨hA1, hA2⟩
              | 1, _ => exact ⟨hB1, hB2⟩
            rintro d mt' ⟨rfl, x6, y6, hs6, rfl⟩
            refine B1.bool ?_
            refine ⟨(fun h => nomatch h), fun _ => ?_⟩
            refine ⟨(fun h => nomatch h), fun _ => ?_⟩
            refine ExW.nil ?_
            exact hΨ1 _ _ ⟨_, _, .cons _ (.cons _ (.cons _ (.cons _ (.cons _ (.cons _ (.refl _)))))), .cons _ (.refl _), rfl, rfl⟩
          · refine ⟨(fun h => nomatch h), fun _ => ?_⟩
            refine ExW.nil ?_
            exact hΨ1 _ _ ⟨_, _, .cons _ (.cons _ (.cons _ (.cons _ (.cons _ (.cons _ (.refl _)))))), .cons _ (.refl _), rfl, rfl⟩
  · rintro loc' mt' ⟨rfl, rfl⟩
    refine SeqK.next (by with_reducible assumption) ?_; refine ExW.last ?_; refine ExW.retE (by walk_at "e") ?_
    rfl
end

end Mine
theorem PySem.Challenge.cw_nt0561_01_holds : PySem.Challenge.rw_nt0561_01.Holds := by
  refine Mine.H.top ?_
  k_fill
  intro w s₀ s₁ mg mb G Y fa o pm cd doc dV kV ho hd hcd hD hmg hg args vals as hpre hlay hrd hwl hlo
  have KX := kIn_of Y
  refine Ground.open G ?_
  intro T B D TE TW
  have hfa : Value.ref fa = Value.ref 564 := by
    have h1 : mg "law" = some (.ref 564) := mg_of KX T.g (by k_is)
    have h2 : mg "law" = some (.ref fa) := hmg
    rw [h1] at h2
    exact (Option.some.inj h2).symm
  cases hfa
  clear hd hcd hD ho
  wrow_args hpre hlay hrd hwl hlo
  refine enter_call ?_
  refine Mine.law_top ⟨rfl, by decide, by decide⟩ ⟨KX, topRead_of T⟩ (by assumption) (by omega) ?_
  intro h' tk hk
  refine GoodW.toG ⟨.inl ⟨_, .bool true, [], rfl, ?_, ?_, ?_, ?_⟩, hk, rfl, hg⟩
  · intro cls; rfl
  · constructor
  · wrow_post
  · intro _
    exact ⟨List.nodup_nil, fun _ h => nomatch h⟩
