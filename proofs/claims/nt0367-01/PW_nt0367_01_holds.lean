import PyProof.Rows.All
import Wide.All
import OpenK.AllK
import Wide.FinOn
import Lean
import PySem.Challenge.RW_nt0367_01
set_option Elab.async false
set_option maxRecDepth 100000
set_option maxHeartbeats 4000000
set_option linter.unusedVariables false
set_option tactic.hygienic false
namespace Mine.Internal
open PySem PySem.W PyProof.Rows
abbrev pw:Program:=PySem.Challenge.pw_nt0367_01
noncomputable abbrev so(l:List Nat):Str:=⟨l.toArray⟩
noncomputable def ET(p:Program)(i:Nat):Stmt:=(p.main.body[i]?).getD (.Pass default)
noncomputable def Q5(p:Program)(i j:Nat):Stmt:=match ET p i with
 |.ClassDef _ _ _ b _ _ _ _ _ _ _=>(b[j]?).getD (.Pass default)
 |s=>s
noncomputable def am:Stmt→Arguments
 |.FunctionDef _ a _ _ _ _ _ _ _ _=>a
 |_=>default
noncomputable def JH:Stmt→List Stmt
 |.FunctionDef _ _ b _ _ _ _ _ _ _=>b
 |_=>default
noncomputable def BR:Stmt→Scope
 |.FunctionDef _ _ _ _ _ _ s _ _ _=>s
 |_=>default
noncomputable def fo(n q:Str)(s:Stmt)(pm:Value)(c:Addr):FuncData:=
 {name:=n,qualname:=q,params:=am s,body:=.stmts (JH s),scope:=BR s,globals:=mainGlobals,closure:=[],defaults:=.none,kwdefaults:=.none,doc:=.none,pyModule:=pm,annotations:=none,code:=.ref c,closureTuple:=.none,builtins:=builtinsNs}
noncomputable def Kp(p:Program)(P:Params):Frag:=
 let st:=ET p
 let mt:=Q5 p
 [
 (2,⟨.none,none,.dict (List.toArray [⟨PyData.keyHash P "type.__subclasses__.Exception.0",.str "type.__subclasses__.Exception.0" 673,.int 197 0⟩,⟨PyData.keyHash P "type.__subclasses__.Exception.n",.str "type.__subclasses__.Exception.n" 674,.int 1 0⟩]) 2,List.toArray []⟩),
 (3,⟨.type "dict",none,.dict (List.toArray [⟨PyData.keyHash P "__name__",.str "__name__" 165,.str "law_nt0367_01" 951⟩,⟨PyData.keyHash P "__doc__",.str "__doc__" 166,.none⟩,⟨PyData.keyHash P "__package__",.str "__package__" 167,.none⟩,⟨PyData.keyHash P "__loader__",.str "__loader__" 168,.builtin "__main__.__loader__#opaque"⟩,⟨PyData.keyHash P "__spec__",.str "__spec__" 169,.none⟩,⟨PyData.keyHash P "__annotations__",.str "__annotations__" 170,.ref 6⟩,⟨PyData.keyHash P "__builtins__",.str "__builtins__" 171,.ref 4⟩,⟨PyData.keyHash P "__file__",.str "__file__" 173,.str "/claim/cut.py" 172⟩,⟨PyData.keyHash P "__cached__",.str "__cached__" 174,.none⟩,⟨PyData.keyHash P "OPERATIONS",.str "OPERATIONS" 529,.ref 100⟩,⟨PyData.keyHash P "Unit",.str "Unit" 573,.ref 117⟩,⟨PyData.keyHash P "op_name",.str "op_name" 580,.ref 128⟩,⟨PyData.keyHash P "arg_kind",.str "arg_kind" 587,.ref 135⟩,⟨PyData.keyHash P "op_of",.str "op_of" 596,.ref 142⟩,⟨PyData.keyHash P "line_of",.str "line_of" 604,.ref 149⟩,⟨PyData.keyHash P "same_constant",.str "same_constant" 612,.ref 156⟩,⟨PyData.keyHash P "same_constants",.str "same_constants" 618,.ref 161⟩,⟨PyData.keyHash P "same_head",.str "same_head" 626,.ref 168⟩,⟨PyData.keyHash P "walk_units",.str "walk_units" 637,.ref 175⟩,⟨PyData.keyHash P "same_unit",.str "same_unit" 643,.ref 180⟩,⟨PyData.keyHash P "HEX",.str "HEX" 647,.str "0123456789abcdef" 646⟩,⟨PyData.keyHash P "BadListing",.str "BadListing" 676,.ref 197⟩,⟨PyData.keyHash P "hex_four",.str "hex_four" 683,.ref 207⟩,⟨PyData.keyHash P "quoted_text",.str "quoted_text" 693,.ref 214⟩,⟨PyData.keyHash P "unquoted_text",.str "unquoted_text" 704,.ref 221⟩,⟨PyData.keyHash P "hex_number",.str "hex_number" 713,.ref 228⟩,⟨PyData.keyHash P "plain_number",.str "plain_number" 719,.ref 233⟩,⟨PyData.keyHash P "place_word",.str "place_word" 726,.ref 240⟩,⟨PyData.keyHash P "place_in",.str "place_in" 734,.ref 247⟩,⟨PyData.keyHash P "flag_words",.str "flag_words" 741,.ref 254⟩,⟨PyData.keyHash P "head_lines",.str "head_lines" 747,.ref 259⟩,⟨PyData.keyHash P "const_word",.str "const_word" 754,.ref 266⟩,⟨PyData.keyHash P "line_remark",.str "line_remark" 763,.ref 273⟩,⟨PyData.keyHash P "code_line",.str "code_line" 774,.ref 280⟩,⟨PyData.keyHash P "unit_lines",.str "unit_lines" 791,.ref 287⟩,⟨PyData.keyHash P "list_unit",.str "list_unit" 798,.ref 294⟩,⟨PyData.keyHash P "Reading",.str "Reading" 941,.ref 405⟩,⟨PyData.keyHash P "read_unit",.str "read_unit" 950,.ref 416⟩,⟨PyData.keyHash P "_law_draws",.str "_law_draws" 958,.ref 421⟩,⟨PyData.keyHash P "_law_take",.str "_law_take" 966,.ref 428⟩,⟨PyData.keyHash P "_law_names",.str "_law_names" 973,.ref 435⟩,⟨PyData.keyHash P "_law_kinds",.str "_law_kinds" 979,.ref 442⟩,⟨PyData.keyHash P "_law_text",.str "_law_text" 985,.ref 447⟩,⟨PyData.keyHash P "_law_place",.str "_law_place" 993,.ref 454⟩,⟨PyData.keyHash P "_law_operation",.str "_law_operation" 1002,.ref 461⟩,⟨PyData.keyHash P "_law_made",.str "_law_made" 1008,.ref 466⟩,⟨PyData.keyHash P "_law_quoted",.str "_law_quoted" 1018,.ref 473⟩,⟨PyData.keyHash P "_law_line",.str "_law_line" 1032,.ref 480⟩,⟨PyData.keyHash P "_law_is_refused",.str "_law_is_refused" 1039,.ref 487⟩,⟨PyData.keyHash P "_law_turned_right",.str "_law_turned_right" 1051,.ref 494⟩,⟨PyData.keyHash P "law",.str "law" 1068,.ref 501⟩]) 51,List.toArray []⟩),
 (15,⟨.type "tuple",none,.seq (List.toArray [.str "UNDEF" 189,.str "" 190,.int 0 191,.int 1 192]) 0,List.toArray []⟩),
 (16,⟨.type "tuple",none,.seq (List.toArray [.str "NULL" 193,.str "" 194,.int 0 195,.int 1 196]) 0,List.toArray []⟩),
 (17,⟨.type "tuple",none,.seq (List.toArray [.str "TRUE" 197,.str "" 198,.int 0 199,.int 1 200]) 0,List.toArray []⟩),
 (18,⟨.type "tuple",none,.seq (List.toArray [.str "FALSE" 201,.str "" 202,.int 0 203,.int 1 204]) 0,List.toArray []⟩),
 (19,⟨.type "tuple",none,.seq (List.toArray [.str "CONST" 205,.str "k" 206,.int 0 207,.int 1 208]) 0,List.toArray []⟩),
 (20,⟨.type "tuple",none,.seq (List.toArray [.str "THIS" 209,.str "" 210,.int 0 211,.int 1 212]) 0,List.toArray []⟩),
 (21,⟨.type "tuple",none,.seq (List.toArray [.str "POP" 213,.str "" 214,.int 1 215,.int 0 216]) 0,List.toArray []⟩),
 (22,⟨.type "tuple",none,.seq (List.toArray [.str "DUP" 217,.str "" 218,.int 1 219,.int 2 220]) 0,List.toArray []⟩),
 (23,⟨.type "tuple",none,.seq (List.toArray [.str "DUP2" 221,.str "" 222,.int 2 223,.int 4 224]) 0,List.toArray []⟩),
 (24,⟨.type "tuple",none,.seq (List.toArray [.str "SWAP" 225,.str "" 226,.int 2 227,.int 2 228]) 0,List.toArray []⟩),
 (25,⟨.type "tuple",none,.seq (List.toArray [.str "ROT3" 229,.str "" 230,.int 3 231,.int 3 232]) 0,List.toArray []⟩),
 (26,⟨.type "tuple",none,.seq (List.toArray [.str "GETLOC" 233,.str "l" 234,.int 0 235,.int 1 236]) 0,List.toArray []⟩),
 (27,⟨.type "tuple",none,.seq (List.toArray [.str "SETLOC" 237,.str "l" 238,.int 1 239,.int 1 240]) 0,List.toArray []⟩),
 (28,⟨.type "tuple",none,.seq (List.toArray [.str "GETCELL" 241,.str "c" 242,.int 0 243,.int 1 244]) 0,List.toArray []⟩),
 (29,⟨.type "tuple",none,.seq (List.toArray [.str "SETCELL" 245,.str "c" 246,.int 1 247,.int 1 248]) 0,List.toArray []⟩),
 (30,⟨.type "tuple",none,.seq (List.toArray [.str "GETUP" 249,.str "u" 250,.int 0 251,.int 1 252]) 0,List.toArray []⟩),
 (31,⟨.type "tuple",none,.seq (List.toArray [.str "SETUP" 253,.str "u" 254,.int 1 255,.int 1 256]) 0,List.toArray []⟩),
 (32,⟨.type "tuple",none,.seq (List.toArray [.str "FRESH" 257,.str "c" 258,.int 0 259,.int 0 260]) 0,List.toArray []⟩),
 (33,⟨.type "tuple",none,.seq (List.toArray [.str "GETGLOB" 261,.str "s" 262,.int 0 263,.int 1 264]) 0,List.toArray []⟩),
 (34,⟨.type "tuple",none,.seq (List.toArray [.str "TYPEGLOB" 265,.str "s" 266,.int 0 267,.int 1 268]) 0,List.toArray []⟩),
 (35,⟨.type "tuple",none,.seq (List.toArray [.str "SETGLOB" 269,.str "s" 270,.int 1 271,.int 1 272]) 0,List.toArray []⟩),
 (36,⟨.type "tuple",none,.seq (List.toArray [.str "DECLVAR" 273,.str "s" 274,.int 0 275,.int 0 276]) 0,List.toArray []⟩),
 (37,⟨.type "tuple",none,.seq (List.toArray [.str "DECLFUN" 277,.str "s" 278,.int 1 279,.int 0 280]) 0,List.toArray []⟩),
 (38,⟨.type "tuple",none,.seq (List.toArray [.str "GETPROP" 281,.str "s" 282,.int 1 283,.int 1 284]) 0,List.toArray []⟩),
 (39,⟨.type "tuple",none,.seq (List.toArray [.str "SETPROP" 285,.str "s" 286,.int 2 287,.int 1 288]) 0,List.toArray []⟩),
 (40,⟨.type "tuple",none,.seq (List.toArray [.str "GETELEM" 289,.str "" 290,.int 2 291,.int 1 292]) 0,List.toArray []⟩),
 (41,⟨.type "tuple",none,.seq (List.toArray [.str "SETELEM" 293,.str "" 294,.int 3 295,.int 1 296]) 0,List.toArray []⟩),
 (42,⟨.type "tuple",none,.seq (List.toArray [.str "DELPROP" 297,.str "s" 298,.int 1 299,.int 1 300]) 0,List.toArray []⟩),
 (43,⟨.type "tuple",none,.seq (List.toArray [.str "DELELEM" 301,.str "" 302,.int 2 303,.int 1 304]) 0,List.toArray []⟩),
 (44,⟨.type "tuple",none,.seq (List.toArray [.str "DELNAME" 305,.str "s" 306,.int 0 307,.int 1 308]) 0,List.toArray []⟩),
 (45,⟨.type "tuple",none,.seq (List.toArray [.str "ADD" 309,.str "" 310,.int 2 311,.int 1 312]) 0,List.toArray []⟩),
 (46,⟨.type "tuple",none,.seq (List.toArray [.str "SUB" 313,.str "" 314,.int 2 315,.int 1 316]) 0,List.toArray []⟩),
 (47,⟨.type "tuple",none,.seq (List.toArray [.str "MUL" 317,.str "" 318,.int 2 319,.int 1 320]) 0,List.toArray []⟩),
 (48,⟨.type "tuple",none,.seq (List.toArray [.str "DIV" 321,.str "" 322,.int 2 323,.int 1 324]) 0,List.toArray []⟩),
 (49,⟨.type "tuple",none,.seq (List.toArray [.str "MOD" 325,.str "" 326,.int 2 327,.int 1 328]) 0,List.toArray []⟩),
 (50,⟨.type "tuple",none,.seq (List.toArray [.str "SHL" 329,.str "" 330,.int 2 331,.int 1 332]) 0,List.toArray []⟩),
 (51,⟨.type "tuple",none,.seq (List.toArray [.str "SHR" 333,.str "" 334,.int 2 335,.int 1 336]) 0,List.toArray []⟩),
 (52,⟨.type "tuple",none,.seq (List.toArray [.str "USHR" 337,.str "" 338,.int 2 339,.int 1 340]) 0,List.toArray []⟩),
 (53,⟨.type "tuple",none,.seq (List.toArray [.str "AND" 341,.str "" 342,.int 2 343,.int 1 344]) 0,List.toArray []⟩),
 (54,⟨.type "tuple",none,.seq (List.toArray [.str "OR" 345,.str "" 346,.int 2 347,.int 1 348]) 0,List.toArray []⟩),
 (55,⟨.type "tuple",none,.seq (List.toArray [.str "XOR" 349,.str "" 350,.int 2 351,.int 1 352]) 0,List.toArray []⟩),
 (56,⟨.type "tuple",none,.seq (List.toArray [.str "EQ" 353,.str "" 354,.int 2 355,.int 1 356]) 0,List.toArray []⟩),
 (57,⟨.type "tuple",none,.seq (List.toArray [.str "NE" 357,.str "" 358,.int 2 359,.int 1 360]) 0,List.toArray []⟩),
 (58,⟨.type "tuple",none,.seq (List.toArray [.str "SEQ" 361,.str "" 362,.int 2 363,.int 1 364]) 0,List.toArray []⟩),
 (59,⟨.type "tuple",none,.seq (List.toArray [.str "SNE" 365,.str "" 366,.int 2 367,.int 1 368]) 0,List.toArray []⟩),
 (60,⟨.type "tuple",none,.seq (List.toArray [.str "LT" 369,.str "" 370,.int 2 371,.int 1 372]) 0,List.toArray []⟩),
 (61,⟨.type "tuple",none,.seq (List.toArray [.str "GT" 373,.str "" 374,.int 2 375,.int 1 376]) 0,List.toArray []⟩),
 (62,⟨.type "tuple",none,.seq (List.toArray [.str "LE" 377,.str "" 378,.int 2 379,.int 1 380]) 0,List.toArray []⟩),
 (63,⟨.type "tuple",none,.seq (List.toArray [.str "GE" 381,.str "" 382,.int 2 383,.int 1 384]) 0,List.toArray []⟩),
 (64,⟨.type "tuple",none,.seq (List.toArray [.str "IN" 385,.str "" 386,.int 2 387,.int 1 388]) 0,List.toArray []⟩),
 (65,⟨.type "tuple",none,.seq (List.toArray [.str "INSTANCEOF" 389,.str "" 390,.int 2 391,.int 1 392]) 0,List.toArray []⟩),
 (66,⟨.type "tuple",none,.seq (List.toArray [.str "NEG" 393,.str "" 394,.int 1 395,.int 1 396]) 0,List.toArray []⟩),
 (67,⟨.type "tuple",none,.seq (List.toArray [.str "TONUM" 397,.str "" 398,.int 1 399,.int 1 400]) 0,List.toArray []⟩),
 (68,⟨.type "tuple",none,.seq (List.toArray [.str "NOT" 401,.str "" 402,.int 1 403,.int 1 404]) 0,List.toArray []⟩),
 (69,⟨.type "tuple",none,.seq (List.toArray [.str "BITNOT" 405,.str "" 406,.int 1 407,.int 1 408]) 0,List.toArray []⟩),
 (70,⟨.type "tuple",none,.seq (List.toArray [.str "TYPEOF" 409,.str "" 410,.int 1 411,.int 1 412]) 0,List.toArray []⟩),
 (71,⟨.type "tuple",none,.seq (List.toArray [.str "INC" 413,.str "" 414,.int 1 415,.int 1 416]) 0,List.toArray []⟩),
 (72,⟨.type "tuple",none,.seq (List.toArray [.str "DEC" 417,.str "" 418,.int 1 419,.int 1 420]) 0,List.toArray []⟩),
 (73,⟨.type "tuple",none,.seq (List.toArray [.str "JMP" 421,.str "t" 422,.int 0 423,.int 0 424]) 0,List.toArray []⟩),
 (74,⟨.type "tuple",none,.seq (List.toArray [.str "JF" 425,.str "t" 426,.int 1 427,.int 0 428]) 0,List.toArray []⟩),
 (75,⟨.type "tuple",none,.seq (List.toArray [.str "JT" 429,.str "t" 430,.int 1 431,.int 0 432]) 0,List.toArray []⟩),
 (76,⟨.type "tuple",none,.seq (List.toArray [.str "JFK" 433,.str "t" 434,.int 1 435,.int 0 436]) 0,List.toArray []⟩),
 (77,⟨.type "tuple",none,.seq (List.toArray [.str "JTK" 437,.str "t" 438,.int 1 439,.int 0 440]) 0,List.toArray []⟩),
 (78,⟨.type "tuple",none,.seq (List.toArray [.str "CALL" 441,.str "n" 442,.int 2 443,.int 1 444]) 0,List.toArray []⟩),
 (79,⟨.type "tuple",none,.seq (List.toArray [.str "NEW" 445,.str "n" 446,.int 1 447,.int 1 448]) 0,List.toArray []⟩),
 (80,⟨.type "tuple",none,.seq (List.toArray [.str "RET" 449,.str "" 450,.int 1 451,.int 0 452]) 0,List.toArray []⟩),
 (81,⟨.type "tuple",none,.seq (List.toArray [.str "THROW" 453,.str "" 454,.int 1 455,.int 0 456]) 0,List.toArray []⟩),
 (82,⟨.type "tuple",none,.seq (List.toArray [.str "CLOSURE" 457,.str "f" 458,.int 0 459,.int 1 460]) 0,List.toArray []⟩),
 (83,⟨.type "tuple",none,.seq (List.toArray [.str "NEWOBJ" 461,.str "" 462,.int 0 463,.int 1 464]) 0,List.toArray []⟩),
 (84,⟨.type "tuple",none,.seq (List.toArray [.str "NEWARR" 465,.str "n" 466,.int 0 467,.int 1 468]) 0,List.toArray []⟩),
 (85,⟨.type "tuple",none,.seq (List.toArray [.str "HOLE" 469,.str "" 470,.int 0 471,.int 1 472]) 0,List.toArray []⟩),
 (86,⟨.type "tuple",none,.seq (List.toArray [.str "INITPROP" 473,.str "s" 474,.int 2 475,.int 1 476]) 0,List.toArray []⟩),
 (87,⟨.type "tuple",none,.seq (List.toArray [.str "INITGET" 477,.str "s" 478,.int 2 479,.int 1 480]) 0,List.toArray []⟩),
 (88,⟨.type "tuple",none,.seq (List.toArray [.str "INITSET" 481,.str "s" 482,.int 2 483,.int 1 484]) 0,List.toArray []⟩),
 (89,⟨.type "tuple",none,.seq (List.toArray [.str "METHOD" 485,.str "s" 486,.int 1 487,.int 2 488]) 0,List.toArray []⟩),
 (90,⟨.type "tuple",none,.seq (List.toArray [.str "METHODEL" 489,.str "" 490,.int 2 491,.int 2 492]) 0,List.toArray []⟩),
 (91,⟨.type "tuple",none,.seq (List.toArray [.str "FORIN" 493,.str "" 494,.int 1 495,.int 1 496]) 0,List.toArray []⟩),
 (92,⟨.type "tuple",none,.seq (List.toArray [.str "NEXTIN" 497,.str "t" 498,.int 1 499,.int 2 500]) 0,List.toArray []⟩),
 (93,⟨.type "tuple",none,.seq (List.toArray [.str "GOSUB" 501,.str "t" 502,.int 0 503,.int 0 504]) 0,List.toArray []⟩),
 (94,⟨.type "tuple",none,.seq (List.toArray [.str "RETSUB" 505,.str "" 506,.int 2 507,.int 0 508]) 0,List.toArray []⟩),
 (95,⟨.type "tuple",none,.seq (List.toArray [.str "CHECKOBJ" 509,.str "" 510,.int 1 511,.int 1 512]) 0,List.toArray []⟩),
 (96,⟨.type "tuple",none,.seq (List.toArray [.str "TOKEY" 513,.str "" 514,.int 2 515,.int 2 516]) 0,List.toArray []⟩),
 (97,⟨.type "tuple",none,.seq (List.toArray [.str "ROT4" 517,.str "" 518,.int 4 519,.int 4 520]) 0,List.toArray []⟩),
 (98,⟨.type "tuple",none,.seq (List.toArray [.str "FAILSET" 521,.str "s" 522,.int 1 523,.int 0 524]) 0,List.toArray []⟩),
 (99,⟨.type "tuple",none,.seq (List.toArray [.str "REGEXP" 525,.str "" 526,.int 2 527,.int 1 528]) 0,List.toArray []⟩),
 (100,⟨.type "list",none,.seq (List.toArray [.ref 15,.ref 16,.ref 17,.ref 18,.ref 19,.ref 20,.ref 21,.ref 22,.ref 23,.ref 24,.ref 25,.ref 26,.ref 27,.ref 28,.ref 29,.ref 30,.ref 31,.ref 32,.ref 33,.ref 34,.ref 35,.ref 36,.ref 37,.ref 38,.ref 39,.ref 40,.ref 41,.ref 42,.ref 43,.ref 44,.ref 45,.ref 46,.ref 47,.ref 48,.ref 49,.ref 50,.ref 51,.ref 52,.ref 53,.ref 54,.ref 55,.ref 56,.ref 57,.ref 58,.ref 59,.ref 60,.ref 61,.ref 62,.ref 63,.ref 64,.ref 65,.ref 66,.ref 67,.ref 68,.ref 69,.ref 70,.ref 71,.ref 72,.ref 73,.ref 74,.ref 75,.ref 76,.ref 77,.ref 78,.ref 79,.ref 80,.ref 81,.ref 82,.ref 83,.ref 84,.ref 85,.ref 86,.ref 87,.ref 88,.ref 89,.ref 90,.ref 91,.ref 92,.ref 93,.ref 94,.ref 95,.ref 96,.ref 97,.ref 98,.ref 99]) 0,List.toArray []⟩),
 (113,⟨.type "code",none,.fields (List.toArray [.str "__init__" 542,.str "Unit.__init__" 543,.str "/claim/cut.py" 544,.int 5 0,.int 3 0,.int 0 0,.int 0 0,.int 3 0,.ref 108,.bool true,.int 181 0,.ref 109,.none,.ref 110,.ref 111,.ref 112,.int 548 0,.int 5 0,.str "/claim/cut.py" 549]),List.toArray []⟩),
 (114,⟨.type "function",none,.func (fo "__init__" "Unit.__init__" (mt 2 0) (.str "js.codes" 187) 113),List.toArray []⟩),
 (116,⟨.type "dict",none,.dict (List.toArray [⟨PyData.keyHash P "__module__",.str "__module__" 537,.str "js.codes" 187⟩,⟨PyData.keyHash P "__firstlineno__",.str "__firstlineno__" 541,.int 3 540⟩,⟨PyData.keyHash P "__init__",.str "__init__" 550,.ref 114⟩,⟨PyData.keyHash P "__static_attributes__",.str "__static_attributes__" 566,.ref 115⟩,⟨PyData.keyHash P "__dict__",.str "__dict__" 568,.ref 118⟩,⟨PyData.keyHash P "__weakref__",.str "__weakref__" 570,.ref 119⟩,⟨PyData.keyHash P "__doc__",.str "__doc__" 571,.none⟩]) 4,List.toArray []⟩),
 (117,⟨.type "type",none,.cls {name:="Unit",bases:=[.type "object"],mro:=[.ref 117,.type "object"],ns:=116,qualname:="Unit",hasDict:=true,slotNames:=[],subclasses:=[],abstract:=false,collection:=none,hasDel:=false},List.toArray [none,none,some (.str "Unit" 530),some (.str "Unit" 538),some (.builtin "object.__new__"),some (.bool true)]⟩),
 (127,⟨.type "code",none,.fields (List.toArray [.str "op_name" 574,.str "op_name" 575,.str "/claim/cut.py" 576,.int 21 0,.int 1 0,.int 0 0,.int 0 0,.int 3 0,.ref 122,.bool true,.int 181 0,.ref 123,.none,.ref 124,.ref 125,.ref 126,.int 578 0,.int 21 0,.str "/claim/cut.py" 579]),List.toArray []⟩),
 (128,⟨.type "function",none,.func (fo "op_name" "op_name" (st 3) (.str "js.codes" 187) 127),List.toArray []⟩),
 (134,⟨.type "code",none,.fields (List.toArray [.str "arg_kind" 581,.str "arg_kind" 582,.str "/claim/cut.py" 583,.int 23 0,.int 1 0,.int 0 0,.int 0 0,.int 3 0,.ref 129,.bool true,.int 181 0,.ref 130,.none,.ref 131,.ref 132,.ref 133,.int 585 0,.int 23 0,.str "/claim/cut.py" 586]),List.toArray []⟩),
 (135,⟨.type "function",none,.func (fo "arg_kind" "arg_kind" (st 4) (.str "js.codes" 187) 134),List.toArray []⟩),
 (141,⟨.type "code",none,.fields (List.toArray [.str "op_of" 588,.str "op_of" 589,.str "/claim/cut.py" 590,.int 25 0,.int 1 0,.int 0 0,.int 0 0,.int 3 0,.ref 136,.bool true,.int 181 0,.ref 137,.none,.ref 138,.ref 139,.ref 140,.int 594 0,.int 25 0,.str "/claim/cut.py" 595]),List.toArray []⟩),
 (142,⟨.type "function",none,.func (fo "op_of" "op_of" (st 5) (.str "js.codes" 187) 141),List.toArray []⟩),
 (148,⟨.type "code",none,.fields (List.toArray [.str "line_of" 597,.str "line_of" 598,.str "/claim/cut.py" 599,.int 30 0,.int 2 0,.int 0 0,.int 0 0,.int 3 0,.ref 143,.bool true,.int 181 0,.ref 144,.none,.ref 145,.ref 146,.ref 147,.int 602 0,.int 30 0,.str "/claim/cut.py" 603]),List.toArray []⟩),
 (149,⟨.type "function",none,.func (fo "line_of" "line_of" (st 6) (.str "js.codes" 187) 148),List.toArray []⟩),
 (155,⟨.type "code",none,.fields (List.toArray [.str "same_constant" 605,.str "same_constant" 606,.str "/claim/cut.py" 607,.int 32 0,.int 2 0,.int 0 0,.int 0 0,.int 3 0,.ref 150,.bool true,.int 181 0,.ref 151,.none,.ref 152,.ref 153,.ref 154,.int 610 0,.int 32 0,.str "/claim/cut.py" 611]),List.toArray []⟩),
 (156,⟨.type "function",none,.func (fo "same_constant" "same_constant" (st 7) (.str "js.codes" 187) 155),List.toArray []⟩),
 (160,⟨.type "code",none,.fields (List.toArray [.str "same_constants" 613,.str "same_constants" 614,.str "/claim/cut.py" 615,.int 34 0,.int 2 0,.int 0 0,.int 0 0,.int 3 0,.ref 157,.bool true,.int 181 0,.ref 158,.none,.none,.none,.ref 159,.int 616 0,.int 34 0,.str "/claim/cut.py" 617]),List.toArray []⟩),
 (161,⟨.type "function",none,.func (fo "same_constants" "same_constants" (st 8) (.str "js.codes" 187) 160),List.toArray []⟩),
 (167,⟨.type "code",none,.fields (List.toArray [.str "same_head" 619,.str "same_head" 620,.str "/claim/cut.py" 621,.int 38 0,.int 2 0,.int 0 0,.int 0 0,.int 3 0,.ref 162,.bool true,.int 181 0,.ref 163,.none,.ref 164,.ref 165,.ref 166,.int 624 0,.int 38 0,.str "/claim/cut.py" 625]),List.toArray []⟩),
 (168,⟨.type "function",none,.func (fo "same_head" "same_head" (st 9) (.str "js.codes" 187) 167),List.toArray []⟩),
 (174,⟨.type "code",none,.fields (List.toArray [.str "walk_units" 627,.str "walk_units" 628,.str "/claim/cut.py" 629,.int 50 0,.int 1 0,.int 0 0,.int 0 0,.int 3 0,.ref 169,.bool true,.int 181 0,.ref 170,.none,.ref 171,.ref 172,.ref 173,.int 635 0,.int 50 0,.str "/claim/cut.py" 636]),List.toArray []⟩),
 (175,⟨.type "function",none,.func (fo "walk_units" "walk_units" (st 10) (.str "js.codes" 187) 174),List.toArray []⟩),
 (179,⟨.type "code",none,.fields (List.toArray [.str "same_unit" 638,.str "same_unit" 639,.str "/claim/cut.py" 640,.int 58 0,.int 2 0,.int 0 0,.int 0 0,.int 3 0,.ref 176,.bool true,.int 181 0,.ref 177,.none,.none,.none,.ref 178,.int 641 0,.int 58 0,.str "/claim/cut.py" 642]),List.toArray []⟩),
 (180,⟨.type "function",none,.func (fo "same_unit" "same_unit" (st 11) (.str "js.codes" 187) 179),List.toArray []⟩),
 (193,⟨.type "code",none,.fields (List.toArray [.str "__init__" 660,.str "BadListing.__init__" 661,.str "/claim/cut.py" 662,.int 67 0,.int 2 0,.int 0 0,.int 0 0,.int 3 0,.ref 188,.bool true,.int 181 0,.ref 189,.none,.ref 190,.ref 191,.ref 192,.int 665 0,.int 67 0,.str "/claim/cut.py" 666]),List.toArray []⟩),
 (194,⟨.type "function",none,.func (fo "__init__" "BadListing.__init__" (mt 14 0) (.str "js.listing" 644) 193),List.toArray []⟩),
 (196,⟨.type "dict",none,.dict (List.toArray [⟨PyData.keyHash P "__module__",.str "__module__" 655,.str "js.listing" 644⟩,⟨PyData.keyHash P "__firstlineno__",.str "__firstlineno__" 659,.int 65 658⟩,⟨PyData.keyHash P "__init__",.str "__init__" 667,.ref 194⟩,⟨PyData.keyHash P "__static_attributes__",.str "__static_attributes__" 669,.ref 195⟩,⟨PyData.keyHash P "__weakref__",.str "__weakref__" 671,.ref 198⟩,⟨PyData.keyHash P "__doc__",.str "__doc__" 672,.none⟩]) 3,List.toArray []⟩),
 (197,⟨.type "type",none,.cls {name:="BadListing",bases:=[.type "Exception"],mro:=[.ref 197,.type "Exception",.type "BaseException",.type "object"],ns:=196,qualname:="BadListing",hasDict:=true,slotNames:=[],subclasses:=[],abstract:=false,collection:=none,hasDel:=false},List.toArray [some (.ref 181),none,some (.str "BadListing" 648),some (.str "BadListing" 656),some (.builtin "Exception.__new__"),some (.bool true)]⟩),
 (206,⟨.type "code",none,.fields (List.toArray [.str "hex_four" 677,.str "hex_four" 678,.str "/claim/cut.py" 679,.int 70 0,.int 1 0,.int 0 0,.int 0 0,.int 3 0,.ref 201,.bool true,.int 181 0,.ref 202,.none,.ref 203,.ref 204,.ref 205,.int 681 0,.int 70 0,.str "/claim/cut.py" 682]),List.toArray []⟩),
 (207,⟨.type "function",none,.func (fo "hex_four" "hex_four" (st 15) (.str "js.listing" 644) 206),List.toArray []⟩),
 (213,⟨.type "code",none,.fields (List.toArray [.str "quoted_text" 684,.str "quoted_text" 685,.str "/claim/cut.py" 686,.int 72 0,.int 1 0,.int 0 0,.int 0 0,.int 3 0,.ref 208,.bool true,.int 181 0,.ref 209,.none,.ref 210,.ref 211,.ref 212,.int 691 0,.int 72 0,.str "/claim/cut.py" 692]),List.toArray []⟩),
 (214,⟨.type "function",none,.func (fo "quoted_text" "quoted_text" (st 16) (.str "js.listing" 644) 213),List.toArray []⟩),
 (220,⟨.type "code",none,.fields (List.toArray [.str "unquoted_text" 694,.str "unquoted_text" 695,.str "/claim/cut.py" 696,.int 81 0,.int 1 0,.int 0 0,.int 0 0,.int 3 0,.ref 215,.bool true,.int 181 0,.ref 216,.none,.ref 217,.ref 218,.ref 219,.int 702 0,.int 81 0,.str "/claim/cut.py" 703]),List.toArray []⟩),
 (221,⟨.type "function",none,.func (fo "unquoted_text" "unquoted_text" (st 17) (.str "js.listing" 644) 220),List.toArray []⟩),
 (227,⟨.type "code",none,.fields (List.toArray [.str "hex_number" 705,.str "hex_number" 706,.str "/claim/cut.py" 707,.int 98 0,.int 1 0,.int 0 0,.int 0 0,.int 3 0,.ref 222,.bool true,.int 181 0,.ref 223,.none,.ref 224,.ref 225,.ref 226,.int 711 0,.int 98 0,.str "/claim/cut.py" 712]),List.toArray []⟩),
 (228,⟨.type "function",none,.func (fo "hex_number" "hex_number" (st 18) (.str "js.listing" 644) 227),List.toArray []⟩),
 (232,⟨.type "code",none,.fields (List.toArray [.str "plain_number" 714,.str "plain_number" 715,.str "/claim/cut.py" 716,.int 105 0,.int 1 0,.int 0 0,.int 0 0,.int 3 0,.ref 229,.bool true,.int 181 0,.ref 230,.none,.none,.none,.ref 231,.int 717 0,.int 105 0,.str "/claim/cut.py" 718]),List.toArray []⟩),
 (233,⟨.type "function",none,.func (fo "plain_number" "plain_number" (st 19) (.str "js.listing" 644) 232),List.toArray []⟩),
 (239,⟨.type "code",none,.fields (List.toArray [.str "place_word" 720,.str "place_word" 721,.str "/claim/cut.py" 722,.int 112 0,.int 1 0,.int 0 0,.int 0 0,.int 3 0,.ref 234,.bool true,.int 181 0,.ref 235,.none,.ref 236,.ref 237,.ref 238,.int 724 0,.int 112 0,.str "/claim/cut.py" 725]),List.toArray []⟩),
 (240,⟨.type "function",none,.func (fo "place_word" "place_word" (st 20) (.str "js.listing" 644) 239),List.toArray []⟩),
 (246,⟨.type "code",none,.fields (List.toArray [.str "place_in" 727,.str "place_in" 728,.str "/claim/cut.py" 729,.int 114 0,.int 1 0,.int 0 0,.int 0 0,.int 3 0,.ref 241,.bool true,.int 181 0,.ref 242,.none,.ref 243,.ref 244,.ref 245,.int 732 0,.int 114 0,.str "/claim/cut.py" 733]),List.toArray []⟩),
 (247,⟨.type "function",none,.func (fo "place_in" "place_in" (st 21) (.str "js.listing" 644) 246),List.toArray []⟩),
 (253,⟨.type "code",none,.fields (List.toArray [.str "flag_words" 735,.str "flag_words" 736,.str "/claim/cut.py" 737,.int 121 0,.int 1 0,.int 0 0,.int 0 0,.int 3 0,.ref 248,.bool true,.int 181 0,.ref 249,.none,.ref 250,.ref 251,.ref 252,.int 739 0,.int 121 0,.str "/claim/cut.py" 740]),List.toArray []⟩),
 (254,⟨.type "function",none,.func (fo "flag_words" "flag_words" (st 22) (.str "js.listing" 644) 253),List.toArray []⟩),
 (258,⟨.type "code",none,.fields (List.toArray [.str "head_lines" 742,.str "head_lines" 743,.str "/claim/cut.py" 744,.int 123 0,.int 1 0,.int 0 0,.int 0 0,.int 3 0,.ref 255,.bool true,.int 181 0,.ref 256,.none,.none,.none,.ref 257,.int 745 0,.int 123 0,.str "/claim/cut.py" 746]),List.toArray []⟩),
 (259,⟨.type "function",none,.func (fo "head_lines" "head_lines" (st 23) (.str "js.listing" 644) 258),List.toArray []⟩),
 (265,⟨.type "code",none,.fields (List.toArray [.str "const_word" 748,.str "const_word" 749,.str "/claim/cut.py" 750,.int 132 0,.int 1 0,.int 0 0,.int 0 0,.int 3 0,.ref 260,.bool true,.int 181 0,.ref 261,.none,.ref 262,.ref 263,.ref 264,.int 752 0,.int 132 0,.str "/claim/cut.py" 753]),List.toArray []⟩),
 (266,⟨.type "function",none,.func (fo "const_word" "const_word" (st 24) (.str "js.listing" 644) 265),List.toArray []⟩),
 (272,⟨.type "code",none,.fields (List.toArray [.str "line_remark" 755,.str "line_remark" 756,.str "/claim/cut.py" 757,.int 134 0,.int 3 0,.int 0 0,.int 0 0,.int 3 0,.ref 267,.bool true,.int 181 0,.ref 268,.none,.ref 269,.ref 270,.ref 271,.int 761 0,.int 134 0,.str "/claim/cut.py" 762]),List.toArray []⟩),
 (273,⟨.type "function",none,.func (fo "line_remark" "line_remark" (st 25) (.str "js.listing" 644) 272),List.toArray []⟩),
 (279,⟨.type "code",none,.fields (List.toArray [.str "code_line" 764,.str "code_line" 765,.str "/claim/cut.py" 766,.int 138 0,.int 2 0,.int 0 0,.int 0 0,.int 3 0,.ref 274,.bool true,.int 181 0,.ref 275,.none,.ref 276,.ref 277,.ref 278,.int 772 0,.int 138 0,.str "/claim/cut.py" 773]),List.toArray []⟩),
 (280,⟨.type "function",none,.func (fo "code_line" "code_line" (st 26) (.str "js.listing" 644) 279),List.toArray []⟩),
 (286,⟨.type "code",none,.fields (List.toArray [.str "unit_lines" 775,.str "unit_lines" 776,.str "/claim/cut.py" 777,.int 142 0,.int 1 0,.int 0 0,.int 0 0,.int 3 0,.ref 281,.bool true,.int 181 0,.ref 282,.none,.ref 283,.ref 284,.ref 285,.int 789 0,.int 142 0,.str "/claim/cut.py" 790]),List.toArray []⟩),
 (287,⟨.type "function",none,.func (fo "unit_lines" "unit_lines" (st 27) (.str "js.listing" 644) 286),List.toArray []⟩),
 (293,⟨.type "code",none,.fields (List.toArray [.str "list_unit" 792,.str "list_unit" 793,.str "/claim/cut.py" 794,.int 155 0,.int 1 0,.int 0 0,.int 0 0,.int 3 0,.ref 288,.bool true,.int 181 0,.ref 289,.none,.ref 290,.ref 291,.ref 292,.int 796 0,.int 155 0,.str "/claim/cut.py" 797]),List.toArray []⟩),
 (294,⟨.type "function",none,.func (fo "list_unit" "list_unit" (st 28) (.str "js.listing" 644) 293),List.toArray []⟩),
 (307,⟨.type "code",none,.fields (List.toArray [.str "__init__" 811,.str "Reading.__init__" 812,.str "/claim/cut.py" 813,.int 159 0,.int 2 0,.int 0 0,.int 0 0,.int 3 0,.ref 302,.bool true,.int 181 0,.ref 303,.none,.ref 304,.ref 305,.ref 306,.int 816 0,.int 159 0,.str "/claim/cut.py" 817]),List.toArray []⟩),
 (308,⟨.type "function",none,.func (fo "__init__" "Reading.__init__" (mt 29 0) (.str "js.listing" 644) 307),List.toArray []⟩),
 (314,⟨.type "code",none,.fields (List.toArray [.str "fail" 819,.str "Reading.fail" 820,.str "/claim/cut.py" 821,.int 163 0,.int 1 0,.int 0 0,.int 0 0,.int 3 0,.ref 309,.bool true,.int 181 0,.ref 310,.none,.ref 311,.ref 312,.ref 313,.int 823 0,.int 163 0,.str "/claim/cut.py" 824]),List.toArray []⟩),
 (315,⟨.type "function",none,.func (fo "fail" "Reading.fail" (mt 29 1) (.str "js.listing" 644) 314),List.toArray []⟩),
 (321,⟨.type "code",none,.fields (List.toArray [.str "words" 826,.str "Reading.words" 827,.str "/claim/cut.py" 828,.int 166 0,.int 1 0,.int 0 0,.int 0 0,.int 3 0,.ref 316,.bool true,.int 181 0,.ref 317,.none,.ref 318,.ref 319,.ref 320,.int 830 0,.int 166 0,.str "/claim/cut.py" 831]),List.toArray []⟩),
 (322,⟨.type "function",none,.func (fo "words" "Reading.words" (mt 29 2) (.str "js.listing" 644) 321),List.toArray []⟩),
 (328,⟨.type "code",none,.fields (List.toArray [.str "rest" 833,.str "Reading.rest" 834,.str "/claim/cut.py" 835,.int 171 0,.int 2 0,.int 0 0,.int 0 0,.int 3 0,.ref 323,.bool true,.int 181 0,.ref 324,.none,.ref 325,.ref 326,.ref 327,.int 839 0,.int 171 0,.str "/claim/cut.py" 840]),List.toArray []⟩),
 (329,⟨.type "function",none,.func (fo "rest" "Reading.rest" (mt 29 3) (.str "js.listing" 644) 328),List.toArray []⟩),
 (335,⟨.type "code",none,.fields (List.toArray [.str "number" 842,.str "Reading.number" 843,.str "/claim/cut.py" 844,.int 178 0,.int 2 0,.int 0 0,.int 0 0,.int 3 0,.ref 330,.bool true,.int 181 0,.ref 331,.none,.ref 332,.ref 333,.ref 334,.int 848 0,.int 178 0,.str "/claim/cut.py" 849]),List.toArray []⟩),
 (336,⟨.type "function",none,.func (fo "number" "Reading.number" (mt 29 4) (.str "js.listing" 644) 335),List.toArray []⟩),
 (342,⟨.type "code",none,.fields (List.toArray [.str "text" 851,.str "Reading.text" 852,.str "/claim/cut.py" 853,.int 184 0,.int 2 0,.int 0 0,.int 0 0,.int 3 0,.ref 337,.bool true,.int 181 0,.ref 338,.none,.ref 339,.ref 340,.ref 341,.int 857 0,.int 184 0,.str "/claim/cut.py" 858]),List.toArray []⟩),
 (343,⟨.type "function",none,.func (fo "text" "Reading.text" (mt 29 5) (.str "js.listing" 644) 342),List.toArray []⟩),
 (349,⟨.type "code",none,.fields (List.toArray [.str "place" 860,.str "Reading.place" 861,.str "/claim/cut.py" 862,.int 190 0,.int 2 0,.int 0 0,.int 0 0,.int 3 0,.ref 344,.bool true,.int 181 0,.ref 345,.none,.ref 346,.ref 347,.ref 348,.int 867 0,.int 190 0,.str "/claim/cut.py" 868]),List.toArray []⟩),
 (350,⟨.type "function",none,.func (fo "place" "Reading.place" (mt 29 6) (.str "js.listing" 644) 349),List.toArray []⟩),
 (356,⟨.type "code",none,.fields (List.toArray [.str "need" 870,.str "Reading.need" 871,.str "/claim/cut.py" 872,.int 196 0,.int 2 0,.int 0 0,.int 0 0,.int 3 0,.ref 351,.bool true,.int 181 0,.ref 352,.none,.ref 353,.ref 354,.ref 355,.int 875 0,.int 196 0,.str "/claim/cut.py" 876]),List.toArray []⟩),
 (357,⟨.type "function",none,.func (fo "need" "Reading.need" (mt 29 7) (.str "js.listing" 644) 356),List.toArray []⟩),
 (361,⟨.type "code",none,.fields (List.toArray [.str "head" 878,.str "Reading.head" 879,.str "/claim/cut.py" 880,.int 200 0,.int 1 0,.int 0 0,.int 0 0,.int 3 0,.ref 358,.bool true,.int 181 0,.ref 359,.none,.none,.none,.ref 360,.int 881 0,.int 200 0,.str "/claim/cut.py" 882]),List.toArray []⟩),
 (362,⟨.type "function",none,.func (fo "head" "Reading.head" (mt 29 8) (.str "js.listing" 644) 361),List.toArray []⟩),
 (368,⟨.type "code",none,.fields (List.toArray [.str "capture" 884,.str "Reading.capture" 885,.str "/claim/cut.py" 886,.int 216 0,.int 2 0,.int 0 0,.int 0 0,.int 3 0,.ref 363,.bool true,.int 181 0,.ref 364,.none,.ref 365,.ref 366,.ref 367,.int 890 0,.int 216 0,.str "/claim/cut.py" 891]),List.toArray []⟩),
 (369,⟨.type "function",none,.func (fo "capture" "Reading.capture" (mt 29 9) (.str "js.listing" 644) 368),List.toArray []⟩),
 (375,⟨.type "code",none,.fields (List.toArray [.str "constant" 893,.str "Reading.constant" 894,.str "/claim/cut.py" 895,.int 222 0,.int 2 0,.int 0 0,.int 0 0,.int 3 0,.ref 370,.bool true,.int 181 0,.ref 371,.none,.ref 372,.ref 373,.ref 374,.int 898 0,.int 222 0,.str "/claim/cut.py" 899]),List.toArray []⟩),
 (376,⟨.type "function",none,.func (fo "constant" "Reading.constant" (mt 29 10) (.str "js.listing" 644) 375),List.toArray []⟩),
 (380,⟨.type "code",none,.fields (List.toArray [.str "handler" 901,.str "Reading.handler" 902,.str "/claim/cut.py" 903,.int 226 0,.int 2 0,.int 0 0,.int 0 0,.int 3 0,.ref 377,.bool true,.int 181 0,.ref 378,.none,.none,.none,.ref 379,.int 904 0,.int 226 0,.str "/claim/cut.py" 905]),List.toArray []⟩),
 (381,⟨.type "function",none,.func (fo "handler" "Reading.handler" (mt 29 11) (.str "js.listing" 644) 380),List.toArray []⟩),
 (387,⟨.type "code",none,.fields (List.toArray [.str "row" 907,.str "Reading.row" 908,.str "/claim/cut.py" 909,.int 231 0,.int 2 0,.int 0 0,.int 0 0,.int 3 0,.ref 382,.bool true,.int 181 0,.ref 383,.none,.ref 384,.ref 385,.ref 386,.int 914 0,.int 231 0,.str "/claim/cut.py" 915]),List.toArray []⟩),
 (388,⟨.type "function",none,.func (fo "row" "Reading.row" (mt 29 12) (.str "js.listing" 644) 387),List.toArray []⟩),
 (394,⟨.type "code",none,.fields (List.toArray [.str "unit" 917,.str "Reading.unit" 918,.str "/claim/cut.py" 919,.int 241 0,.int 1 0,.int 0 0,.int 0 0,.int 3 0,.ref 389,.bool true,.int 181 0,.ref 390,.none,.ref 391,.ref 392,.ref 393,.int 922 0,.int 241 0,.str "/claim/cut.py" 923]),List.toArray []⟩),
 (395,⟨.type "function",none,.func (fo "unit" "Reading.unit" (mt 29 13) (.str "js.listing" 644) 394),List.toArray []⟩),
 (401,⟨.type "code",none,.fields (List.toArray [.str "need_end" 925,.str "Reading.need_end" 926,.str "/claim/cut.py" 927,.int 254 0,.int 1 0,.int 0 0,.int 0 0,.int 3 0,.ref 396,.bool true,.int 181 0,.ref 397,.none,.ref 398,.ref 399,.ref 400,.int 929 0,.int 254 0,.str "/claim/cut.py" 930]),List.toArray []⟩),
 (402,⟨.type "function",none,.func (fo "need_end" "Reading.need_end" (mt 29 14) (.str "js.listing" 644) 401),List.toArray []⟩),
 (404,⟨.type "dict",none,.dict (List.toArray [⟨PyData.keyHash P "__module__",.str "__module__" 806,.str "js.listing" 644⟩,⟨PyData.keyHash P "__firstlineno__",.str "__firstlineno__" 810,.int 157 809⟩,⟨PyData.keyHash P "__init__",.str "__init__" 818,.ref 308⟩,⟨PyData.keyHash P "fail",.str "fail" 825,.ref 315⟩,⟨PyData.keyHash P "words",.str "words" 832,.ref 322⟩,⟨PyData.keyHash P "rest",.str "rest" 841,.ref 329⟩,⟨PyData.keyHash P "number",.str "number" 850,.ref 336⟩,⟨PyData.keyHash P "text",.str "text" 859,.ref 343⟩,⟨PyData.keyHash P "place",.str "place" 869,.ref 350⟩,⟨PyData.keyHash P "need",.str "need" 877,.ref 357⟩,⟨PyData.keyHash P "head",.str "head" 883,.ref 362⟩,⟨PyData.keyHash P "capture",.str "capture" 892,.ref 369⟩,⟨PyData.keyHash P "constant",.str "constant" 900,.ref 376⟩,⟨PyData.keyHash P "handler",.str "handler" 906,.ref 381⟩,⟨PyData.keyHash P "row",.str "row" 916,.ref 388⟩,⟨PyData.keyHash P "unit",.str "unit" 924,.ref 395⟩,⟨PyData.keyHash P "need_end",.str "need_end" 931,.ref 402⟩,⟨PyData.keyHash P "__static_attributes__",.str "__static_attributes__" 934,.ref 403⟩,⟨PyData.keyHash P "__dict__",.str "__dict__" 936,.ref 406⟩,⟨PyData.keyHash P "__weakref__",.str "__weakref__" 938,.ref 407⟩,⟨PyData.keyHash P "__doc__",.str "__doc__" 939,.none⟩]) 4,List.toArray []⟩),
 (405,⟨.type "type",none,.cls {name:="Reading",bases:=[.type "object"],mro:=[.ref 405,.type "object"],ns:=404,qualname:="Reading",hasDict:=true,slotNames:=[],subclasses:=[],abstract:=false,collection:=none,hasDel:=false},List.toArray [none,none,some (.str "Reading" 799),some (.str "Reading" 807),some (.builtin "object.__new__"),some (.bool true)]⟩),
 (415,⟨.type "code",none,.fields (List.toArray [.str "read_unit" 942,.str "read_unit" 943,.str "/claim/cut.py" 944,.int 258 0,.int 1 0,.int 0 0,.int 0 0,.int 3 0,.ref 410,.bool true,.int 181 0,.ref 411,.none,.ref 412,.ref 413,.ref 414,.int 948 0,.int 258 0,.str "/claim/cut.py" 949]),List.toArray []⟩),
 (416,⟨.type "function",none,.func (fo "read_unit" "read_unit" (st 30) (.str "js.listing" 644) 415),List.toArray []⟩),
 (420,⟨.type "code",none,.fields (List.toArray [.str "_law_draws" 953,.str "_law_draws" 954,.str "/claim/cut.py" 955,.int 265 0,.int 1 0,.int 0 0,.int 0 0,.int 3 0,.ref 417,.bool true,.int 181 0,.ref 418,.none,.none,.none,.ref 419,.int 956 0,.int 265 0,.str "/claim/cut.py" 957]),List.toArray []⟩),
 (421,⟨.type "function",none,.func (fo "_law_draws" "_law_draws" (st 32) (.str "law_nt0367_01" 951) 420),List.toArray []⟩),
 (427,⟨.type "code",none,.fields (List.toArray [.str "_law_take" 959,.str "_law_take" 960,.str "/claim/cut.py" 961,.int 270 0,.int 2 0,.int 0 0,.int 0 0,.int 3 0,.ref 422,.bool true,.int 181 0,.ref 423,.none,.ref 424,.ref 425,.ref 426,.int 964 0,.int 270 0,.str "/claim/cut.py" 965]),List.toArray []⟩),
 (428,⟨.type "function",none,.func (fo "_law_take" "_law_take" (st 33) (.str "law_nt0367_01" 951) 427),List.toArray []⟩),
 (434,⟨.type "code",none,.fields (List.toArray [.str "_law_names" 967,.str "_law_names" 968,.str "/claim/cut.py" 969,.int 275 0,.int 0 0,.int 0 0,.int 0 0,.int 3 0,.ref 429,.bool true,.int 181 0,.ref 430,.none,.ref 431,.ref 432,.ref 433,.int 971 0,.int 275 0,.str "/claim/cut.py" 972]),List.toArray []⟩),
 (435,⟨.type "function",none,.func (fo "_law_names" "_law_names" (st 34) (.str "law_nt0367_01" 951) 434),List.toArray []⟩),
 (441,⟨.type "code",none,.fields (List.toArray [.str "_law_kinds" 974,.str "_law_kinds" 975,.str "/claim/cut.py" 976,.int 283 0,.int 0 0,.int 0 0,.int 0 0,.int 3 0,.ref 436,.bool true,.int 181 0,.ref 437,.none,.ref 438,.ref 439,.ref 440,.int 977 0,.int 283 0,.str "/claim/cut.py" 978]),List.toArray []⟩),
 (442,⟨.type "function",none,.func (fo "_law_kinds" "_law_kinds" (st 35) (.str "law_nt0367_01" 951) 441),List.toArray []⟩),
 (446,⟨.type "code",none,.fields (List.toArray [.str "_law_text" 980,.str "_law_text" 981,.str "/claim/cut.py" 982,.int 285 0,.int 1 0,.int 0 0,.int 0 0,.int 3 0,.ref 443,.bool true,.int 181 0,.ref 444,.none,.none,.none,.ref 445,.int 983 0,.int 285 0,.str "/claim/cut.py" 984]),List.toArray []⟩),
 (447,⟨.type "function",none,.func (fo "_law_text" "_law_text" (st 36) (.str "law_nt0367_01" 951) 446),List.toArray []⟩),
 (453,⟨.type "code",none,.fields (List.toArray [.str "_law_place" 986,.str "_law_place" 987,.str "/claim/cut.py" 988,.int 288 0,.int 1 0,.int 0 0,.int 0 0,.int 3 0,.ref 448,.bool true,.int 181 0,.ref 449,.none,.ref 450,.ref 451,.ref 452,.int 991 0,.int 288 0,.str "/claim/cut.py" 992]),List.toArray []⟩),
 (454,⟨.type "function",none,.func (fo "_law_place" "_law_place" (st 37) (.str "law_nt0367_01" 951) 453),List.toArray []⟩),
 (460,⟨.type "code",none,.fields (List.toArray [.str "_law_operation" 994,.str "_law_operation" 995,.str "/claim/cut.py" 996,.int 291 0,.int 2 0,.int 0 0,.int 0 0,.int 3 0,.ref 455,.bool true,.int 181 0,.ref 456,.none,.ref 457,.ref 458,.ref 459,.int 1000 0,.int 291 0,.str "/claim/cut.py" 1001]),List.toArray []⟩),
 (461,⟨.type "function",none,.func (fo "_law_operation" "_law_operation" (st 38) (.str "law_nt0367_01" 951) 460),List.toArray []⟩),
 (465,⟨.type "code",none,.fields (List.toArray [.str "_law_made" 1003,.str "_law_made" 1004,.str "/claim/cut.py" 1005,.int 294 0,.int 3 0,.int 0 0,.int 0 0,.int 3 0,.ref 462,.bool true,.int 181 0,.ref 463,.none,.none,.none,.ref 464,.int 1006 0,.int 294 0,.str "/claim/cut.py" 1007]),List.toArray []⟩),
 (466,⟨.type "function",none,.func (fo "_law_made" "_law_made" (st 39) (.str "law_nt0367_01" 951) 465),List.toArray []⟩),
 (472,⟨.type "code",none,.fields (List.toArray [.str "_law_quoted" 1009,.str "_law_quoted" 1010,.str "/claim/cut.py" 1011,.int 311 0,.int 1 0,.int 0 0,.int 0 0,.int 3 0,.ref 467,.bool true,.int 181 0,.ref 468,.none,.ref 469,.ref 470,.ref 471,.int 1016 0,.int 311 0,.str "/claim/cut.py" 1017]),List.toArray []⟩),
 (473,⟨.type "function",none,.func (fo "_law_quoted" "_law_quoted" (st 40) (.str "law_nt0367_01" 951) 472),List.toArray []⟩),
 (479,⟨.type "code",none,.fields (List.toArray [.str "_law_line" 1019,.str "_law_line" 1020,.str "/claim/cut.py" 1021,.int 317 0,.int 4 0,.int 0 0,.int 0 0,.int 3 0,.ref 474,.bool true,.int 181 0,.ref 475,.none,.ref 476,.ref 477,.ref 478,.int 1030 0,.int 317 0,.str "/claim/cut.py" 1031]),List.toArray []⟩),
 (480,⟨.type "function",none,.func (fo "_law_line" "_law_line" (st 41) (.str "law_nt0367_01" 951) 479),List.toArray []⟩),
 (486,⟨.type "code",none,.fields (List.toArray [.str "_law_is_refused" 1033,.str "_law_is_refused" 1034,.str "/claim/cut.py" 1035,.int 324 0,.int 1 0,.int 0 0,.int 0 0,.int 3 0,.ref 481,.bool true,.int 181 0,.ref 482,.none,.ref 483,.ref 484,.ref 485,.int 1037 0,.int 324 0,.str "/claim/cut.py" 1038]),List.toArray []⟩),
 (487,⟨.type "function",none,.func (fo "_law_is_refused" "_law_is_refused" (st 42) (.str "law_nt0367_01" 951) 486),List.toArray []⟩),
 (493,⟨.type "code",none,.fields (List.toArray [.str "_law_turned_right" 1040,.str "_law_turned_right" 1041,.str "/claim/cut.py" 1042,.int 330 0,.int 2 0,.int 0 0,.int 0 0,.int 3 0,.ref 488,.bool true,.int 181 0,.ref 489,.none,.ref 490,.ref 491,.ref 492,.int 1049 0,.int 330 0,.str "/claim/cut.py" 1050]),List.toArray []⟩),
 (494,⟨.type "function",none,.func (fo "_law_turned_right" "_law_turned_right" (st 43) (.str "law_nt0367_01" 951) 493),List.toArray []⟩),
 (500,⟨.type "code",none,.fields (List.toArray [.str "law" 1052,.str "law" 1053,.str "/claim/cut.py" 1054,.int 339 0,.int 1 0,.int 0 0,.int 0 0,.int 3 0,.ref 495,.bool true,.int 181 0,.ref 496,.none,.ref 497,.ref 498,.ref 499,.int 1066 0,.int 339 0,.str "/claim/cut.py" 1067]),List.toArray []⟩),
 (501,⟨.type "function",none,.func (fo "law" "law" (st 44) (.str "law_nt0367_01" 951) 500),List.toArray []⟩)]
noncomputable def as:List Addr:=[2,3,15,16,17,18,19,20,21,22,23,24,25,26,27,28,29,30,31,32,33,34,35,36,37,38,39,40,41,42,43,44,45,46,47,48,49,50,51,52,53,54,55,56,57,58,59,60,61,62,63,64,65,66,67,68,69,70,71,72,73,74,75,76,77,78,79,80,81,82,83,84,85,86,87,88,89,90,91,92,93,94,95,96,97,98,99,100,113,114,116,117,127,128,134,135,141,142,148,149,155,156,160,161,167,168,174,175,179,180,193,194,196,197,206,207,213,214,220,221,227,228,232,233,239,240,246,247,253,254,258,259,265,266,272,273,279,280,286,287,293,294,307,308,314,315,321,322,328,329,335,336,342,343,349,350,356,357,361,362,368,369,375,376,380,381,387,388,394,395,401,402,404,405,415,416,420,421,427,428,434,435,441,442,446,447,453,454,460,461,465,466,472,473,479,480,486,487,493,494,500,501]
theorem j4:∀P,as=(Kp pw P).map (·.1):=fun z0=>rfl
noncomputable def loose:List Str:="OPERATIONS"::"Unit"::"op_name"::"arg_kind"::"op_of"::"line_of"::"same_constant"::"same_constants"::"same_head"::"walk_units"::"same_unit"::"HEX"::"BadListing"::"hex_four"::"quoted_text"::"unquoted_text"::"hex_number"::"plain_number"::"place_word"::"place_in"::"flag_words"::"head_lines"::"const_word"::"line_remark"::"code_line"::"unit_lines"::"list_unit"::"Reading"::"read_unit"::"_law_draws"::"_law_take"::"_law_names"::"_law_kinds"::"_law_text"::"_law_place"::"_law_operation"::"_law_made"::"_law_quoted"::"_law_line"::"_law_is_refused"::"_law_turned_right"::[]
abbrev qv(p:Program):Program:=view p [44]
noncomputable def WV(step:SharedT→Thread→Option (SharedT×Thread))(ok:Thread→Bool):Nat→SharedT→Thread→Option SharedT
 |0,_,_=>none
 |n+1,s,t=>match through t with
  |true=>some s
  |false=>match ok t with
   |false=>none
   |true=>match step s t with
    |some (s',t')=>WV step ok n s' t'
    |none=>none
noncomputable def Xp:List Obj→Nat→BT→BT
 |[],_,t=>t
 |o::r,n,t=>Xp r (n+1) (t.ins n o)
noncomputable def S0(P:Params)(os:OsState):SharedT:=⟨Xp (boot_heap P).objs.toList 0 .nil,11,(boot_heap P).life,Array.mk [],boot_drawn,boot_toks,os⟩
noncomputable def chk(p:Program)(w:World)(s:Shared):Bool:=staticsOk (importedModules p.main.body) (boot_heap w.params) s.heap&&namesBound p s.heap&&gensDone s&&laidKept (boot_heap w.params) s.heap
theorem run:∀(w:World) (os:OsState),(WV (stepT (denote treeTable) pw w) (stepOk 11 (some (.ref 6))) 3000 (S0 w.params os) (topStub pw)).map (fun sT=>(chk pw w sT.abs,
   openSeen (qv pw) loose (importedModules pw.main.body) (fun s=>xlAt (qv pw) [] s&&recOk [] s) true sT.abs,as.map sT.abs.heap.get?))=
  some (true,openGood (qv pw) loose,(Kp pw w.params).map fun p=>some p.2):=by
 intro w os
 rw[PySem.W.Fast.te10156331382660048174,PySem.W.Fast.te11892475500146522536,PySem.W.Fast.te6613529449190102663,PySem.W.Fast.te4187177175401517315]
 kernel_rfl
theorem On{tb:String→Option Builtin}{p:Program}{w:World}{n₀:Nat}{ann:Option Value}:∀{n:Nat} {s s':SharedT} {t:Thread},
  WV (stepT (denote tb) p w) (stepOk n₀ ann) n s t=some s'→topRun tb p w n₀ ann n s.abs t=some s'.abs
 |0,_,_,_,h=>by simp[WV] at h
 |n+1,s,s',t,h=>by
  unfold WV at h
  unfold topRun
  cases e:through t with
  |true=>rw[e] at h;simp only[Option.some.injEq] at h ⊢;rw[h]
  |false=>
   rw[e] at h
   dsimp only at h ⊢
   cases e2:stepOk n₀ ann t with
   |false=>rw[e2] at h;cases h
   |true=>
    rw[e2] at h
    dsimp only at h ⊢
    cases e3:stepT (denote tb) p w s t with
    |none=>rw[e3] at h;cases h
    |some r=>
     obtain⟨s₂,t₂⟩:=r
     rw[e3] at h
     dsimp only at h
     rw[stepT_spec e3]
     exact On h
theorem dP(P:Params)(os:OsState):(S0 P os).abs=⟨boot_heap P,Array.mk [],boot_drawn,boot_toks,os⟩:=by
 kernel_rfl
theorem an:∀w:World,((boot_heap w.params).isNs mainGlobals&&(Array.mk []:Array GenState).size==0,(boot_heap w.params).objs.size,(boot_heap w.params).nsMap mainGlobals "__annotations__")=(true,11,some (.ref 6)):=by
 intro w;kernel_rfl
theorem ao:∀w:World,(fencedOpening treeTable pw w 6000).map (fun s=>(s.heap,s.gens,s.drawn,s.toks))=some (boot_heap w.params,Array.mk [],boot_drawn,boot_toks):=
 boot_open (by kernel_rfl) rfl (fun s=>by kernel_rfl)
noncomputable abbrev HK:Hook:=kHook (Kp pw) as j4
theorem Xq{p q:Program}{loose:List Str}{Xt:Shared→Bool}{α:Type}{Yf:Shared→α}{Ya:World→α}{N M:Nat}{H₀:Params→Heap}{gs:Array GenState}{d:Drawn}{k m₀:Nat}{ann:Option Value}{S:Params→OsState→SharedT}
  (open_:∀w:World,(fencedOpening treeTable p w N).map (fun s=>(s.heap,s.gens,s.drawn,s.toks))=some (H₀ w.params,gs,d,k))
  (size:∀w:World,((H₀ w.params).isNs mainGlobals&&gs.size==0,(H₀ w.params).objs.size,(H₀ w.params).nsMap mainGlobals "__annotations__")=(true,m₀,ann))
  (sabs:∀P os,(S P os).abs=⟨H₀ P,gs,d,k,os⟩)
  (run:∀(w:World) (os:OsState),(WV (stepT (denote treeTable) p w) (stepOk m₀ ann) M (S w.params os) (topStub p)).map (fun sT=>
   (staticsOk (importedModules p.main.body) (H₀ w.params) sT.abs.heap&&namesBound p sT.abs.heap&&gensDone sT.abs&&laidKept (H₀ w.params) sT.abs.heap,
    openSeen q loose (importedModules p.main.body) Xt true sT.abs,Yf sT.abs))=some (true,openGood q loose,Ya w))(le:Nat.ble M N=true):
  LeftO p q loose Xt Yf Ya N:=fun w=>by
 obtain⟨⟨h,gs',d',k',os⟩,e,e'⟩:=Option.map_eq_some_iff.mp (open_ w)
 obtain⟨rfl,rfl,rfl,rfl⟩:h=H₀ w.params∧gs'=gs∧d'=d∧k'=k:=by simpa using e'
 obtain⟨z1,z2,z3⟩:_∧_∧_:=by simpa only[Prod.mk.injEq] using size w
 obtain⟨sT,r,l⟩:=Option.map_eq_some_iff.mp (run w os)
 obtain⟨l1,l2,l3⟩:_∧_∧_:=by simpa only[Prod.mk.injEq] using l
 have r1:=On r
 rw[sabs] at r1
 have r:=topRun_mono (N-M) _ _ _ _ r1
 rw[show M+(N-M)=N by have:=Nat.le_of_ble_eq_true le;omega] at r
 have t:topFrom treeTable p w N ⟨H₀ w.params,gs',d',k',os⟩=some sT.abs:=by
  unfold topFrom
  dsimp only
  rw[z1,z2,z3,r]
  show(match staticsOk (importedModules p.main.body) (H₀ w.params) sT.abs.heap&&namesBound p sT.abs.heap&&gensDone sT.abs&&laidKept (H₀ w.params) sT.abs.heap with|true=>_|false=>_)=_
  rw[l1]
 unfold openEnds
 rw[e]
 show Option.map _ (topFrom treeTable p w N _)=_
 rw[t]
 show some (_,_)=_
 rw[l2,l3]
theorem left:LeftO pw (qv pw) loose (fun s=>xlAt (qv pw) [] s&&recOk [] s) (Hook.obs HK) (Hook.val HK) 6000:=Xq ao an dP run rfl
abbrev gE:OpenLaw:={prog:=pw,name:=(PySem.Str.ofString "law"),about:=[(PySem.Str.ofString "read_unit")],foot:=13,most:=some 63,bound:=none,writes:=false}
theorem ap:OpenLaw.wellSaid gE=true:=by
 unfold gE
 rw[PySem.W.Fast.te9446332074065402090]
 kernel_rfl
abbrev rr:RowW:=OpenRow.toRowW gE.row
theorem promised:rr.promised:=by
 w_witness2
theorem gG(walk:WalkO (qv pw) loose (XL (qv pw) []) HK.says rr ⟨PySem.Str.ofString "law",am (ET pw 44),JH (ET pw 44),BR (ET pw 44),(ET pw 44).pos⟩ [] fun f vs=>call f vs):gE.Holds:=by
 refine holds_law ap fun said=>?_
 refine holds_open (r:=gE.row) (q:=qv pw) (loose:=loose) (Xt:=fun s=>xlAt (qv pw) [] s&&recOk [] s) (XP:=XL (qv pw) []) (Yf:=HK.obs) (Ya:=HK.val) (YP:=HK.says) (N:=6000) left HK.of HK.keeps
  (fun s e=>xl_of s (Bool.and_eq_true_iff.mp e).1) XL.keeps (by rfl) (by rfl) (by rfl) (fun s e=>recFacts_of (Bool.and_eq_true_iff.mp e).2) (by rfl) said (by decide+kernel) ⟨rfl,rfl,rfl,rfl,rfl,by decide+kernel⟩ promised walk
theorem head(walk:WalkO (qv pw) loose (XL (qv pw) []) HK.says rr ⟨PySem.Str.ofString "law",am (ET pw 44),JH (ET pw 44),BR (ET pw 44),(ET pw 44).pos⟩ [] fun f vs=>call f vs):PySem.Challenge.rw_nt0367_01.Holds:=gG walk
open PySem.Calls
inductive Aj{α:Type}(A B:α→Prop):Prop
 |mk (x):A x→B x→Aj A B
inductive EU{α:Type}(A B C:α→Prop):Prop
 |mk (x):A x→B x→C x→EU A B C
inductive aq{α:Type}(A B C D:α→Prop):Prop
 |mk (x):A x→B x→C x→D x→aq A B C D
inductive Gc{α β:Type}(A B:α→β→Prop):Prop
 |mk (x y):A x y→B x y→Gc A B
inductive E2_3{α β:Type}(A B C:α→β→Prop):Prop
 |mk (x y):A x y→B x y→C x y→E2_3 A B C
inductive JO{α β:Type}(A B C D:α→β→Prop):Prop
 |mk (x y):A x y→B x y→C x y→D x y→JO A B C D
inductive au{α β:Type}(A B C D E:α→β→Prop):Prop
 |mk (x y):A x y→B x y→C x y→D x y→E x y→au A B C D E
inductive WW{α β γ:Type}(A B:α→β→γ→Prop):Prop
 |mk (x y z):A x y z→B x y z→WW A B
inductive E3_3{α β γ:Type}(A B C:α→β→γ→Prop):Prop
 |mk (x y z):A x y z→B x y z→C x y z→E3_3 A B C
inductive gH{α β γ:Type}(A B C D:α→β→γ→Prop):Prop
 |mk (x y z):A x y z→B x y z→C x y z→D x y z→gH A B C D
inductive dQ{α β γ:Type}(A B C D E F:α→β→γ→Prop):Prop
 |mk (x y z):A x y z→B x y z→C x y z→D x y z→E x y z→F x y z→dQ A B C D E F
inductive gI{α β γ:Type}(A B C D E F G:α→β→γ→Prop):Prop
 |mk (x y z):A x y z→B x y z→C x y z→D x y z→E x y z→F x y z→G x y z→gI A B C D E F G
inductive gJ{α β γ δ:Type}(A B C:α→β→γ→δ→Prop):Prop
 |mk (x y z u):A x y z u→B x y z u→C x y z u→gJ A B C
inductive E4_5{α β γ δ:Type}(A B C D E:α→β→γ→δ→Prop):Prop
 |mk (x y z u):A x y z u→B x y z u→C x y z u→D x y z u→E x y z u→E4_5 A B C D E
inductive ce{α β γ δ:Type}(A B C D E F G H I J:α→β→γ→δ→Prop):Prop
 |mk (x y z u):A x y z u→B x y z u→C x y z u→D x y z u→E x y z u→F x y z u→G x y z u→H x y z u→I x y z u→J x y z u→ce A B C D E F G H I J
noncomputable abbrev KP(w:World):Frag:=Kp pw w.params
inductive D where
 |none|bool (b:Bool)|int (i:Int)|str (l:List Nat)
 |tup (xs:List D)|lst (xs:List D)|obj (xs:List D)
 |arg (xs:List D)|rng (a b c:Int)
 |ty (T:String)
inductive AV where
 |d (x:D)|lst (i:Nat)|obj (c:Addr) (i:Nat)
inductive AK where
 |lst (xs:List AV)|dict (fs:List (Str×AV))
inductive FI where
 |ns (m:Str→Option AV)|box (o:Option AV)
noncomputable def JI:List Str:=[Str.ofString "name",Str.ofString "params",Str.ofString "code",Str.ofString "consts",Str.ofString "units",Str.ofString "handlers",Str.ofString "lines",Str.ofString "local_count",Str.ofString "cell_count",Str.ofString "captures",Str.ofString "is_strict",Str.ofString "uses_arguments",Str.ofString "self_slot",Str.ofString "arguments_place",Str.ofString "param_places"]
inductive Al{α β:Type}(R:α→β→Prop):List α→List β→Prop
 |nil:Al R [] []
 |cons {a b as bs}:R a b→Al R as bs→Al R (a::as) (b::bs)
namespace Al
variable {α β:Type} {R S:α→β→Prop} {as:List α} {bs:List β}
theorem length(h:Al R as bs):as.length=bs.length:=by induction h<;>simp_all
theorem mono(k:∀a b,R a b→S a b)(h:Al R as bs):Al S as bs:=by
 induction h with
 |nil=>exact .nil
 |cons h _ ih=>exact .cons (k _ _ h) ih
theorem append{cs ds}(h:Al R as bs)(h':Al R cs ds):Al R (as++cs) (bs++ds):=by
 induction h with
 |nil=>exact h'
 |cons h _ ih=>exact .cons h ih
theorem one{a b}(h:R a b):Al R [a] [b]:=.cons h .nil
theorem get(h:Al R as bs):∀{i:Nat} {b},bs[i]? =some b→Aj (fun a=>as[i]? =some a) (fun a=>R a b):=by
 induction h with
 |nil=>intro i b e;simp at e
 |cons h _ ih=>
  intro i b e
  cases i with
  |zero=>simp at e;subst e;exact⟨_,rfl,h⟩
  |succ i=>simpa using ih (by simpa using e)
theorem get'(h:Al R as bs):∀{i:Nat} {a},as[i]? =some a→Aj (fun b=>bs[i]? =some b) (fun b=>R a b):=by
 induction h with
 |nil=>intro i b e;simp at e
 |cons h _ ih=>
  intro i b e
  cases i with
  |zero=>simp at e;subst e;exact⟨_,rfl,h⟩
  |succ i=>simpa using ih (by simpa using e)
theorem set(h:Al R as bs):∀{i:Nat} {a b},R a b→Al R (as.set i a) (bs.set i b):=by
 induction h with
 |nil=>intro i a b _;exact .nil
 |cons h t ih=>
  intro i a b r
  cases i with
  |zero=>exact .cons r t
  |succ i=>exact .cons h (ih r)
theorem take(h:Al R as bs):∀(i:Nat),Al R (as.take i) (bs.take i):=by
 induction h with
 |nil=>intro i;simpa using .nil
 |cons h t ih=>
  intro i
  cases i with
  |zero=>exact .nil
  |succ i=>exact .cons h (ih i)
theorem drop(h:Al R as bs):∀(i:Nat),Al R (as.drop i) (bs.drop i):=by
 induction h with
 |nil=>intro i;simpa using .nil
 |cons h t ih=>
  intro i
  cases i with
  |zero=>exact .cons h t
  |succ i=>exact ih i
theorem erase(h:Al R as bs):∀(i:Nat),Al R (as.eraseIdx i) (bs.eraseIdx i):=by
 induction h with
 |nil=>intro i;simpa using .nil
 |cons h t ih=>
  intro i
  cases i with
  |zero=>exact t
  |succ i=>exact .cons h (ih i)
theorem rev(h:Al R as bs):Al R as.reverse bs.reverse:=by
 induction h with
 |nil=>exact .nil
 |cons h _ ih=>rw[List.reverse_cons,List.reverse_cons];exact ih.append (one h)
end Al
mutual
inductive Rd(P:Params)(g:Heap):Value→D→Prop
 |none:Rd P g .none .none
 |bool (b):Rd P g (.bool b) (.bool b)
 |int (i t):Rd P g (.int i t) (.int i)
 |str (l t):Rd P g (.str (so l) t) (.str l)
 |tup {a vs xs k}:IsT g a vs.toArray k→C3 P g vs xs→Rd P g (.ref a) (.tup xs)
 |lst {a vs xs k}:IsL g a vs.toArray k→C3 P g vs xs→Rd P g (.ref a) (.lst xs)
 |arg {a vs xs}:g.IsList a vs.toArray→C3 P g vs xs→Rd P g (.ref a) (.arg xs)
 |rng {a x y z t u v}:g.get? a=some {cls:=.type "range",data:=.fields #[.int x t,.int y u,.int z v]}→Rd P g (.ref a) (.rng x y z)
 |ty (T):Rd P g (.type T) (.ty T)
 |obj {a dx es n xs}:g.get? a=some (instObj 117 dx)→g.get? dx=some (dictOf es n)→ON P g es JI xs→Rd P g (.ref a) (.obj xs)
inductive C3(P:Params)(g:Heap):List Value→List D→Prop
 |nil:C3 P g [] []
 |cons {v vs x xs}:Rd P g v x→C3 P g vs xs→C3 P g (v::vs) (x::xs)
inductive ON(P:Params)(g:Heap):List DictEntry→List Str→List D→Prop
 |nil:ON P g [] [] []
 |cons {n t v x es ns xs}:Rd P g v x→ON P g es ns xs→ON P g (⟨PyData.keyHash P n,.str n t,v⟩::es) (n::ns) (x::xs)
end
inductive gK(P:Params)(g:Heap)(v:Value)(xs:List D):Prop
 |mk (a:Addr) (vs:List Value) (k:Nat):v=.ref a→IsL g a vs.toArray k→C3 P g vs xs→gK P g v xs
inductive il(P:Params)(g:Heap)(v:Value)(xs:List D):Prop
 |mk (a:Addr) (vs:List Value) (k:Nat):v=.ref a→IsT g a vs.toArray k→C3 P g vs xs→il P g v xs
inductive iy(P:Params)(g:Heap)(v:Value)(xs:List D):Prop
 |mk (a:Addr) (vs:List Value):v=.ref a→g.IsList a vs.toArray→C3 P g vs xs→iy P g v xs
inductive iz(g:Heap)(v:Value)(x y z:Int):Prop
 |mk (a:Addr) (t u w:Tok):v=.ref a→g.get? a=some {cls:=.type "range",data:=.fields #[.int x t,.int y u,.int z w]}→iz g v x y z
inductive i4(P:Params)(g:Heap)(v:Value)(xs:List D):Prop
 |mk (a dx:Addr) (es:List DictEntry) (n:Nat):v=.ref a→g.get? a=some (instObj 117 dx)→g.get? dx=some (dictOf es n)→ON P g es JI xs→i4 P g v xs
noncomputable def i5(P:Params)(g:Heap)(v:Value)(x:D):Prop:=D.casesOn (motive_1:=fun z0=>Prop) x (v=.none) (fun b=>v=.bool b) (fun i=>∃t,v=.int i t) (fun l=>∃t,v=.str (so l) t) (il P g v) (gK P g v) (i4 P g v) (iy P g v) (iz g v) (fun T=>v=.type T)
theorem Rd.is{P:Params}{g:Heap}{v:Value}{x:D}(h:Rd P g v x):i5 P g v x:=by
 cases h with
 |none=>exact rfl
 |bool=>exact rfl
 |int i t=>exact⟨t,rfl⟩
 |str l t=>exact⟨t,rfl⟩
 |tup h1 h2=>exact⟨_,_,_,rfl,h1,h2⟩
 |lst h1 h2=>exact⟨_,_,_,rfl,h1,h2⟩
 |arg h1 h2=>exact⟨_,_,rfl,h1,h2⟩
 |rng h=>exact⟨_,_,_,_,rfl,h⟩
 |ty=>exact rfl
 |obj h1 h2 h3=>exact⟨_,_,_,_,rfl,h1,h2,h3⟩
theorem Rd.invI{P:Params}{g:Heap}{v:Value}{i:Int}(h:Rd P g v (.int i)):∃t,v=.int i t:=h.is
theorem Rd.invS{P:Params}{g:Heap}{v:Value}{l:List Nat}(h:Rd P g v (.str l)):∃t,v=.str (so l) t:=h.is
theorem Rd.invT{P:Params}{g:Heap}{v:Value}{T:String}(h:Rd P g v (.ty T)):v=.type T:=h.is
theorem Rd.invB{P:Params}{g:Heap}{v:Value}{b:Bool}(h:Rd P g v (.bool b)):v=.bool b:=h.is
theorem Rd.invL{P:Params}{g:Heap}{v:Value}{xs:List D}(h:Rd P g v (.lst xs)):gK P g v xs:=h.is
theorem Rd.invTup{P:Params}{g:Heap}{v:Value}{xs:List D}(h:Rd P g v (.tup xs)):il P g v xs:=h.is
theorem Rd.invA{P:Params}{g:Heap}{v:Value}{xs:List D}(h:Rd P g v (.arg xs)):iy P g v xs:=h.is
theorem Rd.invR{P:Params}{g:Heap}{v:Value}{x y z:Int}(h:Rd P g v (.rng x y z)):iz g v x y z:=h.is
theorem Rd.invO{P:Params}{g:Heap}{v:Value}{xs:List D}(h:Rd P g v (.obj xs)):i4 P g v xs:=h.is
theorem C3.inv0{P:Params}{g:Heap}{vs:List Value}(h:C3 P g vs []):vs=[]:=by cases h;rfl
theorem C3.inv{P:Params}{g:Heap}{vs:List Value}{x:D}{xs:List D}(h:C3 P g vs (x::xs)):E2_3 (fun v r=>vs=v::r) (fun v r=>Rd P g v x) (fun v r=>C3 P g r xs):=by cases h with|cons h t=>exact⟨_,_,rfl,h,t⟩
theorem C3.all2{P:Params}{g:Heap}{vs:List Value}{xs:List D}(h:C3 P g vs xs):Al (Rd P g) vs xs:=C3.rec (motive_1:=fun z0 z0 z0=>True) (motive_2:=fun v x z0=>Al (Rd P g) v x) (motive_3:=fun z0 z0 z0 z0=>True) trivial (fun z0=>trivial) (fun z0 z0=>trivial) (fun z0 z0=>trivial) (fun z0 z0 z0=>trivial) (fun z0 z0 z0=>trivial) (fun z0 z0 z0=>trivial) (fun z0=>trivial) (fun z0=>trivial) (fun z0 z0 z0 z0=>trivial) .nil (fun h z0 z0 q=>.cons h q) trivial (fun z0 z0 z0 z0=>trivial) h
theorem C3.of{P:Params}{g:Heap}{vs:List Value}{xs:List D}(h:Al (Rd P g) vs xs):C3 P g vs xs:=by
 induction h with
 |nil=>exact .nil
 |cons h _ ih=>exact .cons h ih
theorem Rd.mono{P:Params}{g g':Heap}(k:∀b o,g.get? b=some o→g'.get? b=some o){v:Value}{x:D}(h:Rd P g v x):Rd P g' v x:=Rd.rec (motive_1:=fun v x z0=>Rd P g' v x) (motive_2:=fun v x z0=>C3 P g' v x) (motive_3:=fun es ns x z0=>ON P g' es ns x) Rd.none Rd.bool Rd.int Rd.str (fun h z0 q=>.tup (k _ _ h) q) (fun h z0 q=>.lst (k _ _ h) q) (fun h z0 q=>.arg (h.imp fun o z=>⟨k _ _ z.1,z.2⟩) q) (fun h=>.rng (k _ _ h)) Rd.ty (fun h h' z0 q=>.obj (k _ _ h) (k _ _ h') q) .nil (fun z0 z0 h q=>.cons h q) .nil (fun z0 z0 h q=>.cons h q) h
theorem C3.mono{P:Params}{g g':Heap}(k:∀b o,g.get? b=some o→g'.get? b=some o){v:List Value}{x:List D}(h:C3 P g v x):C3 P g' v x:=C3.rec (motive_1:=fun v x z0=>Rd P g' v x) (motive_2:=fun v x z0=>C3 P g' v x) (motive_3:=fun es ns x z0=>ON P g' es ns x) Rd.none Rd.bool Rd.int Rd.str (fun h z0 q=>.tup (k _ _ h) q) (fun h z0 q=>.lst (k _ _ h) q) (fun h z0 q=>.arg (h.imp fun o z=>⟨k _ _ z.1,z.2⟩) q) (fun h=>.rng (k _ _ h)) Rd.ty (fun h h' z0 q=>.obj (k _ _ h) (k _ _ h') q) .nil (fun z0 z0 h q=>.cons h q) .nil (fun z0 z0 h q=>.cons h q) h
noncomputable def CJ(P:Params)(g:Heap)(φ:Nat→Addr)(n:Nat)(v:Value):AV→Prop
 |.d x=>Rd P g v x
 |.lst i=>v=.ref (φ i)∧i<n
 |.obj c i=>EU (fun a=>v=.ref a) (fun a=>g.get? a=some (instObj c (φ i))) (fun a=>i<n)
noncomputable def dR(P:Params)(g:Heap)(φ:Nat→Addr)(n:Nat):Option Value→Option AV→Prop
 |some v,some av=>CJ P g φ n v av
 |none,none=>True
 |_,_=>False
noncomputable def M1(P:Params)(g:Heap)(φ:Nat→Addr)(n:Nat)(e:DictEntry)(x:Str×AV):Prop:=
 Gc (fun t v=>e=⟨PyData.keyHash P x.1,.str x.1 t,v⟩) (fun t v=>CJ P g φ n v x.2)
noncomputable def EV(P:Params)(g:Heap)(φ:Nat→Addr)(n:Nat)(h:Heap)(a:Addr):AK→Prop
 |.lst xs=>Gc (fun vs k=>IsL h a vs.toArray k) (fun vs k=>Al (CJ P g φ n) vs xs)
 |.dict fs=>Gc (fun es k=>h.get? a=some (dictOf es k)) (fun es k=>Al (M1 P g φ n) es fs)
noncomputable def JP(P:Params)(g:Heap)(φ:Nat→Addr)(n:Nat)(h:Heap)(a:Addr):FI→Prop
 |.ns m=>Aj (fun mm=>h.Ns a mm) (fun mm=>∀x av,m x=some av→Aj (fun v=>mm x=some v) (fun v=>CJ P g φ n v av))
 |.box o=>E2_3 (fun ob v=>h.get? a=some ob) (fun ob v=>ob.data=.cell v) (fun ob v=>dR P g φ n v o)
structure DK(P:Params)(g:Heap)(φ:Nat→Addr)(cs:List AK)(aux:List (Addr×FI))(h:Heap):Prop where
 sub:∀b o,g.get? b=some o→h.get? b=some o
 out:∀i,i<cs.length→g.get? (φ i)=none
 inj:∀i j,i<cs.length→j<cs.length→φ i=φ j→i=j
 cell:∀i c,cs[i]? =some c→EV P g φ cs.length h (φ i) c
 fi:∀p:Addr×FI,p∈aux→JP P g φ cs.length h p.1 p.2
 fiOut:∀p:Addr×FI,p∈aux→g.get? p.1=none∧∀i,i<cs.length→φ i≠p.1
 nodup:(aux.map (·.1)).Nodup
structure DH(la:List Addr)(g:Heap)(φ:Nat→Addr)(n:Nat)(h:Heap)(g':Heap)(φ':Nat→Addr)(n':Nat)(h':Heap):Prop where
 sub:∀b o,g.get? b=some o→g'.get? b=some o
 len:n≤n'
 eq:∀i,i<n→φ' i=φ i
 fresh:∀j,n≤j→j<n'→h.get? (φ' j)=none
 live:∀b o,h.get? b=some o→∃o',h'.get? b=some o'
 kept:∀b o,h.get? b=some o→(∀i,i<n→φ i≠b)→b∉la→h'.get? b=some o
 gnew:∀b,g.get? b=none→(∃o,h.get? b=some o)→(∀i,i<n→φ i≠b)→g'.get? b=none
theorem DH.refl(la:List Addr)(g:Heap)(φ:Nat→Addr)(n:Nat)(h:Heap):DH la g φ n h g φ n h:=
 ⟨fun z0 z0 e=>e,Nat.le_refl _,fun z0 z0=>rfl,fun j h1 h2=>absurd h2 (Nat.not_lt.mpr h1),fun z0 o e=>⟨o,e⟩,fun z0 z0 e z0 z0=>e,fun z0 e z0 z0=>e⟩
theorem DH.trans{la:List Addr}{g g' g'':Heap}{φ φ' φ'':Nat→Addr}{n n' n'':Nat}{h h' h'':Heap}(x:DH la g φ n h g' φ' n' h')(y:DH la g' φ' n' h' g'' φ'' n'' h''):DH la g φ n h g'' φ'' n'' h'' where
 sub b o e:=y.sub b o (x.sub b o e)
 len:=Nat.le_trans x.len y.len
 eq i hi:=(y.eq i (Nat.lt_of_lt_of_le hi x.len)).trans (x.eq i hi)
 fresh j h1 h2:=by
  by_cases q:j<n'
  ·rw[y.eq j q];exact x.fresh j h1 q
  ·have z:=y.fresh j (Nat.not_lt.mp q) h2
   cases e:h.get? (φ'' j) with
   |none=>rfl
   |some o=>obtain⟨o',e'⟩:=x.live _ _ e;rw[z] at e';cases e'
 live b o e:=let⟨o',e'⟩:=x.live b o e;y.live b o' e'
 kept b o e n1 n2:=y.kept b o (x.kept b o e n1 n2) (fun i hi=>by
  by_cases q:i<n
  ·rw[x.eq i q];exact n1 i q
  ·have:=x.fresh i (Nat.not_lt.mp q) hi
   exact fun z=>by rw[z] at this;rw[this] at e;cases e) n2
 gnew b e l n1:=by
  obtain⟨o,eo⟩:=l
  exact y.gnew b (x.gnew b e ⟨o,eo⟩ n1) (x.live b o eo) fun i hi=>by
   by_cases q:i<n
   ·rw[x.eq i q];exact n1 i q
   ·have:=x.fresh i (Nat.not_lt.mp q) hi
    exact fun z=>by rw[z] at this;rw[this] at eo;cases eo
theorem CJ.mono{P:Params}{g g':Heap}{φ φ':Nat→Addr}{n n':Nat}{v:Value}{a:AV}(h:CJ P g φ n v a)
  (k:∀b o,g.get? b=some o→g'.get? b=some o)(hn:n≤n')(hφ:∀i,i<n→φ' i=φ i):CJ P g' φ' n' v a:=by
 cases a with
 |d x=>exact Rd.mono k h
 |lst i=>exact⟨by rw[hφ i h.2];exact h.1,Nat.lt_of_lt_of_le h.2 hn⟩
 |obj c i=>obtain⟨a,e,o,l⟩:=h;exact⟨a,e,by rw[hφ i l];exact k _ _ o,Nat.lt_of_lt_of_le l hn⟩
theorem CJ.ext{P:Params}{la:List Addr}{g g':Heap}{φ φ':Nat→Addr}{n n':Nat}{h h':Heap}{v:Value}{a:AV}(q:CJ P g φ n v a)(x:DH la g φ n h g' φ' n' h'):CJ P g' φ' n' v a:=
 q.mono x.sub x.len x.eq
theorem Q7{P:Params}{la:List Addr}{g g':Heap}{φ φ':Nat→Addr}{n n':Nat}{h h':Heap}{v:List Value}{a:List AV}(q:Al (CJ P g φ n) v a)(x:DH la g φ n h g' φ' n' h'):Al (CJ P g' φ' n') v a:=
 q.mono fun z0 z0 z=>z.ext x
theorem EV.mono{P:Params}{g g':Heap}{φ φ':Nat→Addr}{n n':Nat}{h h':Heap}{a a':Addr}{c:AK}(q:EV P g φ n h a c)
  (k:∀b o,g.get? b=some o→g'.get? b=some o)(hn:n≤n')(hφ:∀i,i<n→φ' i=φ i)(e:∀o,h.get? a=some o→h'.get? a'=some o):EV P g' φ' n' h' a' c:=by
 cases c with
 |lst xs=>obtain⟨vs,m,ho,b⟩:=q;exact⟨vs,m,e _ ho,b.mono fun z0 z0 z=>z.mono k hn hφ⟩
 |dict fs=>obtain⟨es,n,ho,b⟩:=q;exact⟨es,n,e _ ho,b.mono fun _ _ ⟨t,v,z,z'⟩=>⟨t,v,z,z'.mono k hn hφ⟩⟩
theorem JP.mono{P:Params}{g g':Heap}{φ φ':Nat→Addr}{n n':Nat}{h h':Heap}{a:Addr}{c:FI}(q:JP P g φ n h a c)
  (k:∀b o,g.get? b=some o→g'.get? b=some o)(hn:n≤n')(hφ:∀i,i<n→φ' i=φ i)(e:∀o,h.get? a=some o→∃sl,h'.get? a=some {o with slots:=sl}):JP P g' φ' n' h' a c:=by
 cases c with
 |ns m=>
  obtain⟨mm,⟨o,es,ep,ho,r1,r⟩,b⟩:=q
  obtain⟨sl,ho'⟩:=e _ ho
  exact⟨mm,⟨_,es,ep,ho',r1,r⟩,fun x av hx=>let⟨v,z,z'⟩:=b x av hx;⟨v,z,z'.mono k hn hφ⟩⟩
 |box o=>
  obtain⟨ob,v,ho,hd,b⟩:=q
  obtain⟨sl,ho'⟩:=e _ ho
  refine⟨_,v,ho',hd,?_⟩
  cases v<;>cases o<;>first|exact b|exact CJ.mono b k hn hφ
theorem JP.there{P:Params}{g:Heap}{φ:Nat→Addr}{n:Nat}{h:Heap}{a:Addr}{c:FI}(q:JP P g φ n h a c):Aj (fun o=>h.get? a=some o) (fun o=>∀vs,o.data≠.fields vs):=by
 cases c with
 |ns m=>obtain⟨mm,⟨o,es,ep,ho,r1,r⟩,b⟩:=q;exact⟨o,ho,fun vs e=>by rw[r1] at e;cases e⟩
 |box o=>obtain⟨ob,v,ho,hd,b⟩:=q;exact⟨ob,ho,fun vs e=>by rw[hd] at e;cases e⟩
theorem EV.there{P:Params}{g:Heap}{φ:Nat→Addr}{n:Nat}{h:Heap}{a:Addr}{c:AK}(q:EV P g φ n h a c):Aj (fun o=>h.get? a=some o) (fun o=>∀vs,o.data≠.fields vs):=by
 cases c with
 |lst xs=>obtain⟨vs,m,ho,b⟩:=q;exact⟨_,ho,fun vs e=>by cases e⟩
 |dict fs=>obtain⟨es,n,ho,b⟩:=q;exact⟨_,ho,fun vs e=>by cases e⟩
theorem DK.there{P:Params}{g h:Heap}{φ:Nat→Addr}{cs:List AK}{aux:List (Addr×FI)}(I:DK P g φ cs aux h){i:Nat}(hi:i<cs.length):∃o,h.get? (φ i)=some o:=
 let⟨o,e,_⟩:=(I.cell i _ (List.getElem?_eq_getElem hi)).there;⟨o,e⟩
open Classical in
noncomputable def dS(h:Heap)(p:Addr→Prop):Heap:=
 ⟨h.objs.mapIdx fun i o=>if p i then o else⟨o.cls,o.dict,.freed,o.slots⟩,h.life⟩
theorem Fz{h:Heap}{p:Addr→Prop}{b:Addr}{o:Obj}:(dS h p).get? b=some o↔p b∧h.get? b=some o:=by
 classical
 rw[Heap.get?_some_iff,Heap.get?_some_iff]
 unfold dS
 simp only[Array.getElem?_mapIdx,Option.map_eq_some_iff]
 constructor
 ·rintro⟨⟨o',h1,h2⟩,h3⟩
  by_cases q:p b
  ·rw[if_pos q] at h2;subst h2;exact⟨q,h1,h3⟩
  ·rw[if_neg q] at h2;subst h2;simp[Obj.isFreed] at h3
 ·rintro⟨q,h1,h3⟩
  exact⟨⟨o,h1,if_pos q⟩,h3⟩
theorem Q8{h:Heap}{p:Addr→Prop}{b:Addr}(n:¬p b):(dS h p).get? b=none:=by
 cases q:(dS h p).get? b with
 |none=>rfl
 |some o=>exact absurd (Fz.mp q).1 n
section
variable {P:Params} {g h h':Heap} {φ:Nat→Addr} {cs:List AK} {aux:List (Addr×FI)}
noncomputable abbrev frz(g h':Heap)(p:Addr→Prop):Heap:=dS h' (fun b=>(g.get? b).isSome=true∨p b)
theorem Bv{p:Addr→Prop}(k:∀b o,g.get? b=some o→h'.get? b=some o):∀b o,g.get? b=some o→(frz g h' p).get? b=some o:=
 fun b o e=>Fz.mpr ⟨.inl (by rw[e];rfl),k b o e⟩
theorem DR{p:Addr→Prop}{b:Addr}{o:Obj}(q:p b)(e:h'.get? b=some o):(frz g h' p).get? b=some o:=Fz.mpr ⟨.inr q,e⟩
theorem Ba{p:Addr→Prop}{b:Addr}(e:g.get? b=none)(q:¬p b):(frz g h' p).get? b=none:=Q8 fun z=>z.elim (fun z=>by rw[e] at z;cases z) q
theorem DK.cellLt(I:DK P g φ cs aux h){i:Nat}{c:AK}(e:cs[i]? =some c):i<cs.length:=(List.getElem?_eq_some_iff.mp e).1
theorem DK.grow(I:DK P g φ cs aux h)(p:Addr→Prop)(hp:∀b,p b→h.get? b=none)(k:∀b o,h.get? b=some o→h'.get? b=some o):
  DK P (frz g h' p) φ cs aux h' where
 sub b o e:=(Fz.mp e).2
 out i hi:=Ba (I.out i hi) fun q=>by obtain⟨o,e⟩:=I.there hi;rw[hp _ q] at e;cases e
 inj:=I.inj
 cell i c e:=(I.cell i c e).mono (Bv fun b o e=>k b o (I.sub b o e)) (Nat.le_refl _) (fun z0 z0=>rfl) fun o e=>k _ _ e
 fi p hp:=(I.fi p hp).mono (Bv fun b o e=>k b o (I.sub b o e)) (Nat.le_refl _) (fun z0 z0=>rfl) fun o e=>⟨o.slots,k _ _ e⟩
 fiOut q hq:=⟨Ba (I.fiOut q hq).1 (fun z=>by obtain⟨o,e,_⟩:=(I.fi q hq).there;rw[hp _ z] at e;cases e),(I.fiOut q hq).2⟩
 nodup:=I.nodup
theorem DK.growExt(I:DK P g φ cs aux h)(la:List Addr)(p:Addr→Prop)(hp:∀b,p b→h.get? b=none)(k:∀b o,h.get? b=some o→h'.get? b=some o):
  DH la g φ cs.length h (frz g h' p) φ cs.length h':=
 ⟨Bv fun b o e=>k b o (I.sub b o e),Nat.le_refl _,fun z0 z0=>rfl,fun j h1 h2=>absurd h2 (Nat.not_lt.mpr h1),fun b o e=>⟨o,k b o e⟩,fun b o e z0 z0=>k b o e,fun b e l z0=>Ba e fun z=>by obtain⟨o,eo⟩:=l;rw[hp b z] at eo;cases eo⟩
theorem DK.keeps(I:DK P g φ cs aux h)(k:∀b o,h.get? b=some o→h'.get? b=some o):DK P g φ cs aux h' where
 sub b o e:=k b o (I.sub b o e)
 out:=I.out
 inj:=I.inj
 cell i c e:=(I.cell i c e).mono (fun z0 z0 e=>e) (Nat.le_refl _) (fun z0 z0=>rfl) fun o e=>k _ _ e
 fi p hp:=(I.fi p hp).mono (fun z0 z0 e=>e) (Nat.le_refl _) (fun z0 z0=>rfl) fun o e=>⟨o.slots,k _ _ e⟩
 fiOut:=I.fiOut
 nodup:=I.nodup
theorem DK.keepsExt(I:DK P g φ cs aux h)(la:List Addr)(k:∀b o,h.get? b=some o→h'.get? b=some o):
  DH la g φ cs.length h g φ cs.length h':=
 ⟨fun z0 z0 e=>e,Nat.le_refl _,fun z0 z0=>rfl,fun j h1 h2=>absurd h2 (Nat.not_lt.mpr h1),fun b o e=>⟨o,k b o e⟩,fun b o e z0 z0=>k b o e,fun z0 e z0 z0=>e⟩
theorem DK.beside(I:DK P g φ cs aux h)(k:∀b o,h.get? b=some o→((g.get? b).isSome=true∨(Aj (fun i=>i<cs.length) (fun i=>φ i=b))∨b∈aux.map (·.1))→h'.get? b=some o):DK P g φ cs aux h' where
 sub b o e:=k b o (I.sub b o e) (.inl (by rw[e];rfl))
 out:=I.out
 inj:=I.inj
 cell i c e:=(I.cell i c e).mono (fun z0 z0 e=>e) (Nat.le_refl _) (fun z0 z0=>rfl) fun o q=>k _ _ q (.inr (.inl ⟨i,I.cellLt e,rfl⟩))
 fi p hp:=(I.fi p hp).mono (fun z0 z0 e=>e) (Nat.le_refl _) (fun z0 z0=>rfl) fun o e=>⟨o.slots,k _ _ e (.inr (.inr (List.mem_map_of_mem hp)))⟩
 fiOut:=I.fiOut
 nodup:=I.nodup
noncomputable abbrev Dy(φ:Nat→Addr)(n:Nat)(a:Addr):Nat→Addr:=fun i=>if i=n then a else φ i
theorem DK.push(I:DK P g φ cs aux h)(p:Addr→Prop){a:Addr}(hp:∀b,p b→h.get? b=none∧b≠a)(k:∀b o,h.get? b=some o→h'.get? b=some o)
  (ha:h.get? a=none){c:AK}(hc:EV P (frz g h' p) (Dy φ cs.length a) (cs.length+1) h' a c):
  DK P (frz g h' p) (Dy φ cs.length a) (cs++[c]) aux h':=by
 have eq:∀i,i<cs.length→Dy φ cs.length a i=φ i:=fun i hi=>if_neg (Nat.ne_of_lt hi)
 have top:Dy φ cs.length a cs.length=a:=if_pos rfl
 have sub:∀b o,g.get? b=some o→(frz g h' p).get? b=some o:=Bv fun b o e=>k b o (I.sub b o e)
 have len:(cs++[c]).length=cs.length+1:=by simp
 have two:∀i,i<(cs++[c]).length→i<cs.length∨i=cs.length:=fun i hi=>by rw[len] at hi;lia
 have nota:∀i,i<cs.length→φ i≠a:=fun i hi z=>by obtain⟨o,e⟩:=I.there hi;rw[z,ha] at e;cases e
 have notf:∀{q:Addr×FI},q∈aux→∃o,h.get? q.1=some o:=fun hq=>let⟨o,e,_⟩:=(I.fi _ hq).there;⟨o,e⟩
 refine⟨fun b o e=>(Fz.mp e).2,fun i hi=>?_,fun i j hi hj=>?_,fun i c' e=>?_,fun q hq=>?_,fun q hq=>?_,I.nodup⟩
 ·rcases two i hi with q|q
  ·rw[eq i q];exact Ba (I.out i q) fun z=>by obtain⟨o,e⟩:=I.there q;rw[(hp _ z).1] at e;cases e
  ·rw[q,top]
   refine Ba ?_ fun z=>(hp _ z).2 rfl
   cases z:g.get? a with
   |none=>rfl
   |some o=>have:=I.sub _ _ z;rw[ha] at this;cases this
 ·rcases two i hi with q|q<;>rcases two j hj with r|r
  ·rw[eq i q,eq j r];exact I.inj i j q r
  ·rw[eq i q,r,top];intro e;exact absurd e (nota i q)
  ·rw[eq j r,q,top];intro e;exact absurd e.symm (nota j r)
  ·intro _;rw[q,r]
 ·rw[len]
  by_cases q:i<cs.length
  ·rw[List.getElem?_append_left q] at e
   exact(I.cell i c' e).mono sub (Nat.le_succ _) eq fun o e=>by rw[eq i q];exact k _ _ e
  ·have q':i=cs.length:=by have:=(List.getElem?_eq_some_iff.mp e).1;rw[len] at this;lia
   subst q'
   rw[List.getElem?_append_right (Nat.le_refl _),Nat.sub_self] at e
   cases e
   rw[top];exact hc
 ·rw[len];exact(I.fi q hq).mono sub (Nat.le_succ _) eq fun o e=>⟨o.slots,k _ _ e⟩
 ·refine⟨Ba (I.fiOut q hq).1 (fun z=>by obtain⟨o,e⟩:=notf hq;rw[(hp _ z).1] at e;cases e),fun i hi=>?_⟩
  rcases two i hi with r|r
  ·rw[eq i r];exact(I.fiOut q hq).2 i r
  ·rw[r,top];intro z;obtain⟨o,e⟩:=notf hq;rw[←z,ha] at e;cases e
theorem DK.pushExt(I:DK P g φ cs aux h)(la:List Addr)(p:Addr→Prop){a:Addr}(hp:∀b,p b→h.get? b=none)(k:∀b o,h.get? b=some o→h'.get? b=some o)(ha:h.get? a=none):
  DH la g φ cs.length h (frz g h' p) (Dy φ cs.length a) (cs.length+1) h':=
 ⟨Bv fun b o e=>k b o (I.sub b o e),Nat.le_succ _,fun i hi=>if_neg (Nat.ne_of_lt hi),fun j h1 h2=>by
  have:j=cs.length:=by lia
  subst this;show h.get? (if _ then _ else _)=_;rw[if_pos rfl];exact ha,fun b o e=>⟨o,k b o e⟩,fun b o e z0 z0=>k b o e,fun b e l z0=>Ba e fun z=>by obtain⟨o,eo⟩:=l;rw[hp b z] at eo;cases eo⟩
theorem DK.setCell(I:DK P g φ cs aux h){i:Nat}(hi:i<cs.length)(k:∀b o,b≠φ i→h.get? b=some o→h'.get? b=some o){c:AK}
  (hc:EV P g φ cs.length h' (φ i) c):DK P g φ (cs.set i c) aux h':=by
 have nf:∀b o,g.get? b=some o→b≠φ i:=fun b o e z=>by rw[z,I.out i hi] at e;cases e
 refine⟨fun b o e=>k b o (nf b o e) (I.sub b o e),fun j hj=>?_,fun j l hj hl=>?_,fun j c' e=>?_,fun q hq=>?_,fun q hq=>?_,I.nodup⟩
 ·rw[List.length_set] at hj;exact I.out j hj
 ·rw[List.length_set] at hj hl;exact I.inj j l hj hl
 ·rw[List.length_set]
  rw[List.getElem?_set] at e
  by_cases q:i=j
  ·subst q;rw[if_pos rfl,if_pos hi] at e;cases e;exact hc
  ·rw[if_neg q] at e
   have hj:=(List.getElem?_eq_some_iff.mp e).1
   exact(I.cell j c' e).mono (fun z0 z0 e=>e) (Nat.le_refl _) (fun z0 z0=>rfl) fun o e=>k _ _ (fun z=>q (I.inj j i hj hi z).symm) e
 ·rw[List.length_set]
  exact(I.fi q hq).mono (fun z0 z0 e=>e) (Nat.le_refl _) (fun z0 z0=>rfl) fun o e=>⟨o.slots,k _ _ (fun z=>(I.fiOut q hq).2 i hi z.symm) e⟩
 ·rw[List.length_set];exact I.fiOut q hq
theorem M2(la:List Addr){i n:Nat}(hi:i<n)(k:∀b o,b≠φ i→h.get? b=some o→h'.get? b=some o)(hs:∃o,h'.get? (φ i)=some o):
  DH la g φ n h g φ n h':=
 ⟨fun z0 z0 e=>e,Nat.le_refl _,fun z0 z0=>rfl,fun j h1 h2=>absurd h2 (Nat.not_lt.mpr h1),fun b o e=>by
  by_cases q:b=φ i
  ·rw[q];exact hs
  ·exact⟨o,k b o q e⟩,fun b o e n1 z0=>k b o (fun z=>n1 i hi z.symm) e,fun z0 e z0 z0=>e⟩
theorem DK.setFI{pre post:List (Addr×FI)}{a:Addr}{f f':FI}(I:DK P g φ cs (pre++(a,f)::post) h)(k:∀b o,b≠a→h.get? b=some o→h'.get? b=some o)
  (hc:JP P g φ cs.length h' a f'):DK P g φ cs (pre++(a,f')::post) h':=by
 have ma:(a,f)∈pre++(a,f)::post:=List.mem_append_right _ (.head _)
 have nd:=I.nodup
 simp only[List.map_append,List.map_cons] at nd
 have nd2:(a::(List.map (fun x=>x.fst) pre++List.map (fun x=>x.fst) post)).Nodup:=(List.perm_middle.nodup_iff).mp nd
 have nin:=(List.nodup_cons.mp nd2).1
 refine⟨fun b o e=>k b o (fun z=>by rw[z,(I.fiOut _ ma).1] at e;cases e) (I.sub b o e),I.out,I.inj,fun i c e=>?_,fun q hq=>?_,fun q hq=>?_,?_⟩
 ·exact(I.cell i c e).mono (fun z0 z0 e=>e) (Nat.le_refl _) (fun z0 z0=>rfl) fun o e'=>k _ _ ((I.fiOut _ ma).2 i (I.cellLt e)) e'
 ·rcases List.mem_append.mp hq with r|r
  ·exact(I.fi q (List.mem_append_left _ r)).mono (fun z0 z0 e=>e) (Nat.le_refl _) (fun z0 z0=>rfl) fun o e=>⟨o.slots,k _ _ (fun z=>nin (z▸List.mem_append_left _ (List.mem_map_of_mem r))) e⟩
  ·rcases List.mem_cons.mp r with rfl|r
   ·exact hc
   ·exact(I.fi q (List.mem_append_right _ (.tail _ r))).mono (fun z0 z0 e=>e) (Nat.le_refl _) (fun z0 z0=>rfl) fun o e=>⟨o.slots,k _ _ (fun z=>nin (z▸List.mem_append_right _ (List.mem_map_of_mem r))) e⟩
 ·rcases List.mem_append.mp hq with r|r
  ·exact I.fiOut q (List.mem_append_left _ r)
  ·rcases List.mem_cons.mp r with rfl|r
   ·have z:=I.fiOut (a,f) ma;exact z
   ·exact I.fiOut q (List.mem_append_right _ (.tail _ r))
 ·simpa only[List.map_append,List.map_cons] using nd
theorem Q9{la:List Addr}{n:Nat}{a:Addr}(ha:a∈la)(k:∀b o,b≠a→h.get? b=some o→h'.get? b=some o)(hs:∃o,h'.get? a=some o):
  DH la g φ n h g φ n h':=
 ⟨fun z0 z0 e=>e,Nat.le_refl _,fun z0 z0=>rfl,fun j h1 h2=>absurd h2 (Nat.not_lt.mpr h1),fun b o e=>by
  by_cases q:b=a
  ·rw[q];exact hs
  ·exact⟨o,k b o q e⟩,fun b o e z0 n2=>k b o (fun z=>n2 (z▸ha)) e,fun z0 e z0 z0=>e⟩
theorem DK.pushFI(I:DK P g φ cs aux h){a:Addr}{f:FI}(k:∀b o,h.get? b=some o→h'.get? b=some o)(ha:h.get? a=none)(hc:JP P g φ cs.length h' a f):
  DK P g φ cs ((a,f)::aux) h':=by
 have J:=I.keeps k
 refine⟨J.sub,J.out,J.inj,J.cell,fun q hq=>?_,fun q hq=>?_,?_⟩
 ·rcases List.mem_cons.mp hq with rfl|r
  ·exact hc
  ·exact J.fi q r
 ·rcases List.mem_cons.mp hq with rfl|r
  ·refine⟨?_,fun i hi z=>?_⟩
   ·cases z:g.get? a with
    |none=>rfl
    |some o=>have:=I.sub _ _ z;rw[ha] at this;cases this
   ·have z':φ i=a:=z
    obtain⟨o,e⟩:=I.there hi;rw[z',ha] at e;cases e
  ·exact J.fiOut q r
 ·rw[List.map_cons,List.nodup_cons]
  refine⟨fun z=>?_,I.nodup⟩
  obtain⟨q,hq,e⟩:=List.mem_map.mp z
  have e':q.1=a:=e
  obtain⟨o,e2,_⟩:=(I.fi q hq).there;rw[e',ha] at e2;cases e2
theorem DK.sublist{aux':List (Addr×FI)}(I:DK P g φ cs aux h)(s:aux'.Sublist aux):DK P g φ cs aux' h:=
 ⟨I.sub,I.out,I.inj,I.cell,fun q hq=>I.fi q (s.subset hq),fun q hq=>I.fiOut q (s.subset hq),I.nodup.sublist (s.map _)⟩
theorem DK.perm{aux':List (Addr×FI)}(I:DK P g φ cs aux h)(s:aux'.Perm aux):DK P g φ cs aux' h:=
 ⟨I.sub,I.out,I.inj,I.cell,fun q hq=>I.fi q (s.subset hq),fun q hq=>I.fiOut q (s.subset hq),(s.map _).nodup_iff.mpr I.nodup⟩
end
noncomputable def AV.lo(n:Nat):AV→Bool
 |.d _=>true|.lst i=>i<n|.obj _ i=>i<n
noncomputable def AK.lo(n:Nat):AK→Bool
 |.lst xs=>xs.all (AV.lo n)
 |.dict fs=>fs.all fun x=>x.2.lo n
noncomputable def clo(n:Nat)(cs:List AK):Bool:=cs.all (AK.lo n)
theorem CJ.lo{P:Params}{g:Heap}{φ:Nat→Addr}{n m:Nat}{v:Value}{a:AV}(q:CJ P g φ n v a)(l:a.lo m=true):CJ P g φ m v a:=by
 cases a with
 |d x=>exact q
 |lst i=>exact⟨q.1,of_decide_eq_true l⟩
 |obj c i=>obtain⟨x,e,o,_⟩:=q;exact⟨x,e,o,of_decide_eq_true l⟩
theorem aw{P:Params}{g:Heap}{φ:Nat→Addr}{n m:Nat}{vs:List Value}{xs:List AV}(q:Al (CJ P g φ n) vs xs)(l:xs.all (AV.lo m)=true):Al (CJ P g φ m) vs xs:=by
 induction q with
 |nil=>exact .nil
 |cons h _ ih=>
  rw[List.all_cons,Bool.and_eq_true] at l
  exact .cons (h.lo l.1) (ih l.2)
theorem ax{P:Params}{g:Heap}{φ:Nat→Addr}{n m:Nat}{vs:List DictEntry}{xs:List (Str×AV)}(q:Al (M1 P g φ n) vs xs)(l:(xs.all fun x=>x.2.lo m)=true):Al (M1 P g φ m) vs xs:=by
 induction q with
 |nil=>exact .nil
 |cons h _ ih=>
  rw[List.all_cons,Bool.and_eq_true] at l
  obtain⟨t,v,e,z⟩:=h
  exact .cons ⟨t,v,e,z.lo l.1⟩ (ih l.2)
theorem EV.lo{P:Params}{g:Heap}{φ:Nat→Addr}{n m:Nat}{h:Heap}{a:Addr}{c:AK}(q:EV P g φ n h a c)(l:c.lo m=true):EV P g φ m h a c:=by
 cases c with
 |lst xs=>obtain⟨vs,k,r,b⟩:=q;exact⟨vs,k,r,aw b l⟩
 |dict fs=>obtain⟨es,n,r,b⟩:=q;exact⟨es,n,r,ax b l⟩
theorem CJ.isLo{P:Params}{g:Heap}{φ:Nat→Addr}{n:Nat}{v:Value}{a:AV}(q:CJ P g φ n v a):a.lo n=true:=by
 cases a with
 |d x=>rfl
 |lst i=>exact decide_eq_true q.2
 |obj c i=>obtain⟨x,e,o,l⟩:=q;exact decide_eq_true l
noncomputable def FI.below(n:Nat):FI→Prop
 |.ns m=>∀x av,m x=some av→av.lo n=true
 |.box (some v)=>v.lo n=true
 |.box none=>True
theorem JP.isBelow{P:Params}{g:Heap}{φ:Nat→Addr}{n:Nat}{h:Heap}{a:Addr}{f:FI}(q:JP P g φ n h a f):f.below n:=by
 cases f with
 |ns m=>obtain⟨mm,r,b⟩:=q;intro x av e;obtain⟨v,z,z'⟩:=b x av e;exact z'.isLo
 |box o=>
  obtain⟨ob,v,r,d,b⟩:=q
  cases o with
  |none=>trivial
  |some av=>cases v with
   |none=>exact b.elim
   |some v=>exact CJ.isLo b
theorem JP.below{P:Params}{g:Heap}{φ:Nat→Addr}{n m:Nat}{h:Heap}{a:Addr}{f:FI}(q:JP P g φ n h a f)(l:f.below m):JP P g φ m h a f:=by
 cases f with
 |ns mm=>obtain⟨x,r,b⟩:=q;exact⟨x,r,fun y av e=>let⟨v,z,z'⟩:=b y av e;⟨v,z,z'.lo (l y av e)⟩⟩
 |box o=>
  obtain⟨ob,v,r,d,b⟩:=q
  refine⟨ob,v,r,d,?_⟩
  cases o with
  |none=>cases v<;>first|trivial|exact b.elim
  |some av=>cases v with
   |none=>exact b.elim
   |some v=>exact CJ.lo b l
noncomputable abbrev M3(g h:Heap)(φ:Nat→Addr)(n N:Nat):Heap:=frz g h (fun b=>EU (fun i=>n≤i) (fun i=>i<N) (fun i=>φ i=b))
theorem DK.freeze{P:Params}{g h:Heap}{φ:Nat→Addr}{cs:List AK}{aux:List (Addr×FI)}(I:DK P g φ cs aux h){n:Nat}(hn:n≤cs.length)(hc:clo n (cs.take n)=true)(ha:∀p:Addr×FI,p∈aux→p.2.below n):
  DK P (M3 g h φ n cs.length) φ (cs.take n) aux h:=by
 have len:(cs.take n).length=n:=by rw[List.length_take];lia
 have sub:=Bv (p:=fun b=>EU (fun i=>n≤i) (fun i=>i<cs.length) (fun i=>φ i=b)) I.sub
 refine⟨fun b o e=>(Fz.mp e).2,fun i hi=>?_,fun i j hi hj=>?_,fun i c e=>?_,fun q hq=>?_,fun q hq=>⟨Ba (I.fiOut q hq).1 ?_,fun i hi=>?_⟩,I.nodup⟩
 ·rw[len] at hi
  refine Ba (I.out i (by lia)) ?_
  rintro⟨j,h1,h2,h3⟩
  have:=I.inj j i h2 (by lia) h3
  lia
 ·rw[len] at hi hj;exact I.inj i j (by lia) (by lia)
 ·rw[len]
  have hi:i<n:=by have:=(List.getElem?_eq_some_iff.mp e).1;lia
  have e':cs[i]? =some c:=by rw[List.getElem?_take,if_pos hi] at e;exact e
  have l:c.lo n=true:=List.all_eq_true.mp hc c (List.mem_of_getElem? e)
  exact((I.cell i c e').mono sub (Nat.le_refl _) (fun z0 z0=>rfl) fun o e=>e).lo l
 ·rw[len];exact((I.fi q hq).mono sub (Nat.le_refl _) (fun z0 z0=>rfl) fun o e=>⟨o.slots,e⟩).below (ha q hq)
 ·rintro⟨i,h1,h2,h3⟩;exact(I.fiOut q hq).2 i h2 h3
 ·rw[len] at hi;exact(I.fiOut q hq).2 i (by lia)
noncomputable def Fu:List AV→Option (List D)
 |[]=>some []
 |.d x::r=>(Fu r).map (x:: ·)
 |_=>none
noncomputable def JQ(n:Nat)(cs:List AK):AV→Option D
 |.d x=>some x
 |.lst i=>if n≤i then(match cs[i]? with
   |some (.lst xs)=>(Fu xs).map D.lst
   |_=>none) else none
 |.obj _ _=>none
noncomputable def Hn(n:Nat)(cs:List AK):List Str→List (Str×AV)→Option (List D)
 |[],[]=>some []
 |x::ns,(y,v)::r=>if x=y then(match JQ n cs v,Hn n cs ns r with
   |some d,some ds=>some (d::ds)
   |_,_=>none) else none
 |_,_=>none
noncomputable def Tl(n:Nat)(cs:List AK):AV→Option D
 |.obj c i=>if c=117∧n≤i then(match cs[i]? with
   |some (.dict fs)=>(Hn n cs JI fs).map D.obj
   |_=>none) else none
 |v=>JQ n cs v
theorem F0{P:Params}{g:Heap}{φ:Nat→Addr}{n:Nat}{vs:List Value}{xs:List AV}(q:Al (CJ P g φ n) vs xs):∀{ds:List D},Fu xs=some ds→C3 P g vs ds:=by
 induction q with
 |nil=>intro ds e;cases e;exact .nil
 |@cons v a as bs h _ ih=>
  intro ds e
  cases a with
  |d x=>
   obtain⟨y,hy,rfl⟩:=Option.map_eq_some_iff.mp e
   exact .cons h (ih hy)
  |lst i=>cases e
  |obj c i=>cases e
set_option tactic.hygienic true in
theorem PU{P:Params}{g h:Heap}{φ:Nat→Addr}{cs:List AK}{aux:List (Addr×FI)}(I:DK P g φ cs aux h){n:Nat}{v:Value}{a:AV}{x:D}(hv:CJ P g φ cs.length v a)(e:JQ n cs a=some x):
  Rd P (M3 g h φ n cs.length) v x:=by
 have sub:=Bv (p:=fun b=>EU (fun i=>n≤i) (fun i=>i<cs.length) (fun i=>φ i=b)) I.sub
 cases a with
 |d y=>cases e;exact Rd.mono sub hv
 |lst i=>
  simp only[JQ] at e
  split at e
  ·rename_i hi
   split at e
   ·rename_i xs q
    obtain⟨ds,hd,rfl⟩:=Option.map_eq_some_iff.mp e
    obtain⟨vs,m,ho,b⟩:=I.cell i _ q
    obtain⟨rfl,hl⟩:=hv
    exact .lst (DR ⟨i,hi,hl,rfl⟩ ho) (C3.mono sub (F0 b hd))
   ·cases e
  ·cases e
 |obj c i=>cases e
theorem ay{P:Params}{g h:Heap}{φ:Nat→Addr}{cs:List AK}{aux:List (Addr×FI)}(I:DK P g φ cs aux h){n:Nat}{fs:List (Str×AV)}{es:List DictEntry}(q:Al (M1 P g φ cs.length) es fs):∀{ns:List Str} {xs:List D},
  Hn n cs ns fs=some xs→ON P (M3 g h φ n cs.length) es ns xs:=by
 induction q with
 |nil=>
  intro ns xs e
  cases ns with
  |nil=>cases e;exact .nil
  |cons=>exact nomatch e
 |@cons d f es fs hq _ ih=>
  intro ns xs e
  obtain⟨y,v⟩:=f
  cases ns with
  |nil=>exact nomatch e
  |cons x ns=>
   have e:(if x=y then(match JQ n cs v,Hn n cs ns fs with|some d,some ds=>some (d::ds)|_,_=>none) else none)=some xs:=e
   by_cases hxy:x=y
   ·rw[if_pos hxy] at e
    cases h1:JQ n cs v with
    |none=>rw[h1] at e;cases e
    |some d=>
     cases h2:Hn n cs ns fs with
     |none=>rw[h1,h2] at e;cases e
     |some ds=>
      rw[h1,h2] at e
      cases e
      obtain⟨t,v',q,z⟩:=hq
      subst q hxy
      exact .cons (PU I z h1) (ih h2)
   ·rw[if_neg hxy] at e;cases e
set_option tactic.hygienic true in
theorem Xr{P:Params}{g h:Heap}{φ:Nat→Addr}{cs:List AK}{aux:List (Addr×FI)}(I:DK P g φ cs aux h){n:Nat}{v:Value}{a:AV}{x:D}(hv:CJ P g φ cs.length v a)(e:Tl n cs a=some x):
  Rd P (M3 g h φ n cs.length) v x:=by
 cases a with
 |d y=>exact PU I hv e
 |lst i=>exact PU I hv e
 |obj c i=>
  simp only[Tl] at e
  split at e
  ·rename_i hi
   split at e
   ·rename_i q
    obtain⟨ds,hd,rfl⟩:=Option.map_eq_some_iff.mp e
    obtain⟨es,k,ho,b⟩:=I.cell i _ q
    obtain⟨a,rfl,hx,hl⟩:=hv
    obtain⟨rfl,hi⟩:=hi
    exact .obj (Fz.mpr ⟨.inl (by rw[hx];rfl),I.sub _ _ hx⟩) (DR ⟨i,hi,hl,rfl⟩ ho) (ay I b hd)
   ·cases e
  ·cases e
theorem WX{P:Params}{g h:Heap}{φ:Nat→Addr}{cs:List AK}{aux:List (Addr×FI)}(I:DK P g φ cs aux h):∀b o,g.get? b=some o→∀n,(M3 g h φ n cs.length).get? b=some o:=
 fun b o e n=>Bv (p:=fun b=>EU (fun i=>n≤i) (fun i=>i<cs.length) (fun i=>φ i=b)) I.sub b o e
structure St where
 cs:List AK
 m:Str→Option AV
 b:Str→Option AV
inductive R(α:Type) where
 |ok (a:α) (σ:St)|exc (σ:St)|stuck
noncomputable def R.bind{α β:Type}(r:R α)(f:α→St→R β):R β:=match r with
 |.ok a σ=>f a σ
 |.exc σ=>.exc σ
 |.stuck=>.stuck
structure BO where
 w:World
 A:Around
 env:Env
 L:Addr
 ba:List (Str×Addr)
 rest:List (Addr×FI)
 room:Nat
noncomputable abbrev BO.P(Γ:BO):Params:=Γ.w.params
noncomputable abbrev BO.M(Γ:BO):Model:=model pw Γ.w
noncomputable def BO.la(Γ:BO):List Addr:=Γ.ba.map (·.2)++Γ.L::Γ.rest.map (·.1)
noncomputable def BO.aux(Γ:BO)(m:Str→Option AV)(b:Str→Option AV):List (Addr×FI):=Γ.ba.map (fun p=>(p.2,FI.box (b p.1)))++(Γ.L,FI.ns m)::Γ.rest
noncomputable def RA(g:Heap):Prop:=∃mg mb,TopRead (qv pw) (looseW (qv pw) loose) mg mb g
structure OK(Γ:BO)(sc:Scope)(g:Heap):Prop where
 sce:Γ.env.scope=sc
 kind:sc.kind=.function
 loc:Γ.env.locals=Γ.L
 gl:Γ.env.globals=mainGlobals
 bi:Γ.env.builtins=builtinsNs
 bx:∀x a,(sc.names.lookup x=some .cell∨sc.names.lookup x=some .free)→Γ.ba.lookup x=some a→Γ.env.cells.lookup x=some a
 bn:(Γ.ba.map (·.1)).Nodup
 hnd:Γ.A.handled=none
 fr:E2_3 (fun e0 es=>Γ.A.frames=some (e0::es)) (fun e0 es=>Γ.env.frame=e0.frame) (fun e0 es=>∀e∈e0::es,e.scope.kind≠.module∧Aj (fun L=>e.frame=some L) (fun L=>L∈Γ.la))
 depth:Γ.A.depth+2*Γ.room≤900
 units:Γ.A.units+40*Γ.room≤9000
 wd:(KP Γ.w).In g
 top:RA g
theorem RA.mono{g g':Heap}(k:∀b o,g.get? b=some o→g'.get? b=some o)(x:RA g):RA g':=let⟨mg,mb,T⟩:=x;⟨mg,mb,T.keeps k⟩
theorem OK.mono{Γ:BO}{sc:Scope}{g g':Heap}(X:OK Γ sc g)(k:∀b o,g.get? b=some o→g'.get? b=some o):OK Γ sc g':=
 {X with wd:=X.wd.keeps k,top:=X.top.mono k}
structure CF(Γ:BO)(g:Heap)(φ:Nat→Addr)(σ:St)(h:Heap):Prop where
 inv:DK Γ.P g φ σ.cs (Γ.aux σ.m σ.b) h
theorem DH.dead{la:List Addr}{g g':Heap}{φ φ':Nat→Addr}{n n':Nat}{h h':Heap}(x:DH la g φ n h g' φ' n' h'):∀b,h'.get? b=none→h.get? b=none:=fun b e=>by
 cases q:h.get? b with
 |none=>rfl
 |some o=>obtain⟨o',e'⟩:=x.live b o q;rw[e] at e';cases e'
theorem A2(h:Heap):h.get? h.objs.size=none:=by
 cases q:h.get? h.objs.size with
 |none=>rfl
 |some o=>exact absurd (Heap.lt_size q) (Nat.lt_irrefl _)
structure Bn(s s':Shared):Prop where
 gens:s'.gens=s.gens
 os:s'.os=s.os
theorem Bn.refl(s:Shared):Bn s s:=⟨rfl,rfl⟩
theorem Bn.trans{s s' s'':Shared}(x:Bn s s')(y:Bn s' s''):Bn s s'':=⟨y.1.trans x.1,y.2.trans x.2⟩
inductive jq(g:Heap)(φ:Nat→Addr)(n:Nat)(h0:Heap)(a:Addr)(vs:Array Value)(h:Heap):Prop
 |mk (T:Addr) (oT:Obj) (ts:Array Value):vs[1]? =some (.ref T)→T≠a→h0.get? T=none→g.get? T=none→(∀i,i<n→φ i≠T)→h.get? T=some oT→oT.data=.fields ts→3<ts.size→jq g φ n h0 a vs h
inductive Dg(g:Heap)(φ:Nat→Addr)(n:Nat)(h0:Heap)(e:Value)(h:Heap):Prop
 |mk (a:Addr) (oe:Obj) (vs:Array Value):e=.ref a→h.get? a=some oe→oe.cls=.ref 197→oe.data=.fields vs→1<vs.size→h0.get? a=none→g.get? a=none→(∀i,i<n→φ i≠a)→(vs[1]? =some .none∨jq g φ n h0 a vs h)→Dg g φ n h0 e h
theorem Dg.keeps{g:Heap}{φ:Nat→Addr}{n:Nat}{h0 h h':Heap}{e:Value}(x:Dg g φ n h0 e h)(k:∀(a:Addr) (oe:Obj) (vs:Array Value),h.get? a=some oe→oe.data=.fields vs→h'.get? a=some oe):Dg g φ n h0 e h':=by
 obtain⟨a,oe,vs,x1,x2,x3,x4,x5,x6,x7,x8,x9⟩:=x
 exact⟨a,oe,vs,x1,k a oe vs x2 x4,x3,x4,x5,x6,x7,x8,x9.imp id fun⟨T,oT,ts,y1,y2,y3,y4,y5,y6,y7,y8⟩=>⟨T,oT,ts,y1,y2,y3,y4,y5,k T oT ts y6 y7,y7,y8⟩⟩
theorem Dg.weaken{g:Heap}{φ φ':Nat→Addr}{n n':Nat}{h0 h1:Heap}{e:Value}{h:Heap}(x:Dg g φ n h1 e h)(hn:n'≤n)(hl:∀b,h1.get? b=none→h0.get? b=none)(q:∀i,i<n'→φ' i=φ i):Dg g φ' n' h0 e h:=by
 obtain⟨a,oe,vs,x1,x2,x3,x4,x5,x6,x7,x8,x9⟩:=x
 refine⟨a,oe,vs,x1,x2,x3,x4,x5,hl _ x6,x7,fun i hi=>by rw[q i hi];exact x8 i (Nat.lt_of_lt_of_le hi hn),?_⟩
 rcases x9 with x9|⟨T,oT,ts,y1,y2,y3,y4,y5,y6,y7,y8⟩
 ·exact .inl x9
 ·exact .inr ⟨T,oT,ts,y1,y2,hl _ y3,y4,fun i hi=>by rw[q i hi];exact y5 i (Nat.lt_of_lt_of_le hi hn),y6,y7,y8⟩
section
variable {α β γ δ:Type}
noncomputable abbrev VV(α β:Type):=Heap→(Nat→Addr)→Nat→α→β→Prop
inductive GO(Γ:BO)(V:VV α β)(r:R β)(g:Heap)(φ:Nat→Addr)(n:Nat)(s:Shared)(a:α)(s':Shared):Prop
 |mk (b:β) (σ':St):r=.ok b σ'→∀(g':Heap) (φ':Nat→Addr),CF Γ g' φ' σ' s'.heap→DH Γ.la g φ n s.heap g' φ' σ'.cs.length s'.heap→V g' φ' σ'.cs.length a b→Bn s s'→GO Γ V r g φ n s a s'
inductive Et(Γ:BO)(r:R β)(g:Heap)(φ:Nat→Addr)(n:Nat)(s:Shared)(e:Value)(s':Shared):Prop
 |mk (σ':St):r=.exc σ'→∀(g':Heap) (φ':Nat→Addr),CF Γ g' φ' σ' s'.heap→DH Γ.la g φ n s.heap g' φ' σ'.cs.length s'.heap→Dg g' φ' σ'.cs.length s.heap e s'.heap→Bn s s'→Et Γ r g φ n s e s'
noncomputable def At(Γ:BO)(t:Sem α)(V:VV α β)(r:R β)(g:Heap)(φ:Nat→Addr)(n:Nat)(s:Shared):Prop:=
 wpAny Γ.M Γ.A t (GO Γ V r g φ n s) (Et Γ r g φ n s) s
noncomputable def KB(Γ:BO)(sc:Scope)(t:Sem α)(V:VV α β)(r:R β)(σ:St):Prop:=
 r≠.stuck→∀g φ s,OK Γ sc g→CF Γ g φ σ s.heap→At Γ t V r g φ σ.cs.length s
theorem At.bind{Γ:BO}{t:Sem α}{f:α→Sem γ}{V:VV α β}{V':VV γ δ}{r:R β}{k:β→St→R δ}{g:Heap}{φ:Nat→Addr}{n:Nat}{s:Shared}
  (h:At Γ t V r g φ n s)
  (hk:∀a b σ' g' φ' s',r=.ok b σ'→CF Γ g' φ' σ' s'.heap→DH Γ.la g φ n s.heap g' φ' σ'.cs.length s'.heap→V g' φ' σ'.cs.length a b→At Γ (f a) V' (k b σ') g' φ' σ'.cs.length s'):
  At Γ (t>>=f) V' (r.bind k) g φ n s:=by
 refine wpAny_bind (wpAny_mono h ?_ ?_)
 ·rintro a s' ⟨b,σ',rfl,g',φ',S,X,v,sm⟩
  refine wpAny_mono (hk a b σ' g' φ' s' rfl S X v) ?_ ?_
  ·rintro c s'' ⟨d,σ'',e,g'',φ'',S',X',v',sm'⟩
   exact⟨d,σ'',e,g'',φ'',S',X.trans X',v',sm.trans sm'⟩
  ·rintro e s'' ⟨σ'',q,g'',φ'',S',X',F,sm'⟩
   exact⟨σ'',q,g'',φ'',S',X.trans X',F.weaken (Nat.le_refl _) X.dead fun z0 z0=>rfl,sm.trans sm'⟩
 ·rintro e s' ⟨σ',rfl,g',φ',S,X,F,sm⟩
  exact⟨σ',rfl,g',φ',S,X,F,sm⟩
theorem At.still{Γ:BO}{t:Sem α}{V:VV α β}{g:Heap}{φ:Nat→Addr}{σ:St}{s:Shared}{b:β}(S:CF Γ g φ σ s.heap)
  (h:wpAny Γ.M Γ.A t (fun a s'=>s'.heap=s.heap∧Bn s s'∧V g φ σ.cs.length a b) (fun z0 z0=>False) s):At Γ t V (.ok b σ) g φ σ.cs.length s:=by
 refine wpAny_mono h ?_ fun z0 z0 x=>x.elim
 rintro a s' ⟨e,sm,v⟩
 exact⟨b,σ,rfl,g,φ,e▸S,e▸DH.refl ..,v,sm⟩
theorem At.pure{Γ:BO}{a:α}{V:VV α β}{g:Heap}{φ:Nat→Addr}{σ:St}{s:Shared}{b:β}(S:CF Γ g φ σ s.heap)(v:V g φ σ.cs.length a b):At Γ (Pure.pure a) V (.ok b σ) g φ σ.cs.length s:=
 At.still S (wpAny_pure ⟨rfl,Bn.refl _,v⟩)
theorem At.grows{Γ:BO}{t:Sem α}{V:VV α β}{g:Heap}{φ:Nat→Addr}{σ:St}{s:Shared}{b:β}(S:CF Γ g φ σ s.heap)
  (h:wpAny Γ.M Γ.A t (fun a s'=>(∀b o,s.heap.get? b=some o→s'.heap.get? b=some o)∧Bn s s'∧
   V (frz g s'.heap fun b=>s.heap.get? b=none) φ σ.cs.length a b) (fun z0 z0=>False) s):At Γ t V (.ok b σ) g φ σ.cs.length s:=by
 refine wpAny_mono h ?_ fun z0 z0 x=>x.elim
 rintro a s' ⟨k,sm,v⟩
 exact⟨b,σ,rfl,_,φ,⟨S.inv.grow (fun b=>s.heap.get? b=none) (fun z0 q=>q) k⟩,S.inv.growExt _ _ (fun z0 q=>q) k,v,sm⟩
end
noncomputable abbrev VA(Γ:BO):VV Value AV:=fun g φ n=>CJ Γ.P g φ n
noncomputable abbrev i6(Γ:BO):VV (List Value) (List AV):=fun g φ n=>Al (CJ Γ.P g φ n)
noncomputable abbrev i7{α:Type}:VV α α:=fun z0 z0 z0 a b=>a=b
noncomputable abbrev VT{α:Type}:VV α Unit:=fun z0 z0 z0 z0 z0=>True
theorem DT(Γ:BO)(m b:Str→Option AV):(Γ.aux m b).map (·.1)=Γ.la:=by
 unfold BO.aux BO.la
 rw[List.map_append,List.map_map,List.map_cons]
 rfl
theorem R.bind_ns{α β:Type}{r:R α}{k:α→St→R β}(h:r.bind k≠.stuck):r≠.stuck:=fun e=>h (by rw[e];rfl)
theorem R.bind_ok{α β:Type}{r:R α}{k:α→St→R β}{b:α}{σ:St}(h:r.bind k≠.stuck)(e:r=.ok b σ):k b σ≠.stuck:=by rw[e] at h;exact h
section
variable {α β γ δ:Type} {Γ:BO} {sc:Scope} {g:Heap} {φ:Nat→Addr} {n:Nat} {s:Shared}
theorem At.stand{p:Pos}{f:Unit→Sem α}{V:VV α β}{r:R β}(h:At Γ (f ()) V r g φ n s):At Γ (standAt p>>=f) V r g φ n s:=wpAny_bind (wpAny_standAt h)
theorem At.hold{vs:List Value}{t:Sem α}{V:VV α β}{r:R β}(h:At Γ t V r g φ n s):At Γ (holding vs t) V r g φ n s:=wpAny_holding h
theorem At.operate{vs:List Value}{t:Sem Value}{V:VV Value β}{r:R β}(h:At Γ t V r g φ n s):At Γ (operate vs t) V r g φ n s:=
 wpAny_bind (wpAny_holding (wpAny_mono h (fun a s' q=>wpAny_bind (wpAny_release (wpAny_pure q))) fun z0 z0 x=>x))
theorem At.ofEq{t t':Sem α}{V:VV α β}{r:R β}(e:t=t')(h:At Γ t' V r g φ n s):At Γ t V r g φ n s:=e▸h
end
noncomputable def A1(Γ:BO)(sc:Scope)(e:Expr)(f:St→R AV):Prop:=∀σ,KB Γ sc (eval e Γ.env) (VA Γ) (f σ) σ
noncomputable def Gw(Γ:BO)(sc:Scope)(e:Expr)(f:St→R Bool):Prop:=∀σ,KB Γ sc (isTrue e Γ.env (eval e Γ.env)) i7 (f σ) σ
noncomputable def Em(Γ:BO)(sc:Scope)(p:Pos)(es:List Expr)(f:St→R (List AV)):Prop:=(backTo p (starEach es Γ.env)).any (·.1)=false∧∀σ,KB Γ sc (spliced (backTo p (starEach es Γ.env))) (i6 Γ) (f σ) σ
noncomputable def cF(d:D):St→R AV:=fun σ=>.ok (.d d) σ
noncomputable def AB(x:Str):St→R AV:=fun σ=>match σ.m x with|some v=>.ok v σ|none=>.stuck
noncomputable def Aq(x:Str):St→R AV:=fun σ=>match σ.b x with|some v=>.ok v σ|none=>.stuck
noncomputable def AG(op:AV→AV→St→R AV)(f g:St→R AV):St→R AV:=fun σ=>(f σ).bind fun a σ=>(g σ).bind fun b σ=>op a b σ
section
variable {Γ:BO} {sc:Scope}
theorem Xs{k p}:A1 Γ sc (.Constant .none k p) (cF .none):=fun σ z0 g φ s X S=>At.pure S .none
theorem Xu{b k p}:A1 Γ sc (.Constant (.bool b) k p) (cF (.bool b)):=fun σ z0 g φ s X S=>At.pure S (.bool b)
theorem az{i k p}:A1 Γ sc (.Constant (.int i) k p) (cF (.int i)):=fun σ z0 g φ s X S=>
 At.still S (wpAny_Constant_int ⟨rfl,⟨rfl,rfl⟩,Rd.int _ _⟩)
theorem CF.ns{g:Heap}{φ:Nat→Addr}{σ:St}{h:Heap}(S:CF Γ g φ σ h):JP Γ.P g φ σ.cs.length h Γ.L (.ns σ.m):=S.inv.fi (Γ.L,.ns σ.m) (List.mem_append_right _ (.head _))
set_option tactic.hygienic true in
theorem JR{α:Type}{x:Str}{a:α}:∀{l:List (Str×α)},l.lookup x=some a→(x,a)∈l
 |(y,b)::l,e=>by
  rw[List.lookup_cons] at e
  split at e
  ·rename_i q;cases e;rw[beq_iff_eq.mp q];exact .head _
  ·exact .tail _ (JR e)
theorem CF.box{g:Heap}{φ:Nat→Addr}{σ:St}{h:Heap}(S:CF Γ g φ σ h){x:Str}{a:Addr}(e:Γ.ba.lookup x=some a):JP Γ.P g φ σ.cs.length h a (.box (σ.b x)):=
 S.inv.fi (a,.box (σ.b x)) (List.mem_append_left _ (List.mem_map.mpr ⟨(x,a),JR e,rfl⟩))
theorem a5{x:Str}{p:Pos}(hl:sc.names.lookup x=some .local)(hd:(x==("__debug__" :Str))=false:=by decide):A1 Γ sc (.Name x p) (AB x):=fun σ ns g φ s X S=>by
 obtain⟨mm,hn,hm⟩:=S.ns
 unfold AB at ns ⊢
 cases e:σ.m x with
 |none=>rw[e] at ns;exact absurd rfl ns
 |some v=>
  obtain⟨w,hw,hv⟩:=hm x v e
  refine At.still S (wpAny_Name (wpAny_loadName_local (by rw[X.sce];exact X.kind) (by show Γ.env.scope.names.lookup x=_;rw[X.sce];exact hl) (by rw[X.loc];exact hn) hw ⟨rfl,Bn.refl _,hv⟩) hd)
theorem Xv{x:Str}{p:Pos}(hl:sc.names.lookup x=some .cell)(hb:(Γ.ba.lookup x).isSome=true)(hd:(x==("__debug__" :Str))=false:=by decide):A1 Γ sc (.Name x p) (Aq x):=fun σ ns g φ s X S=>by
 obtain⟨a,ha⟩:=Option.isSome_iff_exists.mp hb
 obtain⟨ob,v,ho,hd',hv⟩:=S.box ha
 unfold Aq at ns ⊢
 cases e:σ.b x with
 |none=>rw[e] at ns;exact absurd rfl ns
 |some av=>
  rw[e] at hv
  cases v with
  |none=>exact hv.elim
  |some v=>
   exact At.still S (wpAny_Name (wpAny_loadName_cell (by rw[X.sce];exact X.kind) (by show Γ.env.scope.names.lookup x=_;rw[X.sce];exact hl) (X.bx x a (.inl hl) ha) ⟨ob,ho,hd'⟩ ⟨rfl,Bn.refl _,hv⟩) hd)
noncomputable def Hc(Γ:BO)(sc:Scope)(t:Value→Value→Sem Value)(F:AV→AV→St→R AV):Prop:=
 ∀σ va vb a b,F a b σ≠.stuck→∀g φ s,OK Γ sc g→CF Γ g φ σ s.heap→CJ Γ.P g φ σ.cs.length va a→CJ Γ.P g φ σ.cs.length vb b→At Γ (t va vb) (VA Γ) (F a b σ) g φ σ.cs.length s
noncomputable def im(Γ:BO)(sc:Scope)(t:Value→Sem Value)(F:AV→St→R AV):Prop:=
 ∀σ va a,F a σ≠.stuck→∀g φ s,OK Γ sc g→CF Γ g φ σ s.heap→CJ Γ.P g φ σ.cs.length va a→At Γ (t va) (VA Γ) (F a σ) g φ σ.cs.length s
noncomputable def JS(Γ:BO)(sc:Scope)(t:List Value→Sem Value)(F:List AV→St→R AV):Prop:=
 ∀σ va a,F a σ≠.stuck→∀g φ s,OK Γ sc g→CF Γ g φ σ s.heap→Al (CJ Γ.P g φ σ.cs.length) va a→At Γ (t va) (VA Γ) (F a σ) g φ σ.cs.length s
theorem a7{l r:Expr}{op:Operator}{p:Pos}{f h:St→R AV}{F:AV→AV→St→R AV}(hl:A1 Γ sc l f)(hr:A1 Γ sc r h)(ho:Hc Γ sc (binaryOp op) F):A1 Γ sc (.BinOp l op r p) (AG F f h):=fun σ ns g φ s X S=>by
 refine At.ofEq (arm_eval_BinOp ..) ?_
 refine At.bind (hl σ (R.bind_ns ns) g φ s X S) fun va a σ1 g1 φ1 s1 e1 S1 X1 v1=>?_
 have ns1:=R.bind_ok ns e1
 refine At.bind (At.hold (hr σ1 (R.bind_ns ns1) g1 φ1 s1 (X.mono X1.sub) S1)) fun vb b σ2 g2 φ2 s2 e2 S2 X2 v2=>?_
 have ns2:=R.bind_ok ns1 e2
 exact At.stand (At.operate (ho σ2 va vb a b ns2 g2 φ2 s2 ((X.mono X1.sub).mono X2.sub) S2 (v1.ext X2) v2))
theorem a9{l r:Expr}{op:CmpOp}{p:Pos}{f h:St→R AV}{F:AV→AV→St→R AV}(hl:A1 Γ sc l f)(hr:A1 Γ sc r h)(ho:Hc Γ sc (compareOp op) F)(hm:behindInMarks op r=false):A1 Γ sc (.Compare l [op] [r] p) (AG F f h):=fun σ ns g φ s X S=>by
 refine At.ofEq (arm_eval_Compare ..) ?_
 refine At.bind (hl σ (R.bind_ns ns) g φ s X S) fun va a σ1 g1 φ1 s1 e1 S1 X1 v1=>?_
 have ns1:=R.bind_ok ns e1
 show At Γ (compareChain p va [op] [markedBehindIn op r (eval r Γ.env)]) _ _ _ _ _ _
 rw[markedBehindIn_of_false hm]
 refine At.bind (At.hold (hr σ1 (R.bind_ns ns1) g1 φ1 s1 (X.mono X1.sub) S1)) fun vb b σ2 g2 φ2 s2 e2 S2 X2 v2=>?_
 have ns2:=R.bind_ok ns1 e2
 exact At.stand (At.operate (ho σ2 va vb a b ns2 g2 φ2 s2 ((X.mono X1.sub).mono X2.sub) S2 (v1.ext X2) v2))
noncomputable def OO:AV→St→R Bool
 |.d .none,σ=>.ok false σ
 |.d (.bool b),σ=>.ok b σ
 |_,_=>.stuck
end
noncomputable def ofO{α β:Type}(o:Option α)(k:α→R β):R β:=Option.rec .stuck k o
noncomputable def aOn(a:AV)(fi:Int→R AV)(fs:List Nat→R AV)(fl ft:List D→R AV)(fk:Nat→R AV):R AV:=AV.rec (fun x=>D.casesOn (motive_1:=fun z0=>R AV) x .stuck (fun z0=>.stuck) fi fs ft fl (fun z0=>.stuck) (fun z0=>.stuck) (fun z0 z0 z0=>.stuck) (fun z0=>.stuck)) fk (fun z0 z0=>.stuck) a
noncomputable def aI(a:AV):Option Int:=AV.rec (fun x=>D.casesOn (motive_1:=fun z0=>Option Int) x none (fun z0=>none) some (fun z0=>none) (fun z0=>none) (fun z0=>none) (fun z0=>none) (fun z0=>none) (fun z0 z0 z0=>none) (fun z0=>none)) (fun z0=>none) (fun z0 z0=>none) a
noncomputable def aS(a:AV):Option (List Nat):=AV.rec (fun x=>D.casesOn (motive_1:=fun z0=>Option (List Nat)) x none (fun z0=>none) (fun z0=>none) some (fun z0=>none) (fun z0=>none) (fun z0=>none) (fun z0=>none) (fun z0 z0 z0=>none) (fun z0=>none)) (fun z0=>none) (fun z0 z0=>none) a
noncomputable def aL(a:AV):Option (List D):=AV.rec (fun x=>D.casesOn (motive_1:=fun z0=>Option (List D)) x none (fun z0=>none) (fun z0=>none) (fun z0=>none) (fun z0=>none) some (fun z0=>none) (fun z0=>none) (fun z0 z0 z0=>none) (fun z0=>none)) (fun z0=>none) (fun z0 z0=>none) a
noncomputable def aM(a:AV):Option Nat:=AV.rec (fun z0=>none) some (fun z0 z0=>none) a
noncomputable def gL(l:List Nat):Option Nat:=List.rec none (fun c r z0=>List.rec (some c) (fun z0 z0 z0=>none) r) l
noncomputable def aC(a:AV):Option Nat:=(aS a).bind gL
noncomputable def i8(n:Int)(a:AV):Option Unit:=(aI a).bind fun i=>if i=n then some () else none
noncomputable def one(k:AV→St→R AV)(vs:List AV)(σ:St):R AV:=List.rec .stuck (fun a r z0=>List.rec (k a σ) (fun z0 z0 z0=>.stuck) r) vs
noncomputable def two(k:AV→AV→St→R AV)(vs:List AV)(σ:St):R AV:=List.rec .stuck (fun a r z0=>one (k a) r σ) vs
noncomputable def BL(cs:List AK)(i:Nat):Option (List AV):=(cs[i]?).bind fun c=>AK.rec some (fun z0=>none) c
theorem C4{cs:List AK}{i:Nat}{xs:List AV}(e:BL cs i=some xs):cs[i]? =some (.lst xs):=by
 obtain⟨c,q,h⟩:=Option.bind_eq_some_iff.mp e
 cases c with
 |lst=>cases h;exact q
 |dict=>cases h
theorem bA{l:List Nat}{c:Nat}(e:gL l=some c):l=[c]:=by
 cases l with
 |nil=>cases e
 |cons a r=>cases r with|nil=>cases e;rfl|cons b r=>cases e
section
variable {α β:Type} {Γ:BO} {sc:Scope} {g:Heap} {φ:Nat→Addr} {n:Nat} {s:Shared} {t:Sem α} {V:VV α β}
theorem Gd{P:Params}{v:Value}{a:AV}{i:Int}(h:CJ P g φ n v a)(e:aI a=some i):∃t,v=.int i t:=by
 cases a with
 |d x=>cases x with|int j=>cases e;exact Rd.invI h|_=>cases e
 |_=>cases e
theorem M4{P:Params}{v:Value}{a:AV}{l:List Nat}(h:CJ P g φ n v a)(e:aS a=some l):∃t,v=.str (so l) t:=by
 cases a with
 |d x=>cases x with|str j=>cases e;exact Rd.invS h|_=>cases e
 |_=>cases e
theorem cf{a:AV}{l:List D}(e:aL a=some l):a=.d (.lst l):=by
 cases a with
 |d x=>cases x with|lst j=>cases e;rfl|_=>cases e
 |_=>cases e
theorem Oo{P:Params}{v:Value}{a:AV}{l:List D}(h:CJ P g φ n v a)(e:aL a=some l):gK P g v l:=by rw[cf e] at h;exact Rd.invL h
theorem Xw{a:AV}{i:Nat}(e:aM a=some i):a=.lst i:=by
 cases a with
 |lst j=>cases e;rfl
 |_=>cases e
theorem RD{P:Params}{v:Value}{a:AV}{c:Nat}(h:CJ P g φ n v a)(e:aC a=some c):∃t,v=.str (so [c]) t:=by
 obtain⟨l,el,ec⟩:=Option.bind_eq_some_iff.mp e
 obtain rfl:=bA ec
 exact M4 h el
theorem Xx{P:Params}{v:Value}{a:AV}{i:Int}{u:Unit}(h:CJ P g φ n v a)(e:i8 i a=some u):∃t,v=.int i t:=by
 obtain⟨j,ej,ec⟩:=Option.bind_eq_some_iff.mp e
 by_cases q:j=i
 ·subst q;exact Gd h ej
 ·rw[if_neg q] at ec;cases ec
theorem At.ofO{γ:Type}{o:Option γ}{k:γ→R β}(ns:ofO o k≠.stuck)(h:∀x,o=some x→k x≠.stuck→At Γ t V (k x) g φ n s):At Γ t V (Mine.Internal.ofO o k) g φ n s:=by
 cases o with
 |none=>exact absurd rfl ns
 |some x=>exact h x rfl ns
theorem At.ite{c:Prop} [Decidable c]{r:R β}(ns:(if c then r else .stuck)≠.stuck)(h:c→r≠.stuck→At Γ t V r g φ n s):At Γ t V (if c then r else .stuck) g φ n s:=by
 by_cases q:c
 ·rw[if_pos q] at ns ⊢;exact h q ns
 ·exact absurd (if_neg q) ns
theorem At.aOn{t:Sem Value}{V:VV Value AV}{a:AV}{va:Value}{fi:Int→R AV}{fs:List Nat→R AV}{fl ft:List D→R AV}{fk:Nat→R AV}(ns:aOn a fi fs fl ft fk≠.stuck)(v:CJ Γ.P g φ n va a)
  (hi:∀i t',va=.int i t'→fi i≠.stuck→At Γ t V (fi i) g φ n s)(hs:∀l t',va=.str (so l) t'→fs l≠.stuck→At Γ t V (fs l) g φ n s)(hl:∀l,gK Γ.P g va l→fl l≠.stuck→At Γ t V (fl l) g φ n s)
  (ht:∀l,il Γ.P g va l→ft l≠.stuck→At Γ t V (ft l) g φ n s)(hk:∀k,va=.ref (φ k)→fk k≠.stuck→At Γ t V (fk k) g φ n s):At Γ t V (Mine.Internal.aOn a fi fs fl ft fk) g φ n s:=by
 cases a with
 |d x=>
  cases x with
  |int i=>obtain⟨t,e⟩:=Rd.invI v;exact hi i t e ns
  |str l=>obtain⟨t,e⟩:=Rd.invS v;exact hs l t e ns
  |lst l=>exact hl l (Rd.invL v) ns
  |tup l=>exact ht l (Rd.invTup v) ns
  |_=>exact absurd rfl ns
 |lst k=>exact hk k v.1 ns
 |obj=>exact absurd rfl ns
theorem At.one{t:Sem Value}{V:VV Value AV}{σ:St}{k:AV→St→R AV}{vs:List Value}{bs:List AV}(ns:one k bs σ≠.stuck)(hb:Al (CJ Γ.P g φ n) vs bs)(h:∀v a,vs=[v]→CJ Γ.P g φ n v a→k a σ≠.stuck→At Γ t V (k a σ) g φ n s):At Γ t V (Mine.Internal.one k bs σ) g φ n s:=by
 cases hb with
 |nil=>exact absurd rfl ns
 |cons hv r=>cases r with
  |nil=>exact h _ _ rfl hv ns
  |cons=>exact absurd rfl ns
theorem JS.one{t:List Value→Sem Value}{k:AV→St→R AV}(h:im Γ sc (fun v=>t [v]) k):JS Γ sc t (one k):=fun σ va a ns g φ s X S v=>
 At.one ns v fun w b e hw ns=>by subst e;exact h σ w b ns g φ s X S hw
theorem JS.two{t:List Value→Sem Value}{k:AV→AV→St→R AV}(h:Hc Γ sc (fun v w=>t [v,w]) k):JS Γ sc t (two k):=fun σ va a ns g φ s X S v=>by
 cases v with
 |nil=>exact absurd rfl ns
 |cons hv r=>exact At.one ns r fun w b e hw ns=>by subst e;exact h σ _ w _ b ns g φ s X S hv hw
end
noncomputable def big:Nat:=1000000
theorem Bu{n:Nat}(h:n≤big):n≤sizeLine:=by rw[sizeLine_eq];unfold big at h;lia
theorem EW(l:List Nat):(so l).length=l.length:=by simp[Str.length]
theorem Tm(a b:List Nat):so a++so b=so (a++b):=by
 apply Str.ext';simp[Str.cps_append]
theorem bB(l:List Nat):(so l).cps.toList=l:=by simp
mutual
noncomputable def MI:D→Option PyData
 |.none=>some .none
 |.bool b=>some (.bool b)
 |.int i=>some (.int i)
 |.str l=>some (.str (so l))
 |.tup xs=>(EX xs).map .tuple
 |.lst xs=>(EX xs).map .list
 |.obj _=>none
 |.arg _=>none
 |.rng _ _ _=>none
 |.ty _=>none
noncomputable def EX:List D→Option (List PyData)
 |[]=>some []
 |x::xs=>match MI x,EX xs with
  |some p,some ps=>some (p::ps)
  |_,_=>none
end
theorem M5{P:Params}{g h:Heap}(k:∀b o,g.get? b=some o→h.get? b=some o){v:Value}{x:D}(r:Rd P g v x):∀{p:PyData},MI x=some p→∃as,Reads h v p as:=
 Rd.rec (motive_1:=fun v x z0=>∀{p:PyData},MI x=some p→∃as,Reads h v p as) (motive_2:=fun v x z0=>∀{p:List PyData},EX x=some p→∃as,ReadsAll h v p as) (motive_3:=fun z0 z0 z0 z0=>True)
  (fun e=>by cases e;exact⟨_,.none⟩) (fun b z0 e=>by cases e;exact⟨_,.bool b⟩) (fun i t z0 e=>by cases e;exact⟨_,.int i t⟩) (fun l t z0 e=>by cases e;exact⟨_,.str _ t⟩)
  (fun hg z0 ih z0 e=>by
   obtain⟨ps,e1,rfl⟩:=Option.map_eq_some_iff.mp e
   obtain⟨as,q⟩:=ih e1
   exact⟨as,.tuple (k _ _ hg) rfl rfl (by rw[List.toList_toArray];exact q)⟩)
  (fun hg z0 ih z0 e=>by
   obtain⟨ps,e1,rfl⟩:=Option.map_eq_some_iff.mp e
   obtain⟨as,q⟩:=ih e1
   exact⟨_,.list (k _ _ hg) rfl rfl (by rw[List.toList_toArray];exact q)⟩)
  (fun z0 z0 z0 z0 e=>nomatch e) (fun z0 z0 e=>nomatch e) (fun z0 z0 e=>nomatch e) (fun z0 z0 z0 z0 z0 e=>nomatch e)
  (fun e=>by cases e;exact⟨_,.nil⟩)
  (fun{v vs x xs} _ _ i1 i2 _ e=>by
   have e:(match MI x,EX xs with|some p,some ps=>some (p::ps)|_,_=>none)=some _:=e
   cases e1:MI x with
   |none=>rw[e1] at e;cases e
   |some p=>
    cases e2:EX xs with
    |none=>rw[e1,e2] at e;cases e
    |some ps=>
     rw[e1,e2] at e
     cases e
     obtain⟨as,q⟩:=i1 e1
     obtain⟨bs,q'⟩:=i2 e2
     exact⟨_,.cons q q'⟩) trivial (fun z0 z0 z0 z0=>trivial) r
theorem bC{P:Params}{g h:Heap}(k:∀b o,g.get? b=some o→h.get? b=some o){vs:List Value}{xs:List D}(r:Al (Rd P g) vs xs):∀{ps:List PyData},EX xs=some ps→∃as,ReadsAll h vs ps as:=by
 induction r with
 |nil=>intro ps e;cases e;exact⟨_,.nil⟩
 |@cons v x vs xs hv _ ih=>
  intro qs e
  have e:(match MI x,EX xs with|some p,some ps=>some (p::ps)|_,_=>none)=some qs:=e
  cases e1:MI x with
  |none=>rw[e1] at e;cases e
  |some p=>
   cases e2:EX xs with
   |none=>rw[e1,e2] at e;cases e
   |some ps=>
    rw[e1,e2] at e
    cases e
    obtain⟨as,q⟩:=M5 k hv e1
    obtain⟨bs,q'⟩:=ih e2
    exact⟨_,.cons q q'⟩
theorem WY{P:Params}{g h:Heap}(k:∀b o,g.get? b=some o→h.get? b=some o){vs:List Value}{xs:List D}(r:C3 P g vs xs){ps:List PyData}(e:EX xs=some ps):∃as,ReadsAll h vs ps as:=bC k r.all2 e
noncomputable def He(cs:List AK):AV→Option D
 |.d x=>some x
 |.lst i=>match cs[i]? with
  |some (.lst xs)=>(Fu xs).map .lst
  |_=>none
 |.obj _ _=>none
set_option tactic.hygienic true in
theorem K7{P:Params}{g h:Heap}{φ:Nat→Addr}{cs:List AK}{aux:List (Addr×FI)}(I:DK P g φ cs aux h){v:Value}{a:AV}{x:D}{p:PyData}(hv:CJ P g φ cs.length v a)(e:He cs a=some x)(ep:MI x=some p):
  ∃as,Reads h v p as:=by
 cases a with
 |d y=>cases e;exact M5 I.sub hv ep
 |lst i=>
  simp only[He] at e
  split at e
  ·rename_i xs q
   obtain⟨ds,hd,rfl⟩:=Option.map_eq_some_iff.mp e
   obtain⟨vs,m,ho,b⟩:=I.cell i _ q
   obtain⟨rfl,hl⟩:=hv
   obtain⟨ps,e1,rfl⟩:=Option.map_eq_some_iff.mp ep
   obtain⟨as,z⟩:=WY I.sub (F0 b hd) e1
   exact⟨_,.list ho rfl rfl (by simpa using z)⟩
  ·cases e
 |obj c i=>cases e
section
variable {Γ:BO} {sc:Scope}
noncomputable def Ay(f:Int→Int→Option Int)(a b:AV)(σ:St):R AV:=ofO (aI a) fun x=>ofO (aI b) fun y=>ofO (f x y) fun c=>.ok (.d (.int c)) σ
noncomputable def K8(a b:Int):Option Int:=some (a-b)
noncomputable def JD(a b:Int):Option Int:=if b.natAbs<2^63 then some (a*b) else none
noncomputable def M6(a b:Int):Option Int:=if b≠0∧b.natAbs<2^30 then some (a.fdiv b) else none
noncomputable def Ge(a b:Int):Option Int:=if b≠0 then some (a.fmod b) else none
noncomputable def PV(a b:Int):Option Int:=if 0≤b∧b≤1000∧a.natAbs<2^64 then some (a^b.toNat) else none
theorem Ho{t:Value→Value→Sem Value}{f:Int→Int→Option Int}
  (h:∀a b c ta tb,f a b=some c→∀(Q:Value→Shared→Prop) (s:Shared),Q (.int c s.toks) {s with toks:=s.toks+1}→wpAny Γ.M Γ.A (t (.int a ta) (.int b tb)) Q (fun z0 z0=>False) s):Hc Γ sc t (Ay f):=
 fun σ va vb a b ns g φ s X S v1 v2=>At.ofO ns fun x ex ns=>At.ofO ns fun y ey ns=>At.ofO ns fun c e z0=>by
  obtain⟨ta,rfl⟩:=Gd v1 ex
  obtain⟨tb,rfl⟩:=Gd v2 ey
  exact At.still S (h x y c ta tb e _ s ⟨rfl,⟨rfl,rfl⟩,.int _ _⟩)
theorem dT:Hc Γ sc (binaryOp .Sub) (Ay K8):=Ho fun a b c ta tb e Q s h=>by cases e;exact SiftDown.sub_int h
set_option tactic.hygienic true in
theorem dU:Hc Γ sc (binaryOp .Mod) (Ay Ge):=Ho fun a b c ta tb e Q s h=>by
 unfold Ge at e;split at e
 ·rename_i hb;cases e;exact PyProof.Rows.mod_int hb h
 ·cases e
set_option tactic.hygienic true in
theorem dW:Hc Γ sc (binaryOp .Mult) (Ay JD):=Ho fun a b c ta tb e Q s h=>by
 unfold JD at e;split at e
 ·rename_i hb;cases e;exact PyProof.Rows.mul_int h (IntMulOk.of_right (intBits_le_64 (by lia) (by lia)))
 ·cases e
set_option tactic.hygienic true in
theorem dX:Hc Γ sc (binaryOp .FloorDiv) (Ay M6):=Ho fun a b c ta tb e Q s h=>by
 unfold M6 at e;split at e
 ·rename_i hb;cases e;exact PyProof.Rows.floordiv_int hb.1 h (Or.inl (PyProof.noPylong_small (by lia)))
 ·cases e
set_option tactic.hygienic true in
theorem dY:Hc Γ sc (binaryOp .Pow) (Ay PV):=Ho fun a b c ta tb e Q s h=>by
 unfold PV at e;split at e
 ·rename_i hb;cases e;exact PyProof.Rows.pow_int_small hb.1 (by lia) hb.2.2 h
 ·cases e
theorem At.new1{t:Sem Value}{g:Heap}{φ:Nat→Addr}{σ:St}{s:Shared}(S:CF Γ g φ σ s.heap){o:Obj}{x:D}(hf:o.isFreed=false)
  (hx:∀g':Heap,(∀b o,g.get? b=some o→g'.get? b=some o)→g'.get? s.heap.objs.size=some o→Rd Γ.P g' (.ref s.heap.objs.size) x)
  (h:∀Q:Value→Shared→Prop,(∀tk,Q (.ref s.heap.objs.size) {s with heap:=s.heap.push o,toks:=tk})→wpAny Γ.M Γ.A t Q (fun z0 z0=>False) s):At Γ t (VA Γ) (.ok (.d x) σ) g φ σ.cs.length s:=
 At.grows S (h _ fun tk=>⟨fun b o' e=>Heap.get?_push_of_some _ e,⟨rfl,rfl⟩,hx _ (Bv fun b o' e=>Heap.get?_push_of_some _ (S.inv.sub b o' e)) (DR (A2 _) (Heap.get?_push_size _ hf))⟩)
noncomputable def As(a b:AV)(σ:St):R AV:=aOn a (fun i=>ofO (aI b) fun j=>.ok (.d (.int (i+j))) σ) (fun l=>ofO (aS b) fun m=>if l.length+m.length≤big then .ok (.d (.str (l++m))) σ else .stuck)
 (fun l=>ofO (aL b) fun m=>if l.length+m.length≤big then .ok (.d (.lst (l++m))) σ else .stuck) (fun z0=>.stuck) (fun z0=>.stuck)
theorem Vb{P:Params}{g:Heap}{vs ws:List Value}{xs ys:List D}(a:C3 P g vs xs)(b:C3 P g ws ys):C3 P g (vs++ws) (xs++ys):=C3.of (a.all2.append b.all2)
theorem C3.len{P:Params}{g:Heap}{vs:List Value}{xs:List D}(a:C3 P g vs xs):vs.length=xs.length:=a.all2.length
theorem dZ:Hc Γ sc (binaryOp .Add) As:=fun σ va vb a b ns g φ s X S v1 v2=>
 At.aOn ns v1 (fun i t ea ns=>At.ofO ns fun j ej z0=>by
   obtain⟨u,rfl⟩:=Gd v2 ej
   subst ea
   exact At.still S (PyProof.Rows.add_int ⟨rfl,⟨rfl,rfl⟩,.int _ _⟩))
  (fun l t ea ns=>At.ofO ns fun m em ns=>At.ite ns fun hl z0=>by
   obtain⟨u,rfl⟩:=M4 v2 em
   subst ea
   refine At.still S (PyProof.Rows.add_str (fun t' tk=>⟨rfl,⟨rfl,rfl⟩,?_⟩) (by rw[EW,EW];exact Bu hl))
   rw[Tm];exact .str _ _)
  (fun l r ns=>At.ofO ns fun m em ns=>At.ite ns fun hl z0=>by
   obtain⟨_,_,_,rfl,h1,r1⟩:=r
   obtain⟨_,_,_,rfl,h2,r2⟩:=Oo v2 em
   exact At.new1 S rfl (fun g' k e=>Rd.lst (k:=0) (by rw[←List.append_toArray];exact e) (Vb (C3.mono k r1) (C3.mono k r2)))
    fun Q q=>P.add_list (S.inv.sub _ _ h1) (S.inv.sub _ _ h2) (q _) (by rw[List.size_toArray,List.size_toArray,r1.len,r2.len];exact Bu hl))
  (fun z0 z0 ns=>absurd rfl ns) fun z0 z0 ns=>absurd rfl ns
noncomputable def CC(f:Int→Int→Bool)(a b:AV)(σ:St):R AV:=ofO (aI a) fun x=>ofO (aI b) fun y=>.ok (.d (.bool (f x y))) σ
theorem Mj{t:Value→Value→Sem Value}{f:Int→Int→Bool}
  (h:∀a b ta tb,∀(Q:Value→Shared→Prop) (s:Shared),Q (.bool (f a b)) s→wpAny Γ.M Γ.A (t (.int a ta) (.int b tb)) Q (fun z0 z0=>False) s):Hc Γ sc t (CC f):=
 fun σ va vb a b ns g φ s X S v1 v2=>At.ofO ns fun x ex ns=>At.ofO ns fun y ey ns=>by
  obtain⟨ta,rfl⟩:=Gd v1 ex
  obtain⟨tb,rfl⟩:=Gd v2 ey
  exact At.still S (h x y ta tb _ s ⟨rfl,Bn.refl _,.bool _⟩)
theorem gN:Hc Γ sc (compareOp .Lt) (CC fun a b=>decide (a<b)):=Mj fun a b ta tb Q s h=>wpAny_lt_int h
theorem gO:Hc Γ sc (compareOp .Gt) (CC fun a b=>decide (a>b)):=Mj fun a b ta tb Q s h=>SiftDown.gt_int h
theorem gP:Hc Γ sc (compareOp .LtE) (CC fun a b=>decide (a≤b)):=Mj fun a b ta tb Q s h=>PyProof.Rows.le_int h
theorem gQ:Hc Γ sc (compareOp .GtE) (CC fun a b=>decide (b≤a)):=Mj fun a b ta tb Q s h=>PyProof.Rows.ge_int h
noncomputable def OP(cs:List AK)(a b:AV):Option Bool:=match He cs a,He cs b with
 |some x,some y=>match MI x,MI y with
  |some p,some q=>if SeqAt.shaped p&&SeqAt.shaped q then some (PyData.eqv p q) else none
  |_,_=>none
 |_,_=>none
noncomputable def C5(a b:AV)(σ:St):R AV:=ofO (OP σ.cs a b) fun r=>.ok (.d (.bool r)) σ
noncomputable def Iq(a b:AV)(σ:St):R AV:=ofO (OP σ.cs a b) fun r=>.ok (.d (.bool (!r))) σ
inductive i9(cs:List AK)(a b:AV)(r:Bool):Prop
 |mk (x y:D) (p q:PyData):He cs a=some x→He cs b=some y→MI x=some p→MI y=some q→SeqAt.shaped p=true→SeqAt.shaped q=true→r=PyData.eqv p q→i9 cs a b r
set_option tactic.hygienic true in
theorem cg{cs:List AK}{a b:AV}{r:Bool}(e:OP cs a b=some r):i9 cs a b r:=by
 unfold OP at e
 split at e
 ·rename_i x y e1 e2
  split at e
  ·rename_i p q e3 e4
   split at e
   ·rename_i hs
    rw[Bool.and_eq_true] at hs
    cases e
    exact⟨x,y,p,q,e1,e2,e3,e4,hs.1,hs.2,rfl⟩
   ·cases e
  ·cases e
 ·cases e
theorem Xy{P:Params}{g h:Heap}{φ:Nat→Addr}{cs:List AK}{aux:List (Addr×FI)}(I:DK P g φ cs aux h){va vb:Value}{a b:AV}{r:Bool}(e:OP cs a b=some r)(v1:CJ P g φ cs.length va a)(v2:CJ P g φ cs.length vb b):
  E4_5 (fun p q as bs=>Reads h va p as) (fun p q as bs=>Reads h vb q bs) (fun p q as bs=>SeqAt.shaped p=true) (fun p q as bs=>SeqAt.shaped q=true) (fun p q as bs=>r=PyData.eqv p q):=by
 obtain⟨x,y,p,q,e1,e2,e3,e4,s1,s2,hr⟩:=cg e
 obtain⟨as,ra⟩:=K7 I v1 e1 e3
 obtain⟨bs,rb⟩:=K7 I v2 e2 e4
 exact⟨p,q,as,bs,ra,rb,s1,s2,hr⟩
theorem OK.room{g:Heap}(X:OK Γ sc g):Γ.A.units+64<cLine:=by have:=X.units;have:cLine=9900:=cLine_is;lia
theorem gR:Hc Γ sc (compareOp .Eq) C5:=fun σ va vb a b ns g φ s X S v1 v2=>At.ofO ns fun r e z0=>by
 obtain⟨p,q,as,bs,ra,rb,s1,s2,rfl⟩:=Xy S.inv e v1 v2
 exact At.still S (eq_dataH ra rb s1 s2 X.room ⟨rfl,Bn.refl _,.bool _⟩)
theorem gS:Hc Γ sc (compareOp .NotEq) Iq:=fun σ va vb a b ns g φ s X S v1 v2=>At.ofO ns fun r e z0=>by
 obtain⟨p,q,as,bs,ra,rb,s1,s2,rfl⟩:=Xy S.inv e v1 v2
 exact At.still S (ne_dataH ra rb s1 s2 X.room ⟨rfl,Bn.refl _,.bool _⟩)
noncomputable def KC:AV→Bool
 |.d .none=>true
 |_=>false
theorem KD{P:Params}{g:Heap}{φ:Nat→Addr}{n:Nat}{v:Value}{a:AV}(q:CJ P g φ n v a):(v==Value.none)=KC a:=by
 cases a with
 |d x=>cases q<;>rfl
 |lst i=>rw[q.1];rfl
 |obj c i=>obtain⟨x,rfl,_⟩:=q;rfl
noncomputable def bD(a b:AV)(σ:St):R AV:=if KC b=true then .ok (.d (.bool (KC a))) σ else .stuck
noncomputable def Tn(a b:AV)(σ:St):R AV:=if KC b=true then .ok (.d (.bool (!KC a))) σ else .stuck
theorem gT:Hc Γ sc (compareOp .Is) bD:=fun σ va vb a b ns g φ s X S v1 v2=>At.ite ns fun h z0=>by
 obtain rfl:vb=.none:=eq_of_beq ((KD v2).trans h)
 exact At.still S (PyProof.Rows.is_none_gen ⟨rfl,Bn.refl _,by rw[KD v1];exact .bool _⟩)
theorem Xz:Hc Γ sc (compareOp .IsNot) Tn:=fun σ va vb a b ns g φ s X S v1 v2=>At.ite ns fun h z0=>by
 obtain rfl:vb=.none:=eq_of_beq ((KD v2).trans h)
 exact At.still S (PyProof.Rows.isnot_none_gen ⟨rfl,Bn.refl _,by rw[KD v1];exact .bool _⟩)
end
section
variable {Γ:BO} {sc:Scope}
theorem At.truthy{g:Heap}{φ:Nat→Addr}{σ:St}{s:Shared}{v:Value}{a:AV}(ns:OO a σ≠.stuck)(S:CF Γ g φ σ s.heap)(hv:CJ Γ.P g φ σ.cs.length v a):At Γ (truthy v) i7 (OO a σ) g φ σ.cs.length s:=by
 unfold OO at ns ⊢
 split at ns
 ·cases hv;exact At.still S (show wpAny _ _ (Pure.pure false:Sem Bool) _ _ _ from wpAny_pure ⟨rfl,Bn.refl _,rfl⟩)
 ·cases hv;exact At.still S (wpAny_truthy_bool ⟨rfl,Bn.refl _,rfl⟩)
 ·exact absurd rfl ns
noncomputable def BQ(f:St→R AV):St→R Bool:=fun σ=>(f σ).bind OO
theorem X7{e:Expr}{f:St→R AV}(h:A1 Γ sc e f)(he:∀env whole,isTrue e env whole=(do let v ←whole;standAt e.pos;holding [v] (truthy v)):=by intro _ _;rfl):Gw Γ sc e (BQ f):=fun σ ns g φ s X S=>by
 refine At.ofEq (he _ _) ?_
 refine At.bind (h σ (R.bind_ns ns) g φ s X S) fun va a σ1 g1 φ1 s1 e1 S1 X1 v1=>?_
 exact At.stand (At.hold (At.truthy (R.bind_ok ns e1) S1 v1))
noncomputable def K9(f:St→R Bool):St→R Bool:=fun σ=>(f σ).bind fun b σ=>.ok (!b) σ
theorem X8{e:Expr}{p:Pos}{f:St→R Bool}(h:Gw Γ sc e f):Gw Γ sc (.UnaryOp .Not e p) (K9 f):=fun σ ns g φ s X S=>by
 refine At.ofEq (arm_isTrue_UnaryOp e p Γ.env _) ?_
 refine At.bind (h σ (R.bind_ns ns) g φ s X S) fun va a σ1 g1 φ1 s1 e1 S1 X1 v1=>?_
 subst v1
 exact At.pure S1 rfl
theorem X9{l r:Expr}{op:CmpOp}{p:Pos}{f h:St→R AV}{F:AV→AV→St→R AV}(hl:A1 Γ sc l f)(hr:A1 Γ sc r h)(ho:Hc Γ sc (compareOp op) F)(hm:behindInMarks op r=false):Gw Γ sc (.Compare l [op] [r] p) (BQ (AG F f h)):=fun σ ns g φ s X S=>by
 refine At.ofEq (arm_isTrue_Compare l [op] [r] p Γ.env _) ?_
 unfold BQ AG at ns ⊢
 have ea:((f σ).bind fun a σ=>(h σ).bind fun b σ=>F a b σ).bind OO=(f σ).bind fun a σ=>(h σ).bind fun b σ=>(F a b σ).bind OO:=by
  cases f σ with
  |ok a σ1=>show((h σ1).bind _).bind _=(h σ1).bind _;cases h σ1<;>rfl
  |exc=>rfl
  |stuck=>rfl
 rw[ea] at ns ⊢
 refine At.bind (hl σ (R.bind_ns ns) g φ s X S) fun va a σ1 g1 φ1 s1 e1 S1 X1 v1=>?_
 have ns1:=R.bind_ok ns e1
 show At Γ (testChain p va [op] [markedBehindIn op r (eval r Γ.env)]) _ _ _ _ _ _
 rw[markedBehindIn_of_false hm]
 refine At.bind (At.hold (hr σ1 (R.bind_ns ns1) g1 φ1 s1 (X.mono X1.sub) S1)) fun vb b σ2 g2 φ2 s2 e2 S2 X2 v2=>?_
 have ns2:=R.bind_ok ns1 e2
 refine At.stand (At.bind (At.operate (ho σ2 va vb a b (R.bind_ns ns2) g2 φ2 s2 ((X.mono X1.sub).mono X2.sub) S2 (v1.ext X2) v2)) fun vc c σ3 g3 φ3 s3 e3 S3 X3 v3=>?_)
 exact At.hold (At.truthy (R.bind_ok ns2 e3) S3 v3)
noncomputable def M7(F G:AV→AV→St→R AV)(f m h:St→R AV):St→R AV:=fun σ=>(f σ).bind fun a σ=>(m σ).bind fun b σ=>(F a b σ).bind fun c σ=>(OO c σ).bind fun t σ=>if t then(h σ).bind fun d σ=>G b d σ else .ok c σ
theorem WZ{l m r:Expr}{op op':CmpOp}{p:Pos}{f k h:St→R AV}{F G:AV→AV→St→R AV}(hl:A1 Γ sc l f)(hk:A1 Γ sc m k)(hr:A1 Γ sc r h)(ho:Hc Γ sc (compareOp op) F)(ho':Hc Γ sc (compareOp op') G)
  (hm:behindInMarks op' r=false):A1 Γ sc (.Compare l [op,op'] [m,r] p) (M7 F G f k h):=fun σ ns g φ s X S=>by
 refine At.ofEq (arm_eval_Compare ..) ?_
 refine At.bind (hl σ (R.bind_ns ns) g φ s X S) fun va a σ1 g1 φ1 s1 e1 S1 X1 v1=>?_
 have ns1:=R.bind_ok ns e1
 show At Γ (compareChain p va [op,op'] [eval m Γ.env,markedBehindIn op' r (eval r Γ.env)]) _ _ _ _ _ _
 rw[markedBehindIn_of_false hm]
 refine At.bind (At.hold (hk σ1 (R.bind_ns ns1) g1 φ1 s1 (X.mono X1.sub) S1)) fun vb b σ2 g2 φ2 s2 e2 S2 X2 v2=>?_
 have ns2:=R.bind_ok ns1 e2
 refine At.stand (At.bind (At.hold (ho σ2 va vb a b (R.bind_ns ns2) g2 φ2 s2 ((X.mono X1.sub).mono X2.sub) S2 (v1.ext X2) v2)) fun vc c σ3 g3 φ3 s3 e3 S3 X3 v3=>?_)
 have ns3:=R.bind_ok ns2 e3
 refine wpAny_bind (wpAny_release ?_)
 refine At.bind (At.hold (At.truthy (R.bind_ns ns3) S3 v3)) fun t t' σ4 g4 φ4 s4 e4 S4 X4 v4=>?_
 have ns4:=R.bind_ok ns3 e4
 subst v4
 cases t with
 |false=>exact At.pure S4 (v3.ext X4)
 |true=>
  refine At.bind (At.hold (hr σ4 (R.bind_ns ns4) g4 φ4 s4 ((((X.mono X1.sub).mono X2.sub).mono X3.sub).mono X4.sub) S4)) fun vd d σ5 g5 φ5 s5 e5 S5 X5 v5=>?_
  exact At.stand (At.operate (ho' σ5 vb vd b d (R.bind_ok ns4 e5) g5 φ5 s5 (((((X.mono X1.sub).mono X2.sub).mono X3.sub).mono X4.sub).mono X5.sub) S5 (((v2.ext X3).ext X4).ext X5) v5))
noncomputable def JT(F G:AV→AV→St→R AV)(f m h:St→R AV):St→R Bool:=fun σ=>(f σ).bind fun a σ=>(m σ).bind fun b σ=>(F a b σ).bind fun c σ=>(OO c σ).bind fun t σ=>if t then(h σ).bind fun d σ=>(G b d σ).bind OO else .ok false σ
theorem To{l m r:Expr}{op op':CmpOp}{p:Pos}{f k h:St→R AV}{F G:AV→AV→St→R AV}(hl:A1 Γ sc l f)(hk:A1 Γ sc m k)(hr:A1 Γ sc r h)(ho:Hc Γ sc (compareOp op) F)(ho':Hc Γ sc (compareOp op') G)
  (hm:behindInMarks op' r=false):Gw Γ sc (.Compare l [op,op'] [m,r] p) (JT F G f k h):=fun σ ns g φ s X S=>by
 refine At.ofEq (arm_isTrue_Compare l [op,op'] [m,r] p Γ.env _) ?_
 refine At.bind (hl σ (R.bind_ns ns) g φ s X S) fun va a σ1 g1 φ1 s1 e1 S1 X1 v1=>?_
 have ns1:=R.bind_ok ns e1
 show At Γ (testChain p va [op,op'] [eval m Γ.env,markedBehindIn op' r (eval r Γ.env)]) _ _ _ _ _ _
 rw[markedBehindIn_of_false hm]
 refine At.bind (At.hold (hk σ1 (R.bind_ns ns1) g1 φ1 s1 (X.mono X1.sub) S1)) fun vb b σ2 g2 φ2 s2 e2 S2 X2 v2=>?_
 have ns2:=R.bind_ok ns1 e2
 refine At.stand (At.bind (At.hold (ho σ2 va vb a b (R.bind_ns ns2) g2 φ2 s2 ((X.mono X1.sub).mono X2.sub) S2 (v1.ext X2) v2)) fun vc c σ3 g3 φ3 s3 e3 S3 X3 v3=>?_)
 have ns3:=R.bind_ok ns2 e3
 refine wpAny_bind (wpAny_release ?_)
 refine At.bind (At.hold (At.truthy (R.bind_ns ns3) S3 v3)) fun t t' σ4 g4 φ4 s4 e4 S4 X4 v4=>?_
 have ns4:=R.bind_ok ns3 e4
 subst v4
 cases t with
 |false=>exact At.pure S4 rfl
 |true=>
  refine At.bind (At.hold (hr σ4 (R.bind_ns ns4) g4 φ4 s4 ((((X.mono X1.sub).mono X2.sub).mono X3.sub).mono X4.sub) S4)) fun vd d σ5 g5 φ5 s5 e5 S5 X5 v5=>?_
  have ns5:=R.bind_ok ns4 e5
  refine At.stand (At.bind (At.operate (ho' σ5 vb vd b d (R.bind_ns ns5) g5 φ5 s5 (((((X.mono X1.sub).mono X2.sub).mono X3.sub).mono X4.sub).mono X5.sub) S5 (((v2.ext X3).ext X4).ext X5) v5)) fun ve e σ6 g6 φ6 s6 e6 S6 X6 v6=>?_)
  exact At.hold (At.truthy (R.bind_ok ns5 e6) S6 v6)
noncomputable def DL(o:Bool):List (St→R Bool)→St→R Bool
 |[],σ=>.ok o σ
 |f::r,σ=>(f σ).bind fun b σ=>if b=o then DL o r σ else .ok (!o) σ
noncomputable def Eu:BoolOp→Bool
 |.And=>true|.Or=>false
theorem YA{op:BoolOp}{es:List Expr}{fs:List (St→R Bool)}(h:Al (Gw Γ sc) es fs):∀σ,KB Γ sc (allTrue op es Γ.env) i7 (DL (Eu op) fs σ) σ:=by
 induction h with
 |nil=>
  intro σ ns g φ s X S
  refine At.ofEq (arm_allTrue_nil ..) ?_
  cases op<;>exact At.pure S rfl
 |cons h _ ih=>
  intro σ ns g φ s X S
  refine At.ofEq (arm_allTrue_cons ..) ?_
  refine At.bind (h σ (R.bind_ns ns) g φ s X S) fun va a σ1 g1 φ1 s1 e1 S1 X1 v1=>?_
  have ns1:=R.bind_ok ns e1
  subst v1
  cases op<;>cases va<;>first|exact At.pure S1 rfl|exact ih σ1 ns1 g1 φ1 s1 (X.mono X1.sub) S1
theorem Wa{op:BoolOp}{es:List Expr}{p:Pos}{fs:List (St→R Bool)}(h:Al (Gw Γ sc) es fs):Gw Γ sc (.BoolOp op es p) (DL (Eu op) fs):=fun σ ns g φ s X S=>
 At.ofEq (arm_isTrue_BoolOp op es p Γ.env _) (YA h σ ns g φ s X S)
noncomputable def FA(o:Bool):List (St→R AV)→St→R AV
 |[],_=>.stuck
 |[f],σ=>f σ
 |f::h::r,σ=>(f σ).bind fun v σ=>(OO v σ).bind fun b σ=>if b=o then FA o (h::r) σ else .ok v σ
theorem Wb{op:BoolOp}{p:Pos}{es:List Expr}{fs:List (St→R AV)}(h:Al (A1 Γ sc) es fs):∀σ,KB Γ sc (boolOp p op (evalEach es Γ.env)) (VA Γ) (FA (Eu op) fs σ) σ:=by
 induction h with
 |nil=>exact fun σ ns g φ s X S=>absurd rfl ns
 |cons h r ih=>
  cases r with
  |nil=>exact fun σ ns g φ s X S=>h σ ns g φ s X S
  |cons h2 r=>
   intro σ ns g φ s X S
   refine At.bind (h σ (R.bind_ns ns) g φ s X S) fun va a σ1 g1 φ1 s1 e1 S1 X1 v1=>?_
   have ns1:=R.bind_ok ns e1
   refine At.stand (At.bind (At.hold (At.truthy (R.bind_ns ns1) S1 v1)) fun t t' σ2 g2 φ2 s2 e2 S2 X2 v2=>?_)
   have ns2:=R.bind_ok ns1 e2
   subst v2
   cases op<;>cases t<;>first|exact At.pure S2 (v1.ext X2)|exact ih σ2 ns2 g2 φ2 s2 ((X.mono X1.sub).mono X2.sub) S2
theorem Wc{op:BoolOp}{es:List Expr}{p:Pos}{fs:List (St→R AV)}(h:Al (A1 Γ sc) es fs):A1 Γ sc (.BoolOp op es p) (FA (Eu op) fs):=fun σ ns g φ s X S=>
 At.ofEq (arm_eval_BoolOp ..) (Wb h σ ns g φ s X S)
noncomputable def CG{α:Type}(t:St→R Bool)(f h:St→R α):St→R α:=fun σ=>(t σ).bind fun b σ=>if b then f σ else h σ
theorem bE{t b o:Expr}{p:Pos}{ft:St→R Bool}{fb fo:St→R AV}(ht:Gw Γ sc t ft)(hb:A1 Γ sc b fb)(ho:A1 Γ sc o fo):A1 Γ sc (.IfExp t b o p) (CG ft fb fo):=fun σ ns g φ s X S=>by
 refine At.ofEq (arm_eval_IfExp ..) ?_
 refine At.bind (ht σ (R.bind_ns ns) g φ s X S) fun va a σ1 g1 φ1 s1 e1 S1 X1 v1=>?_
 have ns1:=R.bind_ok ns e1
 subst v1
 cases va
 ·exact ho σ1 ns1 g1 φ1 s1 (X.mono X1.sub) S1
 ·exact hb σ1 ns1 g1 φ1 s1 (X.mono X1.sub) S1
noncomputable def AD:List (St→R AV)→St→R (List AV)
 |[],σ=>.ok [] σ
 |f::r,σ=>(f σ).bind fun v σ=>(AD r σ).bind fun vs σ=>.ok (v::vs) σ
theorem RF{p:Pos}{e:Expr}{es:List Expr}{env:Env}(h:starEach (e::es) env=(false,eval e env)::starEach es env):
  backTo p (starEach (e::es) env)=(false,eval e env)::backTo p (starEach es env):=by
 rw[h];rfl
theorem YB{p:Pos}{es:List Expr}{fs:List (St→R AV)}(h:Al (fun e f=>A1 Γ sc e f∧∀rest env,starEach (e::rest) env=(false,eval e env)::starEach rest env) es fs):Em Γ sc p es (AD fs):=by
 induction h with
 |nil=>exact⟨rfl,fun σ ns g φ s X S=>At.pure S .nil⟩
 |@cons e f es fs h _ ih=>
  have hb:=RF (p:=p) (h.2 es Γ.env)
  refine⟨by rw[hb,List.any_cons,ih.1];rfl,fun σ ns g φ s X S=>?_⟩
  rw[hb]
  show At Γ (do
   let v ←eval e Γ.env
   let here ←pure [v]
   return here++(←holding here (spliced (backTo p (starEach es Γ.env))))) _ _ _ _ _ _
  refine At.bind (h.1 σ (R.bind_ns ns) g φ s X S) fun va a σ1 g1 φ1 s1 e1 S1 X1 v1=>?_
  have ns1:=R.bind_ok ns e1
  refine wpAny_bind (wpAny_pure ?_)
  refine At.bind (At.hold (ih.2 σ1 (R.bind_ns ns1) g1 φ1 s1 (X.mono X1.sub) S1)) fun vb b σ2 g2 φ2 s2 e2 S2 X2 v2=>?_
  exact At.pure S2 (.cons (v1.ext X2) v2)
end
section
variable {Γ:BO} {sc:Scope}
noncomputable def CU(f:St→R (List AV)):St→R AV:=fun σ=>(f σ).bind fun vs σ=>ofO (Fu vs) fun ds=>if ds.length≤big then .ok (.d (.tup ds)) σ else .stuck
noncomputable def Bi(f:St→R (List AV)):St→R AV:=fun σ=>(f σ).bind fun vs σ=>ofO (Fu vs) fun ds=>if ds.length≤big then .ok (.d (.lst ds)) σ else .stuck
noncomputable def KE(f:St→R (List AV)):St→R AV:=fun σ=>(f σ).bind fun vs σ=>if vs.length≤big then .ok (.lst σ.cs.length) {σ with cs:=σ.cs++[.lst vs]} else .stuck
theorem bF{es:List Expr}{k:Nat}{p:Pos}{f:St→R (List AV)}(h:Em Γ sc p es f):A1 Γ sc (.Tuple es k p) (CU f):=fun σ ns g φ s X S=>
 At.ofEq (arm_eval_Tuple ..) (At.stand (At.bind (h.2 σ (R.bind_ns ns) g φ s X S) fun va a σ1 g1 φ1 s1 e1 S1 X1 v1=>
  At.ofO (R.bind_ok ns e1) fun ds e ns=>At.ite ns fun hl z0=>At.new1 S1 rfl (fun g' k q=>.tup q (C3.mono k (F0 v1 e))) fun Q q=>wpAny_newTuple (q _) (by rw[(F0 v1 e).len];exact Bu hl)))
theorem bG{es:List Expr}{p:Pos}{f:St→R (List AV)}(h:Em Γ sc p es f):A1 Γ sc (.List es p) (Bi f):=fun σ ns g φ s X S=>
 At.ofEq (arm_eval_List ..) (At.stand (At.bind (h.2 σ (R.bind_ns ns) g φ s X S) fun va a σ1 g1 φ1 s1 e1 S1 X1 v1=>
  At.ofO (R.bind_ok ns e1) fun ds e ns=>At.ite ns fun hl z0=>At.new1 S1 rfl (fun g' k q=>.lst q (C3.mono k (F0 v1 e))) fun Q q=>wpAny_newList (q _) (by rw[(F0 v1 e).len];exact Bu hl)))
theorem At.newM{t:Sem Value}{g:Heap}{φ:Nat→Addr}{σ:St}{s:Shared}{vs:List Value}{xs:List AV}(S:CF Γ g φ σ s.heap)(hv:Al (CJ Γ.P g φ σ.cs.length) vs xs)
  (h:∀Q:Value→Shared→Prop,(∀tk,Q (.ref s.heap.objs.size) {s with heap:=s.heap.push {cls:=.type "list",data:=.seq vs.toArray},toks:=tk})→wpAny Γ.M Γ.A t Q (fun z0 z0=>False) s):
  At Γ t (VA Γ) (.ok (.lst σ.cs.length) {σ with cs:=σ.cs++[.lst xs]}) g φ σ.cs.length s:=by
 have k:∀b o,s.heap.get? b=some o→(s.heap.push {cls:=.type "list",data:=.seq vs.toArray}).get? b=some o:=fun b o e=>Heap.get?_push_of_some _ e
 have len:(σ.cs++[AK.lst xs]).length=σ.cs.length+1:=by simp
 refine wpAny_mono (h (GO Γ (VA Γ) (.ok (.lst σ.cs.length) {σ with cs:=σ.cs++[.lst xs]}) g φ σ.cs.length s) fun tk=>⟨_,_,rfl,frz g (s.heap.push {cls:=.type "list",data:=.seq vs.toArray}) (fun z0=>False),Dy φ σ.cs.length s.heap.objs.size,
  ⟨S.inv.push (fun z0=>False) (fun z0 z=>z.elim) k (A2 _) ⟨vs,0,Heap.get?_push_size _ rfl,hv.mono fun z0 z0 z=>z.mono (Bv fun b o e=>k b o (S.inv.sub b o e)) (Nat.le_succ _) fun i hi=>if_neg (Nat.ne_of_lt hi)⟩⟩,?_,?_,⟨rfl,rfl⟩⟩) (fun z0 z0 x=>x) fun z0 z0 x=>x.elim
 ·show DH _ _ _ _ _ _ _ (σ.cs++[AK.lst xs]).length _
  rw[len];exact S.inv.pushExt _ _ (fun z0 z=>z.elim) k (A2 _)
 ·show _=_∧_<(σ.cs++[AK.lst xs]).length
  rw[len];exact⟨by rw[show Dy φ σ.cs.length s.heap.objs.size σ.cs.length=s.heap.objs.size from if_pos rfl],Nat.lt_succ_self _⟩
theorem YC{es:List Expr}{p:Pos}{f:St→R (List AV)}(h:Em Γ sc p es f):A1 Γ sc (.List es p) (KE f):=fun σ ns g φ s X S=>
 At.ofEq (arm_eval_List ..) (At.stand (At.bind (h.2 σ (R.bind_ns ns) g φ s X S) fun va a σ1 g1 φ1 s1 e1 S1 X1 v1=>
  At.ite (R.bind_ok ns e1) fun hl z0=>At.newM S1 v1 fun Q q=>wpAny_newList (q _) (by rw[v1.length];exact Bu hl)))
theorem At.tail{value slice:Expr}{o i:Value}{ops:List Value}{T id:String}{r:R AV}{g:Heap}{φ:Nat→Addr}{n:Nat}{s:Shared}(hT:s.TypeIs o T)
  (hl:typeLookup (.type T) "__getitem__"=Pure.pure (some (.builtin id)))(h:At Γ (getItem o i) (VA Γ) r g φ n s)
  (hs:subscripted slice false o i=PySem.operate ops (getItem o i)):At Γ (subscriptTail value slice o i) (VA Γ) r g φ n s:=tail_any hT hl h hs
noncomputable def Hp(l:List Nat)(i:Int):Option Nat:=if 0≤i then l[i.toNat]? else if i=-1 then l.getLast? else none
noncomputable def Af(a b:AV)(σ:St):R AV:=ofO (aI b) fun i=>aOn a (fun z0=>.stuck) (fun l=>if i≤big then ofO (Hp l i) fun c=>.ok (.d (.str [c])) σ else .stuck)
 (fun xs=>if 0≤i∧i≤big then ofO xs[i.toNat]? fun x=>.ok (.d x) σ else .stuck) (fun xs=>if 0≤i∧i≤big then ofO xs[i.toNat]? fun x=>.ok (.d x) σ else .stuck)
 (fun k=>if 0≤i∧i≤big then ofO (BL σ.cs k) fun xs=>ofO xs[i.toNat]? fun x=>.ok x σ else .stuck)
theorem M8:(big:Int)=1000000:=rfl
theorem Vc{P:Params}{g:Heap}{vs:List Value}{xs:List D}(a:C3 P g vs xs){i:Nat}{x:D}(e:xs[i]? =some x):Aj (fun v=>vs[i]? =some v) (fun v=>Rd P g v x):=a.all2.get e
theorem JU{i:Int}{n:Nat}(h0:0≤i)(h:i.toNat<n):seqIndex? i n=some i.toNat:=by
 have h1:¬i<0:=by lia
 have h2:i<(n:Int):=by lia
 simp[seqIndex?,h1,h0,h2]
set_option tactic.hygienic true in
theorem Wd{l:List Nat}{i:Int}{c:Nat}(e:Hp l i=some c):(seqIndex? i (so l).length).bind ((so l).cps[·]?)=some c:=by
 rw[EW]
 unfold Hp at e
 split at e
 ·rename_i h
  have hl:=(List.getElem?_eq_some_iff.mp e).1
  rw[JU h hl]
  simpa using e
 ·split at e
  ·rename_i h;subst h
   cases l with
   |nil=>cases e
   |cons a l=>
    have:seqIndex? (-1) (a::l).length=some l.length:=by
     rw[MeetsSeq.seqIndex_neg (by lia) (by simp only[List.length_cons];lia)]
     simp only[List.length_cons]
     congr 1;lia
    rw[this]
    rw[List.getLast?_eq_getElem?] at e
    simpa using e
  ·cases e
theorem We{l:List Nat}{k:Int}{c:Nat}(e:Hp l k=some c): -1≤k:=by
 unfold Hp at e
 split at e
 ·lia
 ·split at e
  ·lia
  ·cases e
theorem bH{v i:Expr}(hs:∀o x,subscripted i false o x=operate [o,x] (getItem o x)):Hc Γ sc (subscriptTail v i) Af:=fun σ va vb a b ns g φ s X S v1 v2=>
 At.ofO ns fun k ek ns=>by
  obtain⟨t,rfl⟩:=Gd v2 ek
  refine At.aOn ns v1 (fun z0 z0 z0 ns=>absurd rfl ns) (fun l t el ns=>At.ite ns fun hk ns=>At.ofO ns fun c e z0=>?_) (fun xs r ns=>At.ite ns fun hk ns=>At.ofO ns fun x e z0=>?_) (fun xs r ns=>At.ite ns fun hk ns=>At.ofO ns fun x e z0=>?_) fun j ej ns=>At.ite ns fun hk ns=>At.ofO ns fun xs ec ns=>At.ofO ns fun x e z0=>?_
  ·subst el
   exact At.tail (T:="str") (typeIs_str _ _ _) PySem.F.slot_str_getitem.lookup (At.still S (P.getItem_str (c:=c) (by have:=We e;rw[M8] at hk;simp;lia) (Wd e) ⟨rfl,⟨rfl,rfl⟩,.str [c] _⟩)) (hs _ _)
  ·obtain⟨_,_,_,rfl,hg,r⟩:=r
   obtain⟨w,hw,hx⟩:=Vc r e
   have hL:s.heap.IsList _ _:=IsL.isList (S.inv.sub _ _ hg)
   exact At.tail hL.typeIs PySem.F.slot_list_getitem.lookup (At.still S (wpAny_getItem_list hL hk.1 (by rw[M8] at hk;lia) (by simpa using hw) ⟨rfl,Bn.refl _,hx⟩)) (hs _ _)
  ·obtain⟨_,_,_,rfl,hg,r⟩:=r
   obtain⟨w,hw,hx⟩:=Vc r e
   exact At.tail (T:="tuple") ⟨_,S.inv.sub _ _ hg,rfl⟩ PySem.F.slot_tuple_getitem.lookup (At.still S (P.getItem_tuple (k:=k.toNat) (S.inv.sub _ _ hg) (by lia) (by rw[M8] at hk;lia) (JU hk.1 (by simpa using(List.getElem?_eq_some_iff.mp hw).1)) (by simpa using hw) ⟨rfl,Bn.refl _,hx⟩)) (hs _ _)
  ·subst ej
   obtain⟨vs,m,hg,r⟩:=S.inv.cell _ _ (C4 ec)
   obtain⟨w,hw,hx⟩:=r.get e
   have hL:s.heap.IsList _ _:=IsL.isList hg
   exact At.tail hL.typeIs PySem.F.slot_list_getitem.lookup (At.still S (wpAny_getItem_list hL hk.1 (by rw[M8] at hk;lia) (by simpa using hw) ⟨rfl,Bn.refl _,hx⟩)) (hs _ _)
theorem bI{v i:Expr}{p:Pos}{f h:St→R AV}(hv:A1 Γ sc v f)(hi:A1 Γ sc i h)(hs:∀o x,subscripted i false o x=operate [o,x] (getItem o x):=by intro _ _;rfl):A1 Γ sc (.Subscript v i p) (AG Af f h):=fun σ ns g φ s X S=>by
 refine At.ofEq (arm_eval_Subscript ..) ?_
 refine At.bind (hv σ (R.bind_ns ns) g φ s X S) fun va a σ1 g1 φ1 s1 e1 S1 X1 v1=>?_
 have ns1:=R.bind_ok ns e1
 refine At.bind (At.hold (hi σ1 (R.bind_ns ns1) g1 φ1 s1 (X.mono X1.sub) S1)) fun vb b σ2 g2 φ2 s2 e2 S2 X2 v2=>?_
 exact At.stand (bH hs σ2 va vb a b (R.bind_ok ns1 e2) g2 φ2 s2 ((X.mono X1.sub).mono X2.sub) S2 (v1.ext X2) v2)
end
noncomputable def JV{α:Type}(lo hi:Option Int)(l:List α):List α:=(match hi with|some b=>l.take b.toNat|none=>l).drop ((lo.getD 0).toNat)
theorem Lr{α:Type}:∀(n a:Nat) (l:List α),a+n≤l.length→(List.range' a n).filterMap (fun i=>l[i]?)=(l.drop a).take n
 |0,a,l,h=>by simp
 |n+1,a,l,h=>by
  have ha:a<l.length:=by lia
  rw[List.range'_succ,List.filterMap_cons,List.getElem?_eq_getElem ha,List.drop_eq_getElem_cons ha,List.take_succ_cons]
  simp only
  rw[Lr n (a+1) l (by lia)]
theorem Hq(a b:Nat):sliceRange (a:Int) (b:Int) 1=List.range' a (b-a):=by
 unfold sliceRange
 simp only[Int.zero_lt_one,gt_iff_lt,if_true,Int.one_mul,Int.add_sub_cancel,Int.ediv_one]
 by_cases h:a<b
 ·rw[if_pos (by lia),show((b:Int)-(a:Int)).toNat=b-a by lia,List.range'_eq_map_range]
  exact List.map_congr_left fun k z0=>by lia
 ·rw[if_neg (by lia),show b-a=0 by lia];rfl
theorem RG{α:Type}(l:List α)(a b:Nat)(hb:b≤l.length):(sliceRange (a:Int) (b:Int) 1).filterMap (fun i=>l[i]?)=(l.take b).drop a:=by
 rw[Hq]
 by_cases h:a≤b
 ·rw[Lr _ _ _ (by lia),List.drop_take]
 ·rw[show b-a=0 by lia,List.drop_eq_nil_of_le (by rw[List.length_take];lia)];rfl
noncomputable def clipN(n:Nat)(d:Nat):Option Int→Nat
 |none=>d
 |some i=>min i.toNat n
theorem Gf{α:Type}(lo hi:Option Int)(l:List α):JV lo hi l=(l.take (clipN l.length l.length hi)).drop (clipN l.length 0 lo):=by
 unfold JV clipN
 have e:(match hi with|some b=>l.take b.toNat|none=>l)=l.take (match hi with|none=>l.length|some i=>min i.toNat l.length):=by
  cases hi with
  |none=>simp
  |some i=>simp only;rw[←List.take_take,List.take_length]
 rw[e]
 cases lo with
 |none=>rfl
 |some i=>
  simp only[Option.getD_some]
  by_cases h:i.toNat≤l.length
  ·rw[Nat.min_eq_left h]
  ·rw[Nat.min_eq_right (by lia)]
   rw[List.drop_eq_nil_of_le (by rw[List.length_take];lia),List.drop_eq_nil_of_le (by rw[List.length_take];lia)]
noncomputable def EY:Option Int→Prop
 |some i=>0≤i
 |none=>True
theorem Ls{lo hi:Option Int}(h1:EY lo)(h2:EY hi)(n:Nat):sliceBounds lo hi none n=((clipN n 0 lo:Int),(clipN n n hi:Int),1):=by
 have key:∀(o:Option Int) (d:Nat),EY o→(match o with|none=>(d:Int)|some i=>max 0 (min (if i<0 then i+n else i) (n:Int)))=((clipN n d o:Nat):Int):=by
  intro o d ho
  cases o with
  |none=>rfl
  |some i=>
   have ho:0≤i:=ho
   simp only[clipN]
   rw[if_neg (by lia)]
   lia
 have k1:=key lo 0 h1
 have k2:=key hi n h2
 unfold sliceBounds
 simp only[Option.getD_none,Int.zero_lt_one,gt_iff_lt,if_true]
 refine Prod.ext ?_ (Prod.ext ?_ rfl)
 ·rw[←k1];cases lo<;>rfl
 ·rw[←k2];cases hi<;>rfl
theorem OQ{lo hi:Option Int}(h1:EY lo)(h2:EY hi)(vs:List Value):slicePick vs.toArray lo hi none=(JV lo hi vs).toArray:=by
 unfold slicePick
 rw[List.size_toArray,Ls h1 h2]
 simp only[List.getElem?_toArray]
 rw[RG _ _ _ (by cases hi<;>simp only[clipN]<;>lia),Gf]
theorem MJ{lo hi:Option Int}(h1:EY lo)(h2:EY hi)(n:Nat):Builtin.Str.strSliceIndices lo hi 1 n=sliceRange (clipN n 0 lo:Int) (clipN n n hi:Int) 1:=by
 have:=Ls h1 h2 n
 unfold sliceBounds at this
 simp only[Option.getD_none,Int.zero_lt_one,gt_iff_lt,if_true,Prod.mk.injEq,and_true] at this
 unfold Builtin.Str.strSliceIndices
 simp only[Int.zero_lt_one,gt_iff_lt,if_true]
 rw[←this.1,←this.2]
 cases lo<;>cases hi<;>rfl
theorem YD{α:Type}(lo hi:Option Int)(l:List α):(JV lo hi l).length≤l.length:=by
 rw[Gf,List.length_drop,List.length_take];lia
theorem YE{α:Type}(lo hi:Option Int)(l:List α):(JV lo hi l).Sublist l:=by
 rw[Gf];exact(List.drop_sublist _ _).trans (List.take_sublist _ _)
set_option tactic.hygienic true in
theorem M9{lo hi:Option (Int×Tok)}(h1:EY (lo.map (·.1)))(h2:EY (hi.map (·.1)))(l:List Nat)(t:Tok):
  sliceMade (so l) t lo hi none=.val (.str (so l) t)∧JV (lo.map (·.1)) (hi.map (·.1)) l=l∨sliceMade (so l) t lo hi none=.str (so (JV (lo.map (·.1)) (hi.map (·.1)) l)):=by
 have e:slicePicked (so l) lo hi none=sliceRange (clipN l.length 0 (lo.map (·.1)):Int) (clipN l.length l.length (hi.map (·.1)):Int) 1:=by
  unfold slicePicked
  rw[EW]
  exact MJ h1 h2 _
 have hb:clipN l.length l.length (hi.map (·.1))≤l.length:=by cases hi<;>simp only[clipN,Option.map]<;>lia
 have p:((slicePicked (so l) lo hi none).filterMap ((so l).cps[·]?))=JV (lo.map (·.1)) (hi.map (·.1)) l:=by
  rw[e,Gf,←RG _ _ _ hb]
  simp
 unfold sliceMade
 split
 ·rename_i h
  left
  refine⟨rfl,(YE _ _ _).eq_of_length ?_⟩
  simp only[Bool.and_eq_true,beq_iff_eq] at h
  have hl:=h.2
  rw[e,EW,Hq,List.length_range'] at hl
  rw[Gf,List.length_drop,List.length_take]
  lia
 ·right
  rw[p]
section
variable {Γ:BO} {sc:Scope}
noncomputable def YF:Option (St→R AV)→St→R (Option Int)
 |none,σ=>.ok none σ
 |some f,σ=>(f σ).bind fun a σ=>ofO (aI a) fun i=>if 0≤i then .ok (some i) σ else .stuck
noncomputable abbrev gU:VV Value (Option Int):=fun z0 z0 z0 v o=>EU (fun(p:Option (Int×Tok))=>v=partValue p) (fun(p:Option (Int×Tok))=>p.map (·.1)=o) (fun(p:Option (Int×Tok))=>EY o)
inductive MK(Γ:BO)(sc:Scope):Option Expr→Option (St→R AV)→Prop
 |none:MK Γ sc none none
 |some {e f}:A1 Γ sc e f→MK Γ sc (some e) (some f)
theorem RH{e:Option Expr}{f:Option (St→R AV)}(h:MK Γ sc e f):∀σ,KB Γ sc (valueOrNone (evalOpt e Γ.env)) gU (YF f σ) σ:=fun σ ns g φ s X S=>by
 cases h with
 |none=>exact At.pure S ⟨none,rfl,rfl,trivial⟩
 |some h=>
  show At Γ (eval _ Γ.env) _ _ _ _ _ _
  refine At.ofEq (bind_pure (eval _ Γ.env)).symm ?_
  refine At.bind (h σ (R.bind_ns ns) g φ s X S) fun va a σ1 g1 φ1 s1 e1 S1 X1 v1=>?_
  refine At.ofO (R.bind_ok ns e1) fun i ei ns=>At.ite ns fun hi z0=>?_
  obtain⟨t,rfl⟩:=Gd v1 ei
  exact At.pure S1 ⟨some (i,t),rfl,rfl,hi⟩
noncomputable def da(a:AV):Option (List D):=match a with
 |.d x=>(match x with
  |.lst xs=>some xs
  |.arg xs=>some xs
  |_=>none)
 |_=>none
theorem bJ{P:Params}{g h:Heap}{φ:Nat→Addr}{n:Nat}(k:∀b o,g.get? b=some o→h.get? b=some o){v:Value}{a:AV}{xs:List D}(hv:CJ P g φ n v a)(e:da a=some xs):E2_3 (fun ad vs=>v=.ref ad) (fun ad vs=>h.IsList ad vs.toArray) (fun ad vs=>C3 P g vs xs):=by
 cases a with
 |d x=>
  cases x with
  |lst ys=>cases e;obtain⟨_,_,_,rfl,h1,h2⟩:=Rd.invL hv;exact⟨_,_,rfl,IsL.isList (k _ _ h1),h2⟩
  |arg ys=>cases e;obtain⟨_,_,rfl,h1,h2⟩:=Rd.invA hv;exact⟨_,_,rfl,h1.at fun o e=>k _ _ e,h2⟩
  |_=>cases e
 |_=>cases e
noncomputable def bK(v:AV)(lo hi:Option Int)(σ:St):R AV:=Option.rec (ofO (aS v) fun l=>if l.length≤big then .ok (.d (.str (JV lo hi l))) σ else .stuck) (fun xs=>if xs.length≤big then .ok (.d (.lst (JV lo hi xs))) σ else .stuck) (da v)
noncomputable def gV(lo hi:Option (St→R AV)):St→R (Option Int×Option Int):=fun σ=>(YF lo σ).bind fun l σ=>(YF hi σ).bind fun h σ=>.ok (l,h) σ
noncomputable def CD(f:St→R AV)(lo hi:Option (St→R AV)):St→R AV:=fun σ=>(f σ).bind fun v σ=>(gV lo hi σ).bind fun lh σ=>bK v lh.1 lh.2 σ
noncomputable abbrev YG:VV Value (Option Int×Option Int):=fun g z0 z0 v o=>dQ (fun a p q=>v=.ref a) (fun a p q=>g.get? a=some {cls:=.type "slice",data:=.fields #[partValue p,partValue q,.none]}) (fun a p q=>p.map (·.1)=o.1) (fun a p q=>q.map (·.1)=o.2) (fun a p q=>EY o.1) (fun a p q=>EY o.2)
theorem Wf{lo hi:Option Expr}{p:Pos}{fl fh:Option (St→R AV)}(hl:MK Γ sc lo fl)(hh:MK Γ sc hi fh):∀σ,KB Γ sc (eval (.Slice lo hi none p) Γ.env) YG (gV fl fh σ) σ:=fun σ1 ns1 g1 φ1 s1 X1 S1=>by
 refine At.ofEq (arm_eval_Slice ..) ?_
 refine At.bind (RH hl σ1 (R.bind_ns ns1) g1 φ1 s1 X1 S1) fun vl l σ2 g2 φ2 s2 e2 S2 X2 v2=>?_
 have ns2:=R.bind_ok ns1 e2
 refine At.bind (At.hold (RH hh σ2 (R.bind_ns ns2) g2 φ2 s2 (X1.mono X2.sub) S2)) fun vh h σ3 g3 φ3 s3 e3 S3 X3 v3=>?_
 obtain⟨p,rfl,ep,hp⟩:=v2
 obtain⟨q,rfl,eq,hq⟩:=v3
 refine wpAny_bind (wpAny_holding (wpAny_pure ?_))
 refine At.grows S3 (wpAny_newObj_type ⟨fun b o' e=>Heap.get?_push_of_some _ e,⟨rfl,rfl⟩,s3.heap.objs.size,p,q,rfl,DR (A2 _) (Heap.get?_push_size _ rfl),ep,eq,hp,hq⟩)
theorem bL{P:Params}{g:Heap}{vs:List Value}{xs:List D}(r:C3 P g vs xs)(lo hi:Option Int):C3 P g (JV lo hi vs) (JV lo hi xs):=by
 unfold JV
 cases hi with
 |none=>exact C3.of (r.all2.drop _)
 |some i=>exact C3.of ((r.all2.take _).drop _)
theorem db{v:Expr}{lo hi:Option Expr}{p':Pos}{σ2:St}{g2:Heap}{φ2:Nat→Addr}{s2:Shared}{va vs:Value}{a:AV}{lh:Option Int×Option Int}(ns2:bK a lh.1 lh.2 σ2≠.stuck)(S2:CF Γ g2 φ2 σ2 s2.heap)(v1:CJ Γ.P g2 φ2 σ2.cs.length va a)(v2:YG g2 φ2 σ2.cs.length vs lh):
  At Γ (subscriptTail v (.Slice lo hi none p') va vs) (VA Γ) (bK a lh.1 lh.2 σ2) g2 φ2 σ2.cs.length s2:=by
 obtain⟨l,h⟩:=lh
 obtain⟨ad,pa,q,rfl,ho,ep,eq,hp,hq⟩:=v2
 dsimp only at ep eq hp hq ns2 ⊢
 have hs:=S2.inv.sub _ _ ho
 unfold bK at ns2 ⊢
 cases el:da a with
 |some xs=>
  rw[el] at ns2
  obtain⟨ar,vs,rfl,hL,r⟩:=bJ S2.inv.sub v1 el
  refine At.ite ns2 fun hz z0=>At.tail hL.typeIs PySem.F.slot_list_getitem.lookup ?_ (ops:=[.ref ad,.ref ar]) rfl
  refine At.new1 S2 rfl (fun g' k e=>Rd.lst (k:=0) e (C3.mono k (bL r l h))) fun Q z=>?_
  refine wpAny_getItem_list_slice (vl:=partValue pa) (vu:=partValue q) (vs:=.none) hL ⟨_,hs,rfl,rfl⟩ ?_ ?_ .none (by simp) ?_ (by rw[List.size_toArray,r.len];exact Bu hz) (lo:=l) (hi:=h)
  ·rw[←ep];cases pa with|none=>exact .none|some x=>exact .int _ _
  ·rw[←eq];cases q with|none=>exact .none|some x=>exact .int _ _
  ·rw[OQ hp hq];exact z _
 |none=>
  rw[el] at ns2
  refine At.ofO ns2 fun x ex ns=>At.ite ns fun hz z0=>?_
  obtain⟨t,rfl⟩:=M4 v1 ex
  refine At.tail (T:="str") (typeIs_str _ _ _) PySem.F.slot_str_getitem.lookup ?_ (ops:=[.ref ad,.str (so x) t]) rfl
  refine At.still S2 (wpAny_getItem_str_slice (l:=pa) (u:=q) (st:=none) ⟨_,hs,rfl,rfl⟩ rfl ?_)
  rw[←ep] at hp;rw[←eq] at hq
  rcases M9 hp hq x t with⟨m,w⟩|m
  ·rw[m];rw[ep,eq] at w;rw[w]
   exact⟨rfl,Bn.refl _,.str _ _⟩
  ·rw[m,ep,eq]
   exact⟨by rw[EW];exact Bu (Nat.le_trans (YD _ _ _) hz),rfl,⟨rfl,rfl⟩,.str _ _⟩
theorem bM{v:Expr}{lo hi:Option Expr}{p p':Pos}{f:St→R AV}{fl fh:Option (St→R AV)}(hv:A1 Γ sc v f)(hl:MK Γ sc lo fl)(hh:MK Γ sc hi fh):A1 Γ sc (.Subscript v (.Slice lo hi none p') p) (CD f fl fh):=fun σ ns g φ s X S=>by
 refine At.ofEq (arm_eval_Subscript ..) ?_
 refine At.bind (hv σ (R.bind_ns ns) g φ s X S) fun va a σ1 g1 φ1 s1 e1 S1 X1 v1=>?_
 have ns1:=R.bind_ok ns e1
 refine At.bind (At.hold (Wf hl hh σ1 (R.bind_ns ns1) g1 φ1 s1 (X.mono X1.sub) S1)) fun vl lh σ2 g2 φ2 s2 e2 S2 X2 v2=>?_
 have ns2:=R.bind_ok ns1 e2
 exact At.stand (db ns2 S2 (v1.ext X2) v2)
end
noncomputable def Hj(c:Addr):Bool:=c==117||c==405
theorem Tp:∀P,plainGet (Kp pw P) 117 ""=true:=fun P=>by kernel_rfl
theorem JW:∀P,plainGet (Kp pw P) 405 ""=true:=fun P=>by kernel_rfl
theorem bN{c:Addr}(h:Hj c=true)(P:Params)(n:Str):plainGet (Kp pw P) c n=true:=by
 unfold Hj at h
 rw[Bool.or_eq_true,beq_iff_eq,beq_iff_eq] at h
 rcases h with rfl|rfl
 ·exact Tp P
 ·exact JW P
theorem RI:∀P,hasDictIn (Kp pw P) 117=true:=fun P=>by kernel_rfl
theorem RJ:∀P,hasDictIn (Kp pw P) 405=true:=fun P=>by kernel_rfl
theorem RK{c:Addr}(h:Hj c=true)(P:Params):hasDictIn (Kp pw P) c=true:=by
 unfold Hj at h
 rw[Bool.or_eq_true,beq_iff_eq,beq_iff_eq] at h
 rcases h with rfl|rfl
 ·exact RI P
 ·exact RJ P
theorem Tq:∀P,findIn (Kp pw P) (.ref 117) "__setattr__"=some (some (.builtin "object.__setattr__")):=fun P=>by kernel_rfl
theorem Tr:∀P,findIn (Kp pw P) (.ref 405) "__setattr__"=some (some (.builtin "object.__setattr__")):=fun P=>by kernel_rfl
theorem RL:∀P,plainOver (Kp pw P) 117=true:=fun P=>by kernel_rfl
theorem RM:∀P,plainOver (Kp pw P) 405=true:=fun P=>by kernel_rfl
noncomputable def Ts(n:Str):Prop:=∀P,findIn (Kp pw P) (.ref 117) n=some none∧findIn (Kp pw P) (.ref 405) n=some none
theorem Ts.at{n:Str}(F:Ts n){c:Addr}(h:Hj c=true)(P:Params):findIn (Kp pw P) (.ref c) n=some none:=by
 unfold Hj at h
 rw[Bool.or_eq_true,beq_iff_eq,beq_iff_eq] at h
 rcases h with rfl|rfl
 ·exact(F P).1
 ·exact(F P).2
theorem PW{P:Params}{g:Heap}{φ:Nat→Addr}{n:Nat}{x:Str}{es:List DictEntry}{fs:List (Str×AV)}(h:Al (M1 P g φ n) es fs):∀av,fs.lookup x=some av→Aj (fun v=>getL x es=some (some v)) (fun v=>CJ P g φ n v av):=by
 induction h with
 |nil=>exact fun av e=>by cases e
 |@cons a b as bs h r ih=>
  obtain⟨y,w⟩:=b
  obtain⟨t,v,rfl,z⟩:=h
  intro av e
  unfold getL at ih ⊢
  rw[List.find?_cons]
  rw[List.lookup_cons] at e
  by_cases h:x=y
  ·subst h
   simp only[beq_self_eq_true,Option.some.injEq] at e
   subst e
   exact⟨v,by simp only[Value.isStr,beq_self_eq_true],z⟩
  ·rw[show(x==y)=false from beq_eq_false_iff_ne.mpr h] at e
   obtain⟨u,hu,hz⟩:=ih av e
   refine⟨u,?_,hz⟩
   rw[show Value.isStr (.str y t) x=false from beq_eq_false_iff_ne.mpr (Ne.symm h)]
   simp only
   rw[List.any_cons,show DictEntry.refKey ⟨PyData.keyHash P y,.str y t,v⟩=false from rfl,Bool.false_or]
   exact hu
theorem RN{P:Params}{g:Heap}{φ:Nat→Addr}{n:Nat}{x:Str}{es:List DictEntry}{fs:List (Str×AV)}(h:Al (M1 P g φ n) es fs):fs.lookup x=none→getL x es=some none:=by
 induction h with
 |nil=>exact fun z0=>rfl
 |@cons a b as bs h r ih=>
  obtain⟨y,w⟩:=b
  obtain⟨t,v,rfl,z⟩:=h
  intro e
  unfold getL at ih ⊢
  rw[List.find?_cons]
  rw[List.lookup_cons] at e
  by_cases h:x=y
  ·subst h
   simp only[beq_self_eq_true,reduceCtorEq] at e
  ·rw[show(x==y)=false from beq_eq_false_iff_ne.mpr h] at e
   rw[show Value.isStr (.str y t) x=false from beq_eq_false_iff_ne.mpr (Ne.symm h)]
   simp only
   rw[List.any_cons,show DictEntry.refKey ⟨PyData.keyHash P y,.str y t,v⟩=false from rfl,Bool.false_or]
   exact ih e
noncomputable def Ir(x:Str):List Str→List D→Option D
 |n::ns,d::ds=>if x=n then some d else Ir x ns ds
 |_,_=>none
theorem Wg{P:Params}{g:Heap}{φ:Nat→Addr}{n:Nat}{es:List DictEntry}{ns:List Str}{xs:List D}(h:ON P g es ns xs):Al (M1 P g φ n) es (ns.zip (xs.map AV.d)):=
 ON.rec (motive_1:=fun z0 z0 z0=>True) (motive_2:=fun z0 z0 z0=>True) (motive_3:=fun es ns xs z0=>Al (M1 P g φ n) es (ns.zip (xs.map AV.d))) trivial (fun z0=>trivial) (fun z0 z0=>trivial) (fun z0 z0=>trivial) (fun z0 z0 z0=>trivial) (fun z0 z0 z0=>trivial) (fun z0 z0 z0=>trivial) (fun z0=>trivial) (fun z0=>trivial) (fun z0 z0 z0 z0=>trivial) trivial (fun z0 z0 z0 z0=>trivial) .nil (fun h z0 z0 r=>.cons ⟨_,_,rfl,h⟩ r) h
set_option tactic.hygienic true in
theorem Hr{x:Str}:∀{ns:List Str} {xs:List D} {d:D},Ir x ns xs=some d→(ns.zip (xs.map AV.d)).lookup x=some (.d d)
 |n::ns,y::xs,d,e=>by
  unfold Ir at e
  rw[List.map_cons,List.zip_cons_cons,List.lookup_cons]
  split at e
  ·rename_i h;cases e;subst h;simp
  ·rename_i h;rw[show(x==n)=false from beq_eq_false_iff_ne.mpr h];exact Hr e
 |[],_,_,e=>by simp[Ir] at e
 |_::_,[],_,e=>by simp[Ir] at e
theorem NA{P:Params}{g:Heap}{φ:Nat→Addr}{n:Nat}{v:Value}{a:AV}(q:CJ P g φ n v a):handedIn v=true:=by
 cases a with
 |d x=>exact Rd.rec (motive_1:=fun v z0 z0=>handedIn v=true) (motive_2:=fun z0 z0 z0=>True) (motive_3:=fun z0 z0 z0 z0=>True) rfl (fun z0=>rfl) (fun z0 z0=>rfl) (fun z0 z0=>rfl) (fun z0 z0 z0=>rfl) (fun z0 z0 z0=>rfl) (fun z0 z0 z0=>rfl) (fun z0=>rfl) (fun z0=>rfl) (fun z0 z0 z0 z0=>rfl) trivial (fun z0 z0 z0 z0=>trivial) trivial (fun z0 z0 z0 z0=>trivial) q
 |lst i=>rw[q.1];rfl
 |obj c i=>obtain⟨x,rfl,_⟩:=q;rfl
section
variable {Γ:BO} {sc:Scope}
noncomputable def jA(x:D):Option (List D):=match x with
 |.obj xs=>some xs
 |_=>none
noncomputable def Gg(cs:List AK)(i:Nat):Option (List (Str×AV)):=(cs[i]?).bind fun c=>AK.rec (fun z0=>none) some c
theorem RO{cs:List AK}{i:Nat}{fs:List (Str×AV)}(e:Gg cs i=some fs):cs[i]? =some (.dict fs):=by
 obtain⟨c,q,h⟩:=Option.bind_eq_some_iff.mp e
 cases c with
 |lst=>cases h
 |dict=>cases h;exact q
noncomputable def CH(n:Str)(a:AV)(σ:St):R AV:=AV.rec (fun x=>ofO ((jA x).bind (Ir n JI)) fun d=>.ok (.d d) σ) (fun z0=>.stuck) (fun c i=>if Hj c=true then ofO (Gg σ.cs i) fun fs=>ofO (fs.lookup n) fun v=>.ok v σ else .stuck) a
noncomputable def AQ(n:Str)(f:St→R AV):St→R AV:=fun σ=>(f σ).bind (CH n)
theorem PX{h:Heap}{x dx:Addr}{c:Addr}{es:List DictEntry}{k:Nat}(h1:h.get? x=some (instObj c dx))(h2:h.get? dx=some (dictOf es k)):InstAt h x (instObj c dx) c (some (dictOf es k)):=⟨h1,rfl,rfl,h2⟩
theorem Op{A:Around}{E:Value→Shared→Prop}{w:World}{s:Shared}{n:Str}{x dx c:Addr}{es:List DictEntry}{k:Nat}{v:Value}{e:Bool}{Q:Value→Shared→Prop}(X:(KP w).In s.heap)(hc:Hj c=true)(F:Ts n)
  (h1:s.heap.get? x=some (instObj c dx))(h2:s.heap.get? dx=some (dictOf es k))(hl:getL n es=some (some v))(hh:handedIn v=true)(q:Q v {s with toks:=s.toks+1}):wpAny (model pw w) A (getAttr (.ref x) n e) Q E s:=
 get_value X (PX h1 h2) (plainGet_of (bN hc _ "")).1 (findObj_own (RK hc _) (F.at hc _) rfl hl) hh q
theorem im.attr{n:Str}(F:Ts n){e:Bool}:im Γ sc (fun v=>getAttr v n e) (CH n):=fun σ va a ns g φ s X S v1=>by
 cases a with
 |d x=>
  refine At.ofO ns fun d ed z0=>?_
  obtain⟨xs,ex,q⟩:=Option.bind_eq_some_iff.mp ed
  obtain rfl:x=.obj xs:=by cases x with|obj ys=>cases ex;rfl|_=>cases ex
  obtain⟨_,_,_,_,rfl,h1,h2,hf⟩:=Rd.invO v1
  obtain⟨v,hv,hd⟩:=PW (Wg (φ:=φ) (n:=σ.cs.length) hf) _ (Hr q)
  exact At.still S (Op (X.wd.keeps S.inv.sub) rfl F (S.inv.sub _ _ h1) (S.inv.sub _ _ h2) hv (NA hd) ⟨rfl,⟨rfl,rfl⟩,hd⟩)
 |lst=>exact absurd rfl ns
 |obj c i=>
  refine At.ite ns fun hc ns=>At.ofO ns fun fs q ns=>At.ofO ns fun av q' z0=>?_
  obtain⟨x,rfl,hx,hi⟩:=v1
  obtain⟨es,k,ho,r⟩:=S.inv.cell _ _ (RO q)
  obtain⟨v,hv,hd⟩:=PW r _ q'
  exact At.still S (Op (X.wd.keeps S.inv.sub) hc F (S.inv.sub _ _ hx) ho hv (NA hd) ⟨rfl,⟨rfl,rfl⟩,hd⟩)
theorem YH{v:Expr}{n:Str}{p:Pos}{f:St→R AV}(hv:A1 Γ sc v f)(F:Ts n)(hb:∀env whole,attributeBase v n env whole=whole:=by intro _ _;rfl):A1 Γ sc (.Attribute v n p) (AQ n f):=fun σ ns g φ s X S=>by
 refine At.ofEq (arm_eval_Attribute ..) ?_
 rw[hb]
 refine At.bind (hv σ (R.bind_ns ns) g φ s X S) fun va a σ1 g1 φ1 s1 e1 S1 X1 v1=>?_
 refine At.stand ?_
 have h:=im.attr (sc:=sc) F (e:=true) σ1 va a (R.bind_ok ns e1) g1 φ1 s1 (X.mono X1.sub) S1 v1
 refine wpAny_bind (wpAny_holding (wpAny_mono h (fun r s' q=>wpAny_bind (wpAny_letTemporaryGo (wpAny_pure q))) fun z0 z0 q=>q))
noncomputable def EZ(n:Str)(v:AV):List (Str×AV)→List (Str×AV)
 |[]=>[(n,v)]
 |(m,w)::r=>if m=n then(m,v)::r else(m,w)::EZ n v r
theorem bO{P:Params}{g:Heap}{φ:Nat→Addr}{k:Nat}{x:Str}{v:Value}{av:AV}{t:Tok}(hv:CJ P g φ k v av){es:List DictEntry}{fs:List (Str×AV)}(h:Al (M1 P g φ k) es fs):
  Al (M1 P g φ k) (putL x (PyData.keyHash P x) (.str x t) v es) (EZ x av fs):=by
 induction h with
 |nil=>exact .one ⟨t,v,rfl,hv⟩
 |@cons a b as bs h r ih=>
  obtain⟨y,w⟩:=b
  obtain⟨t',v',rfl,z⟩:=h
  unfold putL EZ
  simp only[Value.isStr,beq_iff_eq]
  by_cases h:y=x
  ·rw[if_pos h,if_pos h];exact .cons ⟨t',v,rfl,hv⟩ r
  ·rw[if_neg h,if_neg h];exact .cons ⟨t',v',rfl,z⟩ ih
theorem RP(x:Str)(hs:Int)(key v:Value):∀es:List DictEntry,(putL x hs key v es).length≤es.length+1
 |[]=>by simp[putL]
 |e::r=>by
  unfold putL
  split
  ·simp
  ·have:=RP x hs key v r;simp only[List.length_cons];lia
set_option tactic.hygienic true in
theorem Wh{A:Around}{E:Value→Shared→Prop}{w:World}{s:Shared}{n:Str}{x dx c:Addr}{es:List DictEntry}{k:Nat}{v:Value}{Q:Unit→Shared→Prop}(X:(KP w).In s.heap)(hc:Hj c=true)
  (ht:takerIn (KP w) c n=some none)(h1:s.heap.get? x=some (instObj c dx))(h2:s.heap.get? dx=some (dictOf es k))(hl:(getL n es).isSome=true)(hz:es.length≤1000)
  (q:Q () {s with heap:=s.heap.update dx (Obj.putName n (PyData.keyHash w.params n) (.str n (s.toks+1)) v),toks:=s.toks+1+1}):wpAny (model pw w) A (setAttr (.ref x) n v) Q E s:=by
 have I:=PX h1 h2
 have hs:findIn (KP w) (.ref c) "__setattr__"=some (some (.builtin "object.__setattr__")):=by
  unfold Hj at hc;rw[Bool.or_eq_true,beq_iff_eq,beq_iff_eq] at hc
  rcases hc with rfl|rfl
  ·exact Tq _
  ·exact Tr _
 have hp:plainOver (KP w) c=true:=by
  unfold Hj at hc;rw[Bool.or_eq_true,beq_iff_eq,beq_iff_eq] at hc
  rcases hc with rfl|rfl
  ·exact RL _
  ·exact RM _
 refine set_plain X I hs (osa_open (s:={s with toks:=s.toks+1}) X I hp ht fun b=>?_)
 obtain⟨cd,hcd,hd'⟩:=any_some (RK hc w.params)
 refine wpAny_bind (wpAny_pure (wpAny_bind (wpAny_bind (wpAny_loadPart h1 (wpAny_bind (looks_clsIn (M:=model pw w) (h:=s.heap) X hcd _ _ _ _ (fun z0 z0 e=>e) ?_))))))
 rw[hd']
 refine wpAny_pure (a:=some dx) (wpAny_bind (wpAny_pure (wpAny_bind ?_)))
 unfold nsSet
 refine wpAny_bind (wpAny_bind (wpAny_askSetting (wpAny_pure (wpAny_bind (wpAny_mkText (wpAny_bind (wpAny_loadPart h2 ?_)))))))
 dsimp only
 have cc:(!(es.toArray).any (·.key.isStr n)&&(es.toArray).any (·.refKey))=false:=by
  rw[←Array.any_toList,←Array.any_toList]
  unfold getL at hl
  simp only
  split at hl
  ·rename_i en he
   rw[List.any_eq_true.mpr ⟨en,List.mem_of_find?_eq_some he,List.find?_some he⟩];rfl
  ·split at hl
   ·cases hl
   ·rename_i z;rw[Bool.not_eq_true] at z;rw[z,Bool.and_false]
 rw[aRefKeyMayBeTheName_at,cc]
 refine wpAny_updatePart h2 ?_
 have e2:=putName_dict n (PyData.keyHash w.params n) (.str n (s.toks+1)) v es k
 refine wpAny_bind (wpAny_lookBehind (o:=dictOf (putL n (PyData.keyHash w.params n) (.str n (s.toks+1)) v es) (putN n es k)) ?_ (pastItsLine_dict (by have:=RP n (PyData.keyHash w.params n) (.str n (s.toks+1)) v es;rw[List.size_toArray,sizeLine_eq];lia)) ?_)
 ·have z:=Heap.get?_update_self (Obj.putName n (PyData.keyHash w.params n) (.str n (s.toks+1)) v) h2 (by rw[e2];rfl)
  rw[e2] at z;exact z
 ·exact wpAny_pure q
end
section
variable {Γ:BO} {sc:Scope}
theorem Hs{M:Model}{A:Around}{E:Value→Shared→Prop}{s:Shared}{f:Value}{trees:List (Bool×Sem Value)}{Q:Args→Shared→Prop}(hp:trees.any (·.1)=false)
  (h:wpAny M A (spliced trees) (fun vs s'=>Q ⟨vs,[]⟩ s') E s):wpAny M A (evalArgs f true trees []) Q E s:=by
 cases trees with
 |nil=>
  unfold evalArgs
  show wpAny M A (spliced []>>=_) Q E s
  refine wpAny_bind (wpAny_mono h (fun vs s' h'=>?_) fun z0 z0 x=>x)
  refine wpAny_bind (wpAny_pure (wpAny_holding ?_))
  exact wpAny_bind (wpAny_pure (wpAny_bind (wpAny_pure (wpAny_pure h'))))
 |cons t r=>
  obtain⟨b,x⟩:=t
  cases b with
  |true=>simp at hp
  |false=>exact evalArgs_plain h
noncomputable def F3(M:Model)(h:Heap)(f:Value):Prop:=∃k,(k=Keeper.frame∨k=Keeper.machine∨k=Keeper.boundFrame)∧Looks M h (keeperOf f) k
theorem BZ{M:Model}{h:Heap}{id:String}:F3 M h (.builtin id):=⟨.machine,.inr (.inl rfl),Looks.of_pure rfl⟩
theorem At.callWith{p:Pos}{f:Value}{first:List Value}{trees:List (Bool×Sem Value)}{r:R (List AV)}{k:List AV→St→R AV}{g:Heap}{φ:Nat→Addr}{n:Nat}{s:Shared}(hp:trees.any (·.1)=false)
  (ha:At Γ (spliced trees) (i6 Γ) r g φ n s)
  (hc:∀vs bs σ' g' φ' s',r=.ok bs σ'→CF Γ g' φ' σ' s'.heap→DH Γ.la g φ n s.heap g' φ' σ'.cs.length s'.heap→Al (CJ Γ.P g' φ' σ'.cs.length) vs bs→F3 Γ.M s'.heap f∧At Γ (call f (first++vs)) (VA Γ) (k bs σ') g' φ' σ'.cs.length s'):
  At Γ (callWith p f first trees []) (VA Γ) (r.bind k) g φ n s:=by
 refine callWith_of (P:=fun h=>F3 Γ.M h f) (by rw[hp];rfl) (fun h x=>x) (Hs hp ?_)
 refine wpAny_mono ha ?_ ?_
 ·rintro vs s' ⟨bs,σ',rfl,g',φ',S,X,v,sm⟩
  obtain⟨h1,h2⟩:=hc vs bs σ' g' φ' s' rfl S X v
  refine⟨h1,wpAny_mono h2 ?_ ?_⟩
  ·rintro c s'' ⟨d,σ'',e,g'',φ'',S',X',v',sm'⟩
   exact⟨d,σ'',e,g'',φ'',S',X.trans X',v',sm.trans sm'⟩
  ·rintro e s'' ⟨σ'',q,g'',φ'',S',X',F,sm'⟩
   exact⟨σ'',q,g'',φ'',S',X.trans X',F.weaken (Nat.le_refl _) X.dead fun z0 z0=>rfl,sm.trans sm'⟩
 ·rintro e s' ⟨σ',rfl,g',φ',S,X,F,sm⟩
  exact⟨σ',rfl,g',φ',S,X,F,sm⟩
noncomputable def Dh(Γ:BO)(sc:Scope)(name:Str)(chk:List AK→AV→Bool)(F:AV→List AV→St→R AV):Prop:=
 ∀a σ,chk σ.cs a=true→∀g φ s vo pl,OK Γ sc g→CF Γ g φ σ s.heap→CJ Γ.P g φ σ.cs.length vo a→∃f first,
  (∀(Q:Value×List Value→Shared→Prop) (E:Value→Shared→Prop),Q (f,first) s→wpAny Γ.M Γ.A (getMethod vo name pl) Q E s)∧
  ∀σ' g' φ' s' vs bs,OK Γ sc g'→CF Γ g' φ' σ' s'.heap→DH Γ.la g φ σ.cs.length s.heap g' φ' σ'.cs.length s'.heap→CJ Γ.P g' φ' σ'.cs.length vo a→Al (CJ Γ.P g' φ' σ'.cs.length) vs bs→F a bs σ'≠.stuck→
   F3 Γ.M s'.heap f∧At Γ (call f (first++vs)) (VA Γ) (F a bs σ') g' φ' σ'.cs.length s'
noncomputable def AO(chk:List AK→AV→Bool)(F:AV→List AV→St→R AV)(fo:St→R AV)(fa:St→R (List AV)):St→R AV:=fun σ=>(fo σ).bind fun a σ=>if chk σ.cs a=true then(fa σ).bind fun bs σ=>F a bs σ else .stuck
set_option tactic.hygienic true in
theorem RQ{o:Expr}{name:Str}{apos pos:Pos}{args:List Expr}{chk:List AK→AV→Bool}{F:AV→List AV→St→R AV}{fo:St→R AV}{fa:St→R (List AV)}(ho:A1 Γ sc o fo)(ha:Em Γ sc pos args fa)(hm:Dh Γ sc name chk F)
  (hb:∀env whole,attributeBase o name env whole=whole:=by intro _ _;rfl)(hfew:methodCallForm args.length (backTo pos (starEach args Γ.env)) []=true)(hline:(apos.endLine==pos.line)=true:=by rfl):
  A1 Γ sc (.Call (.Attribute o name apos) args [] pos) (AO chk F fo fa):=fun σ ns g φ s X S=>by
 refine At.ofEq (arm_eval_Call ..) ?_
 rw[hb]
 refine At.bind (ho σ (R.bind_ns ns) g φ s X S) fun va a σ1 g1 φ1 s1 e1 S1 X1 v1=>?_
 have ns1:=R.bind_ok ns e1
 refine At.stand ?_
 split at ns1
 ·rename_i hc
  rw[if_pos hc]
  have X1':=X.mono X1.sub
  obtain⟨f,first,hg,hcall⟩:=hm a σ1 hc g1 φ1 s1 va (do return(←importBound o Γ.env).getD true) X1' S1 v1
  unfold methodCall
  have hform:methodCallForm (args.length+([]:List Keyword).length) (backTo pos (starEach args Γ.env)) (backToKw pos (keywordEach [] Γ.env))=true:=hfew
  have hpos:methodCallPos true o Γ.env apos pos=Pure.pure pos:=by unfold methodCallPos;simp[hline]
  rw[hform]
  refine wpAny_bind (wpAny_holding (hg _ _ ?_))
  refine wpAny_bind (wpAny_of_eq hpos ?_)
  exact At.callWith ha.1 (ha.2 σ1 (R.bind_ns ns1) g1 φ1 s1 X1' S1) fun vs bs σ' g' φ' s' e S' X' v'=>hcall σ' g' φ' s' vs bs (X1'.mono X'.sub) S' X' (v1.ext X') v' (R.bind_ok ns1 e)
 ·exact absurd rfl ns1
noncomputable def BK(F:List AV→St→R AV)(fa:St→R (List AV)):St→R AV:=fun σ=>(fa σ).bind fun bs σ=>F bs σ
theorem Oq{x:Str}{p pos:Pos}{args:List Expr}{f:Value}{F:List AV→St→R AV}{fa:St→R (List AV)}(ha:Em Γ sc pos args fa)
  (hn:∀g,OK Γ sc g→∀(s:Shared) (Q:Value→Shared→Prop) (E:Value→Shared→Prop),g.StaysIn s.heap→Q f s→wpAny Γ.M Γ.A (eval (.Name x p) Γ.env) Q E s)
  (hc:∀σ g φ s vs bs,OK Γ sc g→CF Γ g φ σ s.heap→Al (CJ Γ.P g φ σ.cs.length) vs bs→F bs σ≠.stuck→F3 Γ.M s.heap f∧At Γ (call f vs) (VA Γ) (F bs σ) g φ σ.cs.length s):
  A1 Γ sc (.Call (.Name x p) args [] pos) (BK F fa):=fun σ ns g φ s X S=>by
 refine At.ofEq (arm_eval_Call_Name' ..) ?_
 refine wpAny_bind (hn g X s _ _ S.inv.sub ?_)
 exact At.callWith ha.1 (ha.2 σ (R.bind_ns ns) g φ s X S) fun vs bs σ' g' φ' s' e S' X' v'=>hc σ' g' φ' s' vs bs (X.mono X'.sub) S' v' (R.bind_ok ns e)
theorem Gx{x:Str}{p:Pos}{v:Value}(hl:sc.names.lookup x=some .globalImplicit)(hk:∀P,nsIn (Kp pw P) mainGlobals x=some none)(hv:bootBuiltins x=some v)(hn:x≠"__name__")(hd:(x==("__debug__" :Str))=false:=by decide):
  ∀g,OK Γ sc g→∀(s:Shared) (Q:Value→Shared→Prop) (E:Value→Shared→Prop),g.StaysIn s.heap→Q v s→wpAny Γ.M Γ.A (eval (.Name x p) Γ.env) Q E s:=fun g X s Q E k q=>by
 obtain⟨mg,mb,T⟩:=X.top
 have T':=T.keeps k
 exact Name_function_global (by rw[X.sce];exact X.kind) (by show Γ.env.scope.names.lookup x=_;rw[X.sce];exact hl) (loadGlobal_builtin (env:=Γ.env) (by rw[X.gl];exact T'.g) (mg_none_of (X.wd.keeps k) T'.g (hk _)) (by rw[X.bi];exact T'.b) ((T'.builtins x hn).trans hv) q) hd
theorem Ht{x:Str}{p:Pos}{v:Value}(hl:sc.names.lookup x=some .globalImplicit)(hk:∀P,nsIn (Kp pw P) mainGlobals x=some (some v))(hd:(x==("__debug__" :Str))=false:=by decide):
  ∀g,OK Γ sc g→∀(s:Shared) (Q:Value→Shared→Prop) (E:Value→Shared→Prop),g.StaysIn s.heap→Q v s→wpAny Γ.M Γ.A (eval (.Name x p) Γ.env) Q E s:=fun g X s Q E k q=>by
 obtain⟨mg,mb,T⟩:=X.top
 have T':=T.keeps k
 exact Name_function_global (by rw[X.sce];exact X.kind) (by show Γ.env.scope.names.lookup x=_;rw[X.sce];exact hl) (loadGlobal_global (env:=Γ.env) (by rw[X.gl];exact T'.g) (mg_of (X.wd.keeps k) T'.g (hk _)) q) hd
noncomputable def Fv(cs:List AK)(a:AV):Bool:=((aM a).bind (BL cs)).isSome
theorem At.setL{α β:Type}{V:VV α β}{t:Sem α}{g:Heap}{φ:Nat→Addr}{σ:St}{s:Shared}{i:Nat}{xs ys:List AV}{r:β}{vs ws:List Value}{k:Nat}{fn:Array Value→Array Value}{v:α}(S:CF Γ g φ σ s.heap)(e:BL σ.cs i=some xs)
  (hl:IsL s.heap (φ i) vs.toArray k)(hf:fn vs.toArray=ws.toArray)(hw:Al (CJ Γ.P g φ σ.cs.length) ws ys)(hv:V g φ σ.cs.length v r)
  (h:∀Q:α→Shared→Prop,(∀tk,Q v {s with heap:=s.heap.update (φ i) (Obj.mapSeq fn),toks:=tk})→wpAny Γ.M Γ.A t Q (fun z0 z0=>False) s):
  At Γ t V (.ok r {σ with cs:=σ.cs.set i (.lst ys)}) g φ σ.cs.length s:=by
 have hi:i<σ.cs.length:=S.inv.cellLt (C4 e)
 have nb:∀b o,b≠φ i→s.heap.get? b=some o→(s.heap.update (φ i) (Obj.mapSeq fn)).get? b=some o:=fun b o hb q=>by rw[Heap.get?_update_other _ _ (Ne.symm hb)];exact q
 have up:=IsL.update hl fn
 rw[hf] at up
 refine wpAny_mono (h (GO Γ V (.ok r {σ with cs:=σ.cs.set i (.lst ys)}) g φ σ.cs.length s) fun tk=>⟨_,_,rfl,g,φ,⟨S.inv.setCell hi nb ⟨ws,_,up,hw⟩⟩,?_,?_,⟨rfl,rfl⟩⟩) (fun z0 z0 x=>x) fun z0 z0 x=>x.elim
 ·show DH _ _ _ _ _ _ _ (σ.cs.set i _).length _
  rw[List.length_set];exact M2 _ hi nb ⟨_,up⟩
 ·show V _ _ (σ.cs.set i _).length _ _
  rw[List.length_set];exact hv
end
noncomputable def AW(sep:List Nat):List (List Nat)→List Nat
 |[]=>[]
 |[a]=>a
 |a::b::r=>a++sep++AW sep (b::r)
noncomputable def AT(c:Nat):List Nat→List (List Nat)
 |[]=>[[]]
 |a::l=>if a=c then[]::AT c l else match AT c l with
  |p::ps=>(a::p)::ps
  |[]=>[[a]]
theorem CZ(c:Nat):∀l,AT c l≠[]
 |[]=>by simp[AT]
 |a::l=>by
  unfold AT
  split
  ·simp
  ·split<;>simp
set_option tactic.hygienic true in
theorem F5(c:Nat):∀l,AW [c] (AT c l)=l
 |[]=>rfl
 |a::l=>by
  have ih:=F5 c l
  have ne:=CZ c l
  unfold AT
  split
  ·rename_i h
   cases q:AT c l with
   |nil=>exact absurd q ne
   |cons p ps=>rw[q] at ih;show[]++[c]++AW [c] (p::ps)=_;rw[ih,h];rfl
  ·cases q:AT c l with
   |nil=>exact absurd q ne
   |cons p ps=>
    rw[q] at ih
    cases ps with
    |nil=>show a::p=a::l;rw[show p=l from ih]
    |cons r rs=>show(a::p)++[c]++AW [c] (r::rs)=a::l;rw[←ih];rfl
set_option tactic.hygienic true in
theorem Lu(c:Nat):∀l,∀p∈AT c l,c∉p
 |[]=>by simp[AT]
 |a::l=>by
  have ih:=Lu c l
  unfold AT
  split
  ·intro p hp
   rcases List.mem_cons.mp hp with rfl|hp
   ·simp
   ·exact ih p hp
  ·rename_i h
   cases q:AT c l with
   |nil=>exact absurd q (CZ c l)
   |cons p ps=>
    rw[q] at ih
    intro r hr
    rcases List.mem_cons.mp hr with rfl|hr
    ·intro z
     rcases List.mem_cons.mp z with z|z
     ·exact h z.symm
     ·exact ih p (.head _) z
    ·exact ih r (.tail _ hr)
theorem Vd{c:Nat}:∀{a b x y:List Nat},c∉a→c∉b→a++c::x=b++c::y→a=b∧x=y
 |[],[],_,_,_,_,e=>by simp at e;exact⟨rfl,e⟩
 |[],d::b,_,_,_,hb,e=>by simp at e;exact absurd (e.1▸List.mem_cons_self ..) hb
 |d::a,[],_,_,ha,_,e=>by simp at e;exact absurd (e.1▸List.mem_cons_self ..) ha
 |d::a,f::b,x,y,ha,hb,e=>by
  simp only[List.cons_append,List.cons.injEq] at e
  obtain⟨h1,h2⟩:=Vd (fun z=>ha (.tail _ z)) (fun z=>hb (.tail _ z)) e.2
  exact⟨by rw[e.1,h1],h2⟩
theorem RR{c:Nat}:∀{ps qs:List (List Nat)},ps≠[]→qs≠[]→(∀p∈ps,c∉p)→(∀p∈qs,c∉p)→AW [c] ps=AW [c] qs→ps=qs
 |[],_,h,_,_,_,_=>absurd rfl h
 |_,[],_,h,_,_,_=>absurd rfl h
 |[a],[b],_,_,_,_,e=>by rw[show a=b from e]
 |[a],b::d::r,_,_,ha,hb,e=>by
  have e:a=b++[c]++AW [c] (d::r):=e
  exact absurd (by rw[e];simp) (ha a (.head _))
 |a::b::r,[d],_,_,ha,hb,e=>by
  have e:a++[c]++AW [c] (b::r)=d:=e
  exact absurd (by rw[←e];simp) (hb d (.head _))
 |a::b::r,d::f::t,_,_,ha,hb,e=>by
  have e:a++[c]++AW [c] (b::r)=d++[c]++AW [c] (f::t):=e
  simp only[List.append_assoc,List.singleton_append] at e
  obtain⟨h1,h2⟩:=Vd (ha a (.head _)) (hb d (.head _)) e
  rw[h1,RR (by simp) (by simp) (fun p hp=>ha p (.tail _ hp)) (fun p hp=>hb p (.tail _ hp)) h2]
theorem PY(sep:List Nat):∀ls:List (List Nat),Str.join (so sep) (ls.map so)=so (AW sep ls)
 |[]=>rfl
 |[a]=>rfl
 |a::b::r=>by
  show so a++so sep++Str.join (so sep) ((b::r).map so)=so (a++sep++AW sep (b::r))
  rw[PY sep (b::r),Tm,Tm]
theorem YI(sep:List Nat)(ls:List (List Nat)):Txt.join (so sep) (ls.map so)=so (AW sep ls):=by
 rw[←PY];exact StrLaws.glued_eq_join _ _
theorem YJ(x:Str):so x.cps.toList=x:=by cases x;simp
theorem RS(c:Nat)(l:List Nat):Txt.split (so l) ⟨#[c]⟩=(AT c l).map so:=by
 have h1:=StrLaws.join_split (so l) ⟨#[c]⟩
 have h2:=StrLaws.split_free (so l) c
 have h3:Txt.split (so l) ⟨#[c]⟩≠[]:=fun z=>by have:=split_pos (so l) ⟨#[c]⟩;rw[z] at this;simp at this
 generalize Txt.split (so l) ⟨#[c]⟩=ps at h1 h2 h3
 have e:ps=(ps.map fun p=>p.cps.toList).map so:=by rw[List.map_map];simp[Function.comp_def,YJ]
 rw[e,show(⟨#[c]⟩:Str)=so [c] from rfl,PY] at h1
 have h1':AW [c] (ps.map fun p=>p.cps.toList)=l:=by have:=congrArg (fun x=>x.cps.toList) h1;simpa using this
 rw[e]
 congr 1
 refine RR (c:=c) (by simpa using h3) (CZ c l) (fun p hp=>?_) (Lu c l) (h1'.trans (F5 c l).symm)
 obtain⟨q,hq,rfl⟩:=List.mem_map.mp hp
 exact h2 q hq
noncomputable def F6(ls:List (List Nat)):List D:=ls.map D.str
theorem KF{P:Params}{g:Heap}:∀(ls:List (List Nat)) (k:Nat),C3 P g (strsFrom k (ls.map so)) (F6 ls)
 |[],_=>.nil
 |l::ls,k=>.cons (.str l k) (KF ls (k+1))
set_option tactic.hygienic true in
theorem NB{prog:Program}{w:World}{A:Around}{E:Value→Shared→Prop}{s:Shared}{l:List Nat}{c:Nat}{t u:Tok}{Q:Value→Shared→Prop}(hx:l.length≤big)
  (h:∀vs tk,(∀P g,C3 P g vs (F6 (AT c l)))→Q (.ref s.heap.objs.size) {s with heap:=s.heap.push {cls:=.type "list",data:=.seq vs.toArray},toks:=tk}):
  wpAny (model prog w) A (call (.builtin "str.split") [.str (so l) t,.str ⟨#[c]⟩ u]) Q E s:=by
 have sp:=RS c l
 have ln:=split_le (so l) ⟨#[c]⟩
 rw[EW] at ln
 have hz:(so l).length≤sizeLine:=by rw[EW];exact Bu hx
 unfold Txt.split at sp
 split at sp
 ·rename_i h1
  refine call_meets PySem.F.slot_str_split (typeIs_str s _ _) PySem.F.entry_str_split (PySem.F.args_str_split_2 _ _) (meets_str_split_cannot_occur _ _ _ _ h1) (h [.str (so l) t] _ fun P g=>?_)
  have:AT c l=[l]:=by
   cases q:AT c l with
   |nil=>exact absurd q (CZ c l)
   |cons p ps=>rw[q] at sp;cases ps with
    |nil=>have j:=F5 c l;rw[q] at j;rw[show p=l from j]
    |cons=>simp at sp
  rw[this];exact .cons (.str l t) .nil
 ·rename_i h1
  split at sp
  ·rename_i h2
   refine call_meets PySem.F.slot_str_split (typeIs_str s _ _) PySem.F.entry_str_split (PySem.F.args_str_split_2 _ _) (meets_str_split_not_found _ _ _ _ (by simpa using h1) rfl h2) (h [.str (so l) t] _ fun P g=>?_)
   have:AT c l=[l]:=by
    cases q:AT c l with
    |nil=>exact absurd q (CZ c l)
    |cons p ps=>rw[q] at sp;cases ps with
     |nil=>have j:=F5 c l;rw[q] at j;rw[show p=l from j]
     |cons=>simp at sp
   rw[this];exact .cons (.str l t) .nil
  ·rename_i h2
   have ln':(Builtin.Str.partsBetween (so l) (Builtin.Str.occurrences (so l) ⟨#[c]⟩ 0 (so l).length ((so l).length+1)) (⟨#[c]⟩:Str).length).length≤sizeLine:=by
    rw[sp,←RS,sizeLine_eq];unfold big at hx;lia
   refine call_meets PySem.F.slot_str_split (typeIs_str s _ _) PySem.F.entry_str_split (PySem.F.args_str_split_2 _ _) (meets_str_split_sep _ _ _ _ (by simpa using h1) rfl (by simpa using h2) hz ln') ?_
   rw[sp]
   exact h _ _ fun P g=>KF _ _
noncomputable def Di:List D→Option (List (List Nat))
 |[]=>some []
 |.str l::r=>(Di r).map (l:: ·)
 |_=>none
theorem Ev:∀ls:List (List Nat),Di (F6 ls)=some ls
 |[]=>rfl
 |l::r=>by show(Di (F6 r)).map _=_;rw[Ev r];rfl
theorem LA{ds:List D}:∀{ls:List (List Nat)},Di ds=some ls→ds=F6 ls:=by
 induction ds with
 |nil=>intro ls e;cases e;rfl
 |cons d r ih=>
  intro ls e
  obtain⟨l,rfl⟩:∃l,d=.str l:=by cases d with|str l=>exact⟨l,rfl⟩|_=>cases e
  obtain⟨q,hq,rfl⟩:=Option.map_eq_some_iff.mp e
  rw[ih hq];rfl
theorem Tt{P:Params}{g:Heap}:∀{ls:List (List Nat)} {vs:List Value},C3 P g vs (F6 ls)→StrsAre vs (ls.map so):=fun{ls}=>by
 induction ls with
 |nil=>intro vs h;rw[h.inv0];exact .nil
 |cons l r ih=>
  intro vs h
  obtain⟨v,r',rfl,h1,h2⟩:=C3.inv h
  obtain⟨t,rfl⟩:=h1.invS
  exact .cons (so l) t (ih h2)
set_option tactic.hygienic true in
theorem RT{P:Params}{g h:Heap}{φ:Nat→Addr}{cs:List AK}{aux:List (Addr×FI)}(I:DK P g φ cs aux h){v:Value}{a:AV}{ds:List D}(hv:CJ P g φ cs.length v a)(e:He cs a=some (.lst ds)):
  E3_3 (fun ad vs k=>v=.ref ad) (fun ad vs k=>IsL h ad vs.toArray k) (fun ad vs k=>C3 P g vs ds):=by
 cases a with
 |d y=>cases e;cases hv with|lst h1 h2=>exact⟨_,_,_,rfl,I.sub _ _ h1,h2⟩
 |lst i=>
  simp only[He] at e
  split at e
  ·rename_i xs q
   obtain⟨ds',hd,e'⟩:=Option.map_eq_some_iff.mp e
   cases e'
   obtain⟨vs,m,ho,b⟩:=I.cell i _ q
   exact⟨_,vs,m,hv.1,ho,F0 b hd⟩
  ·cases e
 |obj c i=>cases e
section
variable {Γ:BO} {sc:Scope}
noncomputable def JE(cs:List AK)(a:AV):Bool:=(aS a).isSome
noncomputable def PZ(cs:List AK)(a:AV):Bool:=(aL a).isSome
noncomputable def En(f:Nat→List AV→St→R AV)(a:AV)(bs:List AV)(σ:St):R AV:=ofO (aM a) fun i=>f i bs σ
noncomputable def NC(f:List D→List AV→St→R AV)(a:AV)(bs:List AV)(σ:St):R AV:=ofO (aL a) fun l=>f l bs σ
noncomputable def Gy(f:List Nat→List AV→St→R AV)(a:AV)(bs:List AV)(σ:St):R AV:=ofO (aS a) fun l=>f l bs σ
theorem Dh.ofL{name:Str}{id:String}{F:Nat→List AV→St→R AV}(slot:Slot "list" name id)(hty:typeOf (.builtin id)=pure (.type "method_descriptor"))
  (h:∀i bs σ g φ s vs,F i bs σ≠.stuck→OK Γ sc g→CF Γ g φ σ s.heap→i<σ.cs.length→Al (CJ Γ.P g φ σ.cs.length) vs bs→At Γ (call (.builtin id) (.ref (φ i)::vs)) (VA Γ) (F i bs σ) g φ σ.cs.length s):
  Dh Γ sc name Fv (En F):=fun a σ hc g φ s vo pl X S v=>by
 obtain⟨xs,ex⟩:=Option.isSome_iff_exists.mp hc
 obtain⟨i,ei,e⟩:=Option.bind_eq_some_iff.mp ex
 obtain rfl:=Xw ei
 refine⟨.builtin id,[vo],fun Q E q=>?_,fun σ' g' φ' s' vs bs X' S' E' v' vb ns=>⟨BZ,?_⟩⟩
 ·obtain⟨rfl,hi⟩:=v
  obtain⟨ws,k,ho,b⟩:=S.inv.cell i _ (C4 e)
  exact getMethod_builtin ⟨_,ho,rfl⟩ PySem.F.plainAttrs_list slot hty (fun a e=>by cases e;exact⟨_,ho,rfl⟩) q
 ·obtain⟨rfl,hi⟩:=v'
  exact h i bs σ' g' φ' s' vs ns X' S' hi vb
theorem Dh.ofDL{name:Str}{id:String}{F:List D→List AV→St→R AV}(slot:Slot "list" name id)(hty:typeOf (.builtin id)=pure (.type "method_descriptor"))
  (h:∀xs bs σ g φ s vs a ws k,F xs bs σ≠.stuck→OK Γ sc g→CF Γ g φ σ s.heap→IsL g a ws.toArray k→C3 Γ.P g ws xs→Al (CJ Γ.P g φ σ.cs.length) vs bs→At Γ (call (.builtin id) (.ref a::vs)) (VA Γ) (F xs bs σ) g φ σ.cs.length s):
  Dh Γ sc name PZ (NC F):=fun a σ hc g φ s vo pl X S v=>by
 obtain⟨xs,ex⟩:=Option.isSome_iff_exists.mp hc
 refine⟨.builtin id,[vo],fun Q E q=>?_,fun σ' g' φ' s' vs bs X' S' E' v' vb ns=>⟨BZ,At.ofO ns fun ys ey ns=>?_⟩⟩
 ·obtain⟨_,_,_,rfl,h1,h2⟩:=Oo v ex
  exact getMethod_builtin ⟨_,S.inv.sub _ _ h1,rfl⟩ PySem.F.plainAttrs_list slot hty (fun a e=>by cases e;exact⟨_,S.inv.sub _ _ h1,rfl⟩) q
 ·obtain⟨_,_,_,rfl,h1,h2⟩:=Oo v' ey
  exact h ys bs σ' g' φ' s' vs _ _ _ ns X' S' h1 h2 vb
theorem Dh.ofS{name:Str}{id:String}{F:List Nat→List AV→St→R AV}(slot:Slot "str" name id)(hty:typeOf (.builtin id)=pure (.type "method_descriptor"))
  (h:∀l t bs σ g φ s vs,F l bs σ≠.stuck→OK Γ sc g→CF Γ g φ σ s.heap→Al (CJ Γ.P g φ σ.cs.length) vs bs→At Γ (call (.builtin id) (.str (so l) t::vs)) (VA Γ) (F l bs σ) g φ σ.cs.length s):
  Dh Γ sc name JE (Gy F):=fun a σ hc g φ s vo pl X S v=>by
 obtain⟨xs,ex⟩:=Option.isSome_iff_exists.mp hc
 refine⟨.builtin id,[vo],fun Q E q=>?_,fun σ' g' φ' s' vs bs X' S' E' v' vb ns=>⟨BZ,At.ofO ns fun l el ns=>?_⟩⟩
 ·obtain⟨t,rfl⟩:=M4 v ex
  exact getMethod_builtin (typeIs_str _ _ _) PySem.F.plainAttrs_str slot hty (fun a e=>nomatch e) q
 ·obtain⟨t,rfl⟩:=M4 v' el
  exact h l t bs σ' g' φ' s' vs ns X' S' vb
noncomputable def Au(i:Nat):List AV→St→R AV:=one fun v σ=>ofO (BL σ.cs i) fun xs=>if xs.length≤big then .ok (.d .none) {σ with cs:=σ.cs.set i (.lst (xs++[v]))} else .stuck
theorem RU:Dh Γ sc "append" Fv (En Au):=Dh.ofL PySem.F.slot_list_append PySem.F.type_list_append fun i bs σ g φ s vs ns X S hi hb=>
 At.one ns hb fun w0 b eb hv ns=>At.ofO ns fun xs e ns=>At.ite ns fun hl z0=>by
  subst eb
  obtain⟨ws,k,ho,b⟩:=S.inv.cell i _ (C4 e)
  refine At.setL S e ho (fn:=fun x=>x.push w0) (by simp) (b.append (.one hv)) .none fun Q q=>?_
  exact call_meets PySem.F.slot_list_append ⟨_,ho,rfl⟩ PySem.F.entry_list_append (PySem.F.args_list_append_2 _ _) (list_append _ _ _ _ (by rw[List.size_toArray,b.length];exact Bu hl)) ⟨ho,q _⟩
noncomputable def KG(i:Nat):List AV→St→R AV:=one fun v σ=>ofO (aL v) fun ys=>ofO (BL σ.cs i) fun xs=>if xs.length+ys.length≤big then .ok (.d .none) {σ with cs:=σ.cs.set i (.lst (xs++ys.map AV.d))} else .stuck
theorem F7{g:Heap}{φ:Nat→Addr}{n:Nat}{P:Params}{vs:List Value}{xs:List D}(h:C3 P g vs xs):Al (CJ P g φ n) vs (xs.map AV.d):=by
 replace h:=h.all2
 induction h with
 |nil=>exact .nil
 |cons h _ ih=>exact .cons h ih
theorem RV:Dh Γ sc "extend" Fv (En KG):=Dh.ofL PySem.F.slot_list_extend PySem.F.type_list_extend fun i bs σ g φ s vs ns X S hi hb=>
 At.one ns hb fun w0 b eb hv ns=>At.ofO ns fun ys ey ns=>At.ofO ns fun xs e ns=>At.ite ns fun hl z0=>by
  subst eb
  obtain⟨_,vs2,_,rfl,h1,h2⟩:=Oo hv ey
  obtain⟨ws,k,ho,b⟩:=S.inv.cell i _ (C4 e)
  refine At.setL S e ho (fn:=fun x=>x++vs2.toArray) (by simp) (b.append (F7 h2)) .none fun Q q=>?_
  have fit:ws.length+vs2.length≤sizeLine:=Bu (by rw[b.length,h2.len];exact hl)
  exact call_meets PySem.F.slot_list_extend ⟨_,ho,rfl⟩ PySem.F.entry_list_extend (PySem.F.args_list_extend_2 _ _) (AutoSeq1.list_extend_list_list_0 _ _ _ _ _ _
   (by rw[List.size_toArray,List.size_toArray];unfold Builtin.List.listTooLong;rw[decide_eq_false (Nat.not_lt.mpr fit),Bool.and_false];exact Bool.false_ne_true) (by rw[List.size_toArray];exact Nat.le_trans (Nat.le_add_right _ _) fit) (by rw[List.size_toArray,List.size_toArray];exact Nat.le_succ_of_le fit)) ⟨ho,S.inv.sub _ _ h1,q _⟩
noncomputable def dc(i:Nat):List AV→St→R AV:=one fun v σ=>ofO (i8 0 v) fun z0=>ofO (BL σ.cs i) fun ys=>List.rec .stuck (fun v xs z0=>if xs.length<big then .ok v {σ with cs:=σ.cs.set i (.lst xs)} else .stuck) ys
noncomputable def RW(i:Nat)(bs:List AV)(σ:St):R AV:=List.rec (ofO (BL σ.cs i) fun xs=>if xs.length≤big then ofO xs[xs.length-1]? fun v=>.ok v {σ with cs:=σ.cs.set i (.lst (xs.eraseIdx (xs.length-1)))} else .stuck)
 (fun a r z0=>dc i (a::r) σ) bs
theorem YK:Dh Γ sc "pop" Fv (En RW):=Dh.ofL PySem.F.slot_list_pop PySem.F.type_list_pop fun i bs σ g φ s vs ns X S hi hb=>by
 cases hb with
 |nil=>
  refine At.ofO ns fun xs e ns=>At.ite ns fun hl ns=>At.ofO ns fun v hv z0=>?_
  obtain⟨ws,k,ho,b⟩:=S.inv.cell i _ (C4 e)
  obtain⟨w,hw,hwv⟩:=b.get hv
  have z:=b.length
  refine At.setL S e ho (fn:=fun xs=>xs.eraseIdxIfInBounds (ws.toArray.size-1)) ?_ (b.erase (xs.length-1)) hwv fun Q q=>?_
  ·have hlt:=(List.getElem?_eq_some_iff.mp hw).1
   rw[List.size_toArray,z,Array.eraseIdxIfInBounds,dif_pos (by simpa using hlt)]
   simp
  ·exact call_meets PySem.F.slot_list_pop ⟨_,ho,rfl⟩ PySem.F.entry_list_pop (PySem.F.args_list_pop_1 _) (MeetsSeq.list_pop_last _ _ _ w (by rw[List.size_toArray,z];simpa using hw) (by rw[List.size_toArray,z];exact Bu hl)) ⟨ho,q _⟩
 |@cons a0 b0 as bs hv hn=>
  have ns:dc i (b0::bs) σ≠.stuck:=ns
  show At _ _ _ (dc i (b0::bs) σ) _ _ _ _
  refine At.one ns (Al.cons hv hn) fun w0 b eb hv ns=>At.ofO ns fun z0 ez ns=>At.ofO ns fun ys e ns=>?_
  rw[eb]
  obtain⟨t,rfl⟩:=Xx hv ez
  obtain⟨ws,k,ho,b⟩:=S.inv.cell i _ (C4 e)
  cases b with
  |nil=>exact absurd rfl ns
  |@cons w v ws xs hwv b'=>
   refine At.ite ns fun hl z0=>?_
   refine At.setL S e ho (fn:=fun xs=>xs.eraseIdxIfInBounds 0) ?_ b' hwv fun Q q=>?_
   ·rw[Array.eraseIdxIfInBounds,dif_pos (by simp)];simp
   ·exact call_meets PySem.F.slot_list_pop ⟨_,ho,rfl⟩ PySem.F.entry_list_pop (PySem.F.args_list_pop_2 _ _) (MeetsSeq.list_pop_at _ _ _ 0 t 0 w (by decide) (JU (Int.le_refl _) (by simp)) (by simp) (by simp only[List.size_toArray,List.length_cons];rw[b'.length];exact Bu hl)) ⟨ho,q _⟩
end
noncomputable def Hv(w:List Nat):Value→Bool
 |.str z _=>z.cps.toList==w
 |_=>false
theorem Pa{P:Params}{g:Heap}{w:List Nat}:∀{ls:List (List Nat)} {vs:List Value},C3 P g vs (F6 ls)→vs.countP (Hv w)=ls.count w:=fun{ls}=>by
 induction ls with
 |nil=>intro vs h;rw[h.inv0];rfl
 |cons l r ih=>
  intro vs h
  obtain⟨v,r',rfl,h1,h2⟩:=C3.inv h
  obtain⟨t,rfl⟩:=h1.invS
  rw[List.countP_cons,List.count_cons,ih h2]
  simp[Hv]
theorem Lv{P:Params}{g:Heap}{w:List Nat}{u:Tok}:∀{ls:List (List Nat)} {vs:List Value},C3 P g vs (F6 ls)→∀y∈vs,MeetsSeq.EqGives y (.str (so w) u) (Hv w y):=fun{ls}=>by
 induction ls with
 |nil=>intro vs h y hy;rw[h.inv0] at hy;cases hy
 |cons l r ih=>
  intro vs h y hy
  obtain⟨v,r',rfl,h1,h2⟩:=C3.inv h
  rcases List.mem_cons.mp hy with rfl|hy
  ·obtain⟨t,rfl⟩:=h1.invS
   have:=SeqRoads2.EqGives.str (so l) (so w) t u
   simpa[Hv] using this
  ·exact ih h2 y hy
theorem Os{P:Params}{g:Heap}{w:List Nat}{vs:List Value}{ls:List (List Nat)}(r:C3 P g vs (F6 ls)){j:Nat}{v:Value}(e:vs[j]? =some v):Aj (fun l=>ls[j]? =some l) (fun l=>Hv w v=(l==w)):=by
 obtain⟨x,hx,rx⟩:=r.all2.get' e
 unfold F6 at hx
 rw[List.getElem?_map,Option.map_eq_some_iff] at hx
 obtain⟨l,hl,rfl⟩:=hx
 cases rx
 exact⟨l,hl,by simp[Hv]⟩
section
variable {Γ:BO} {sc:Scope}
theorem Wi{g:Heap}{φ:Nat→Addr}{σ:St}{s:Shared}{vs:List Value}{xs:List AV}(S:CF Γ g φ σ s.heap)(hv:Al (CJ Γ.P g φ σ.cs.length) vs xs)(tk:Tok):
  GO Γ (VA Γ) (.ok (.lst σ.cs.length) {σ with cs:=σ.cs++[.lst xs]}) g φ σ.cs.length s (.ref s.heap.objs.size) {s with heap:=s.heap.push {cls:=.type "list",data:=.seq vs.toArray},toks:=tk}:=by
 have k:∀b o,s.heap.get? b=some o→(s.heap.push {cls:=.type "list",data:=.seq vs.toArray}).get? b=some o:=fun b o e=>Heap.get?_push_of_some _ e
 have len:(σ.cs++[AK.lst xs]).length=σ.cs.length+1:=by simp
 refine⟨_,_,rfl,frz g (s.heap.push {cls:=.type "list",data:=.seq vs.toArray}) (fun z0=>False),Dy φ σ.cs.length s.heap.objs.size,
  ⟨S.inv.push (fun z0=>False) (fun z0 z=>z.elim) k (A2 _) ⟨vs,0,Heap.get?_push_size _ rfl,hv.mono fun z0 z0 z=>z.mono (Bv fun b o e=>k b o (S.inv.sub b o e)) (Nat.le_succ _) fun i hi=>if_neg (Nat.ne_of_lt hi)⟩⟩,?_,?_,⟨rfl,rfl⟩⟩
 ·show DH _ _ _ _ _ _ _ (σ.cs++[AK.lst xs]).length _
  rw[len];exact S.inv.pushExt _ _ (fun z0 z=>z.elim) k (A2 _)
 ·show _=_∧_<(σ.cs++[AK.lst xs]).length
  rw[len];exact⟨by rw[show Dy φ σ.cs.length s.heap.objs.size σ.cs.length=s.heap.objs.size from if_pos rfl],Nat.lt_succ_self _⟩
noncomputable def ND(ds:List D):List AV→St→R AV:=one fun v σ=>ofO (aS v) fun w=>ofO (Di ds) fun ls=>if ls.length≤big then .ok (.d (.int (ls.count w))) σ else .stuck
theorem Tu:Dh Γ sc "count" PZ (NC ND):=Dh.ofDL PySem.F.slot_list_count PySem.F.type_list_count fun ds bs σ g φ s vs a ws k ns X S hl hr hb=>
 At.one ns hb fun w0 b eb hv ns=>At.ofO ns fun w ew ns=>At.ofO ns fun ls e ns=>At.ite ns fun hz z0=>by
  subst eb
  obtain⟨t,rfl⟩:=M4 hv ew
  obtain rfl:=LA e
  refine At.still S (call_meets PySem.F.slot_list_count ⟨_,S.inv.sub _ _ hl,rfl⟩ PySem.F.entry_list_count (PySem.F.args_list_count_2 _ _) (MeetsSeq.list_count _ _ _ _ (Hv w) (fun y hy=>Lv hr y (by simpa using hy))) ⟨S.inv.sub _ _ hl,rfl,⟨rfl,rfl⟩,?_⟩)
  rw[show(ws.toArray).toList=ws from rfl,Pa hr]
  exact .int _ _
noncomputable def NE(ds:List D):List AV→St→R AV:=one fun v σ=>ofO (aS v) fun w=>ofO (Di ds) fun ls=>if ls.length≤big then(if w∈ls then .ok (.d (.int (ls.idxOf w))) σ else .stuck) else .stuck
theorem Tv:Dh Γ sc "index" PZ (NC NE):=Dh.ofDL PySem.F.slot_list_index PySem.F.type_list_index fun ds bs σ g φ s vs a ws k ns X S hl hr hb=>
 At.one ns hb fun w0 b eb hv ns=>At.ofO ns fun w ew ns=>At.ofO ns fun ls e ns=>At.ite ns fun hz ns=>At.ite ns fun hm z0=>by
  subst eb
  obtain⟨t,rfl⟩:=M4 hv ew
  obtain rfl:=LA e
  have hlt:=List.idxOf_lt_length_iff.mpr hm
  have hlen:=hr.len
  rw[show(F6 ls).length=ls.length by simp[F6]] at hlen
  refine At.still S (call_meets PySem.F.slot_list_index ⟨_,S.inv.sub _ _ hl,rfl⟩ PySem.F.entry_list_index (PySem.F.args_list_index_2 _ _) (MeetsSeq.list_index _ _ _ _ (Hv w) (fun y hy=>Lv hr y (by simpa using hy)) (ls.idxOf w) (by simpa[hlen] using hlt)
   (by unfold big at hz;lia) ?_ ?_) ⟨S.inv.sub _ _ hl,rfl,⟨rfl,rfl⟩,.int _ _⟩)
  ·obtain⟨l,h1,h2⟩:=Os (w:=w) hr (j:=ls.idxOf w) (List.getElem?_eq_getElem (by lia))
   rw[List.getElem?_eq_getElem hlt] at h1
   cases h1
   simp only[List.getElem_toArray]
   rw[h2,beq_iff_eq];exact List.getElem_idxOf hlt
  ·intro m hm1 hm2
   obtain⟨l,h1,h2⟩:=Os (w:=w) hr (j:=m) (List.getElem?_eq_getElem (by lia))
   simp only[List.getElem_toArray]
   rw[h2]
   have:=List.not_of_lt_findIdx (p:=(· ==w)) (xs:=ls) hm2
   rw[List.getElem?_eq_getElem (by lia)] at h1
   cases h1
   simpa using this
noncomputable def Gz(l:List Nat):List AV→St→R AV:=one fun v σ=>ofO (aC v) fun c=>if l.length≤big then .ok (.d (.lst (F6 (AT c l)))) σ else .stuck
noncomputable def NF(l:List Nat):List AV→St→R AV:=one fun v σ=>ofO (aC v) fun c=>if l.length≤big then .ok (.lst σ.cs.length) {σ with cs:=σ.cs++[.lst ((F6 (AT c l)).map AV.d)]} else .stuck
theorem Tw:Dh Γ sc "split" JE (Gy Gz):=Dh.ofS PySem.F.slot_str_split PySem.F.type_str_split fun l t bs σ g φ s vs ns X S hb=>
 At.one ns hb fun w0 b eb hv ns=>At.ofO ns fun c ec ns=>At.ite ns fun hz z0=>by
  subst eb
  obtain⟨t,rfl⟩:=RD hv ec
  exact At.grows S (NB hz fun vs tk hr=>⟨fun b o' e=>Heap.get?_push_of_some _ e,⟨rfl,rfl⟩,.lst (DR (A2 _) (Heap.get?_push_size _ rfl)) (hr _ _)⟩)
theorem RX:Dh Γ sc "split" JE (Gy NF):=Dh.ofS PySem.F.slot_str_split PySem.F.type_str_split fun l t bs σ g φ s vs ns X S hb=>
 At.one ns hb fun w0 b eb hv ns=>At.ofO ns fun c ec ns=>At.ite ns fun hz z0=>by
  subst eb
  obtain⟨t,rfl⟩:=RD hv ec
  exact wpAny_mono (NB hz (E:=fun z0 z0=>False) fun vs tk hr=>Wi S (F7 (hr _ _)) tk) (fun z0 z0 x=>x) fun z0 z0 x=>x.elim
noncomputable def Wj(cs:List AK)(v:AV):Option (List D):=(He cs v).bind fun d=>aL (.d d)
theorem Ve{cs:List AK}{v:AV}{ds:List D}(e:Wj cs v=some ds):He cs v=some (.lst ds):=by
 obtain⟨d,ed,el⟩:=Option.bind_eq_some_iff.mp e
 rw[ed,AV.d.inj (cf el)]
noncomputable def Dd(sep:List Nat):List AV→St→R AV:=one fun v σ=>ofO ((Wj σ.cs v).bind Di) fun ls=>if sep.length≤1∧(ls.map List.length).sum+ls.length≤big then .ok (.d (.str (AW sep ls))) σ else .stuck
theorem Wl:Dh Γ sc "join" JE (Gy Dd):=Dh.ofS PySem.F.slot_str_join PySem.F.type_str_join fun l t bs σ g φ s vs ns X S hb=>
 At.one ns hb fun w0 b eb hv ns=>At.ofO ns fun ls el ns=>At.ite ns fun hz z0=>by
  subst eb
  obtain⟨ds,ed,e2⟩:=Option.bind_eq_some_iff.mp el
  obtain⟨ad,vs,k,rfl,hl,hr⟩:=RT S.inv hv (Ve ed)
  obtain rfl:=LA e2
  refine At.still S (join_list hl.isList (Tt hr) ?_ fun t' k=>⟨rfl,⟨rfl,rfl⟩,?_⟩)
  ·have h1:(ls.map so).map Str.length=ls.map List.length:=by rw[List.map_map];exact List.map_congr_left fun x z0=>EW x
   rw[h1,EW,List.length_map]
   have h2:ls.length*l.length≤ls.length*1:=Nat.mul_le_mul_left _ hz.1
   have:=hz.2
   unfold big at this
   lia
  ·rw[YI];exact .str _ _
noncomputable def DM:List Nat:=(Str.ofString "0123456789abcdef").cps.toList
noncomputable def Iu(l:List Nat):List AV→St→R AV:=one fun v σ=>ofO (aC v) fun c=>if l=DM∧c∈DM then .ok (.d (.int (DM.idxOf c))) σ else .stuck
theorem dd:∀c∈DM,((Builtin.Str.occurrences (so DM) ⟨#[c]⟩ 0 (so DM).length 1).head? ==some (DM.idxOf c))=true:=by decide+kernel
theorem OR:Dh Γ sc "index" JE (Gy Iu):=Dh.ofS PySem.F.slot_str_index PySem.F.type_str_index fun l t bs σ g φ s vs ns X S hb=>
 At.one ns hb fun w0 b eb hv ns=>At.ofO ns fun c ec ns=>At.ite ns fun hz z0=>by
  subst eb
  obtain⟨t,rfl⟩:=RD hv ec
  obtain⟨rfl,hc⟩:=hz
  have h:=dd c hc
  rw[beq_iff_eq] at h
  cases q:Builtin.Str.occurrences (so DM) ⟨#[c]⟩ 0 (so DM).length 1 with
  |nil=>rw[q] at h;cases h
  |cons i rest=>
   rw[q] at h
   cases h
   exact At.still S (PySem.SC.index q ⟨rfl,⟨rfl,rfl⟩,.int _ _⟩)
end
theorem G0{M:Model}{h:Heap}{T:String}:F3 M h (.type T):=⟨.machine,.inr (.inl rfl),Looks.of_pure rfl⟩
noncomputable def A9(i:Int):List Nat:=(Str.ofString (toString i)).cps.toList
noncomputable def Pb(i:Int):List Nat:=(baseText "0x" 16 i).cps.toList
theorem YL{P:Params}{g:Heap}{x:Str}{t:Tok}:Rd P g (.str x t) (.str x.cps.toList):=by
 have:Rd P g (.str (so x.cps.toList) t) (.str x.cps.toList):=Rd.str _ _
 rwa [YJ] at this
section
variable {Γ:BO} {sc:Scope}
theorem Wm{x:Str}{p pos:Pos}{args:List Expr}{f:Value}{F:List AV→St→R AV}{fa:St→R (List AV)}(ha:Em Γ sc pos args fa)
  (hl:sc.names.lookup x=some .globalImplicit)(hk:∀P,nsIn (Kp pw P) mainGlobals x=some none)(hv:bootBuiltins x=some f)(hn:x≠"__name__")(hd:(x==("__debug__" :Str))=false)(hK:∀M h,F3 M h f)(hc:JS Γ sc (fun vs=>call f vs) F):
  A1 Γ sc (.Call (.Name x p) args [] pos) (BK F fa):=
 Oq ha (Gx hl hk hv hn hd) fun σ g φ s vs bs X S v ns=>⟨hK _ _,hc σ vs bs ns g φ s X S v⟩
theorem JS.int{t:List Value→Sem Value}{k:Int→St→R AV}(h:∀i u σ g φ s,k i σ≠.stuck→OK Γ sc g→CF Γ g φ σ s.heap→At Γ (t [.int i u]) (VA Γ) (k i σ) g φ σ.cs.length s):JS Γ sc t (Mine.Internal.one fun v σ=>ofO (aI v) fun i=>k i σ):=
 JS.one fun σ va a ns g φ s X S v=>At.ofO ns fun i ei ns=>by
  obtain⟨u,rfl⟩:=Gd v ei
  exact h i u σ g φ s ns X S
noncomputable def BA:List AV→St→R AV:=one fun v σ=>aOn v (fun z0=>.stuck) (fun l=>if l.length≤big then .ok (.d (.int l.length)) σ else .stuck) (fun l=>if l.length≤big then .ok (.d (.int l.length)) σ else .stuck) (fun z0=>.stuck)
 (fun i=>ofO (BL σ.cs i) fun xs=>if xs.length≤big then .ok (.d (.int xs.length)) σ else .stuck)
theorem RY{g h:Heap}{φ:Nat→Addr}{σ:St}{s:Shared}{a:Addr}{vs:List Value}{m:Nat}(S:CF Γ g φ σ s.heap)(hl:s.heap.IsList a vs.toArray)(z:vs.length=m)(hz:m≤big):At Γ (call (.builtin "len") [.ref a]) (VA Γ) (.ok (.d (.int m)) σ) g φ σ.cs.length s:=by
 subst z
 refine At.still S (call_len_list hl (by rw[List.size_toArray];unfold big at hz;lia) ⟨rfl,⟨rfl,rfl⟩,?_⟩)
 rw[List.size_toArray];exact .int _ _
theorem de:JS Γ sc (fun vs=>call (.builtin "len") vs) BA:=JS.one fun σ va a ns g φ s X S v=>
 At.aOn ns v (fun z0 z0 z0 ns=>absurd rfl ns) (fun l t e ns=>At.ite ns fun hz z0=>by
   subst e
   refine At.still S (P.len_str (by rw[EW];unfold big at hz;lia) ⟨rfl,⟨rfl,rfl⟩,?_⟩)
   rw[EW];exact .int _ _)
  (fun l r ns=>At.ite ns fun hz z0=>by
   obtain⟨_,_,_,rfl,h1,h2⟩:=r
   exact RY S (h:=g) (IsL.isList (S.inv.sub _ _ h1)) h2.len hz)
  (fun z0 z0 ns=>absurd rfl ns) fun i e ns=>At.ofO ns fun xs ex ns=>At.ite ns fun hz z0=>by
   subst e
   obtain⟨ws,k,ho,b⟩:=S.inv.cell i _ (C4 ex)
   exact RY S (h:=g) ho.isList b.length hz
noncomputable def Pc:List AV→St→R AV:=one fun v σ=>ofO (aC v) fun c=>.ok (.d (.int c)) σ
theorem df:JS Γ sc (fun vs=>call (.builtin "ord") vs) Pc:=JS.one fun σ va a ns g φ s X S v=>At.ofO ns fun c ec z0=>by
 obtain⟨t,rfl⟩:=RD v ec
 exact At.still S (P.ord_of_char ⟨rfl,⟨rfl,rfl⟩,.int _ _⟩)
noncomputable def Wn:List AV→St→R AV:=one fun v σ=>ofO (aI v) fun i=>if 0≤i∧i≤1114111 then .ok (.d (.str [i.toNat])) σ else .stuck
theorem dg:JS Γ sc (fun vs=>call (.builtin "chr") vs) Wn:=JS.int fun i u σ g φ s ns X S=>At.ite ns fun hz z0=>At.still S (chr_of_range hz.1 hz.2 ⟨rfl,⟨rfl,rfl⟩,.str [_] _⟩)
noncomputable def Ew:List AV→St→R AV:=one fun v σ=>ofO (aI v) fun i=>if i.natAbs<2^100 then .ok (.d (.str (A9 i))) σ else .stuck
theorem dh:JS Γ sc (fun vs=>call (.type "str") vs) Ew:=JS.int fun i u σ g φ s ns X S=>At.ite ns fun hz z0=>by
 refine At.still S (P.str_of_int ?_ ⟨rfl,⟨rfl,rfl⟩,YL⟩)
 by_cases h0:i.natAbs=0
 ·rw[h0];decide
 ·have:=(Nat.log2_lt h0 (k:=100)).mpr hz
  lia
noncomputable def bP:List AV→St→R AV:=one fun v σ=>ofO (aI v) fun i=>.ok (.d (.int i.natAbs)) σ
theorem di:JS Γ sc (fun vs=>call (.builtin "abs") vs) bP:=JS.int fun i u σ g φ s ns X S=>by
 refine At.still S (call_abs_int fun u tk=>⟨rfl,⟨rfl,rfl⟩,?_⟩)
 rw[show(if i<0 then-i else i)=(i.natAbs:Int) by split<;>lia]
 exact .int _ _
noncomputable def bQ:List AV→St→R AV:=one fun v σ=>ofO (aI v) fun i=>.ok (.d (.int i)) σ
theorem dj:JS Γ sc (fun vs=>call (.type "int") vs) bQ:=JS.int fun i u σ g φ s ns X S=>At.still S (call_int_int ⟨rfl,Bn.refl _,.int _ _⟩)
noncomputable def YM:List AV→St→R AV:=one fun v σ=>ofO (aI v) fun i=>if(Pb i).length≤big then .ok (.d (.str (Pb i))) σ else .stuck
theorem dk:JS Γ sc (fun vs=>call (.builtin "hex") vs) YM:=JS.int fun i u σ g φ s ns X S=>At.ite ns fun hz z0=>
 At.still S (P.hex_of_int ⟨rfl,⟨rfl,rfl⟩,YL⟩ (hsz:=by
  have:(baseText "0x" 16 i).length=(Pb i).length:=by simp[Pb,Str.length]
  rw[this];exact Bu hz))
noncomputable def YN(a:AV):Option Unit:=match a with
 |.d (.ty T)=>if T="str" then some () else none
 |_=>none
theorem YO{a:AV}{u:Unit}(e:YN a=some u):a=.d (.ty "str"):=by
 cases a with
 |d x=>cases x with
  |ty T=>
   by_cases q:T="str"
   ·rw[q]
   ·unfold YN at e;simp only[q,if_false,reduceCtorEq] at e
  |_=>cases e
 |_=>cases e
noncomputable def F8:List AV→St→R AV:=two fun v w σ=>ofO (YN w) fun z0=>aOn v (fun z0=>.ok (.d (.bool false)) σ) (fun z0=>.ok (.d (.bool true)) σ) (fun z0=>.stuck) (fun z0=>.stuck) (fun z0=>.stuck)
theorem Wo:JS Γ sc (fun vs=>call (.builtin "isinstance") vs) F8:=JS.two fun σ va vb a b ns g φ s X S v1 v2=>At.ofO ns fun u eu ns=>by
 rw[YO eu] at v2
 obtain rfl:=Rd.invT v2
 refine At.aOn ns v1 (fun i t e z0=>?_) (fun l t e z0=>?_) (fun z0 z0 ns=>absurd rfl ns) (fun z0 z0 ns=>absurd rfl ns) (fun z0 z0 ns=>absurd rfl ns)
 ·subst e
  exact At.still S (call_isinstance (isinstance_false_int (by decide+kernel) PySem.F.isi_meta_str PySem.F.sub_int_str) ⟨rfl,⟨rfl,rfl⟩,.bool _⟩)
 ·subst e
  exact At.still S (call_isinstance (isinstance_true (Tx:="str") PySem.F.isi_meta_str PySem.F.sub_str_str) ⟨typeIs_str _ _ _,rfl,Bn.refl _,.bool _⟩)
end
open Classical in
noncomputable def YQ(h:Heap)(q:PyData)(y:Value):Bool:=if e:∃p:PyData,PyData.canLay0 p=true∧∃as,Reads h y p as then PyData.eqv e.choose q else false
theorem bR{h:Heap}{q p:PyData}{y:Value}{as:List Addr}(hp:PyData.canLay0 p=true)(r:Reads h y p as):YQ h q y=PyData.eqv p q:=by
 have e:∃p:PyData,PyData.canLay0 p=true∧∃as,Reads h y p as:=⟨p,hp,as,r⟩
 unfold YQ
 rw[dif_pos e]
 obtain⟨h1,bs,h2⟩:=e.choose_spec
 rw[(PySem.Reads.unique h2 _ _ r).1]
noncomputable def Pd(cs:List AK)(y:AV):List D→Option Bool
 |[]=>some false
 |x::xs=>match OP cs (.d x) y,Pd cs y xs with
  |some a,some b=>some (a||b)
  |_,_=>none
inductive jr(cs:List AK)(y:AV)(x:D)(xs:List D)(r:Bool):Prop
 |mk (a b:Bool):i9 cs (.d x) y a→Pd cs y xs=some b→r=(a||b)→jr cs y x xs r
set_option tactic.hygienic true in
theorem ch{cs:List AK}{y:AV}{x:D}{xs:List D}{r:Bool}(e:Pd cs y (x::xs)=some r):jr cs y x xs r:=by
 unfold Pd at e
 split at e
 ·rename_i a b e1 e2
  cases e
  exact⟨a,b,cg e1,e2,rfl⟩
 ·cases e
inductive gW(h:Heap)(q:PyData)(v:Value):Prop
 |mk (p:PyData) (as:List Addr):Reads h v p as→SeqAt.shaped p=true→YQ h q v=PyData.eqv p q→gW h q v
theorem bS{P:Params}{g h:Heap}(k:∀b o,g.get? b=some o→h.get? b=some o){cs:List AK}{y:AV}{x0:D}{q:PyData}(hy:He cs y=some x0)(hq:MI x0=some q){vs:List Value}{xs:List D}(hr:Al (Rd P g) vs xs):
  ∀{r:Bool},Pd cs y xs=some r→vs.any (YQ h q)=r∧∀v∈vs,gW h q v:=by
 induction hr with
 |nil=>intro r e;cases e;exact⟨rfl,fun v hv=>by cases hv⟩
 |cons hv _ ih=>
  intro r e
  obtain⟨a,b,⟨x,y',p,q',e1,e2,e3,e4,s1,s2,rfl⟩,eb,rfl⟩:=ch e
  obtain⟨h1,h2⟩:=ih eb
  cases hy.symm.trans e2
  cases hq.symm.trans e4
  cases e1
  obtain⟨as,ra⟩:=M5 k hv e3
  have hh:=bR (q:=q) (SeqAt.canLay_of_shaped s1) ra
  refine⟨by rw[List.any_cons,h1,hh],fun v hv'=>?_⟩
  rcases List.mem_cons.mp hv' with rfl|hv'
  ·exact⟨p,as,ra,s1,hh⟩
  ·exact h2 v hv'
section
variable {Γ:BO} {sc:Scope}
noncomputable def jB(n:Bool→Bool)(y b:AV)(σ:St):R AV:=aOn b (fun z0=>.stuck) (fun l=>ofO (aC y) fun c=>.ok (.d (.bool (n (decide (c∈l))))) σ) (fun xs=>ofO (Pd σ.cs y xs) fun r=>.ok (.d (.bool (n r))) σ) (fun xs=>ofO (Pd σ.cs y xs) fun r=>.ok (.d (.bool (n r))) σ) (fun z0=>.stuck)
noncomputable def Ot:AV→AV→St→R AV:=jB fun b=>b
noncomputable def JX:AV→AV→St→R AV:=jB fun b=>!b
theorem RZ{g:Heap}{φ:Nat→Addr}{σ:St}{s:Shared}(X:OK Γ sc g)(S:CF Γ g φ σ s.heap){va:Value}{y:AV}{xs:List D}{vs:List Value}{r:Bool}(v1:CJ Γ.P g φ σ.cs.length va y)(hr:C3 Γ.P g vs xs)(e:Pd σ.cs y xs=some r):
  Aj (fun(f:Value→Bool)=>vs.any f=r) (fun(f:Value→Bool)=>∀v∈vs.toArray,SeqAt.EqAt Γ.A.in1 s v va (f v)):=by
 cases xs with
 |nil=>cases e;rw[hr.inv0];exact⟨fun z0=>false,rfl,fun v hv=>by simp at hv⟩
 |cons x xs=>
  obtain⟨_,_,⟨x1,x0,p,q,_,hy,_,hq,_,hs,_⟩,_,_⟩:=ch e
  obtain⟨bs,rb⟩:=K7 S.inv v1 hy hq
  obtain⟨h1,h2⟩:=bS S.inv.sub hy hq hr.all2 e
  refine⟨YQ s.heap q,h1,fun v hv=>?_⟩
  obtain⟨p,as,ra,hp,hh⟩:=h2 v (by simpa using hv)
  rw[hh]
  exact fun prog w E Q hQ=>SeqAt.eqBoolOverData prog w Γ.A.in1 E s v va p q as bs Q ra rb (SeqAt.canLay_of_shaped hp) (SeqAt.canLay_of_shaped hs) (SeqAt.room_of_shaped hp (by have:=X.units;have:cLine=9900:=cLine_is;show Γ.A.units+1+64<_;lia)) hQ
theorem YR{t:Value→Value→Sem Value}{n:Bool→Bool}(hs:∀(c:Nat) (l:List Nat) u w (s:Shared) (Q:Value→Shared→Prop),Q (.bool (n (!(Builtin.Str.occurrences (so l) ⟨#[c]⟩ 0 (so l).length 1).isEmpty))) s→wpAny Γ.M Γ.A (t (.str (so [c]) u) (.str (so l) w)) Q (fun z0 z0=>False) s)
  (hl:∀(f:Value→Bool) a items v (s:Shared) (Q:Value→Shared→Prop),s.heap.IsList a items→(∀y∈items,SeqAt.EqAt Γ.A.in1 s y v (f y))→Q (.bool (n (items.any f))) s→wpAny Γ.M Γ.A (t v (.ref a)) Q (fun z0 z0=>False) s)
  (ht:∀(f:Value→Bool) a items v k (s:Shared) (Q:Value→Shared→Prop),IsT s.heap a items k→(∀y∈items,SeqAt.EqAt Γ.A.in1 s y v (f y))→Q (.bool (n (items.any f))) s→wpAny Γ.M Γ.A (t v (.ref a)) Q (fun z0 z0=>False) s):Hc Γ sc t (jB n):=fun σ va vb a b ns g φ s X S v1 v2=>
 At.aOn ns v2 (fun z0 z0 z0 ns=>absurd rfl ns) (fun l u e ns=>At.ofO ns fun c ec z0=>by
   obtain⟨w,rfl⟩:=RD v1 ec
   subst e
   refine At.still S (hs c l w u s _ ⟨rfl,Bn.refl _,?_⟩)
   have:=StrLaws.found_one (so l) c
   rw[this,bB]
   exact .bool _)
  (fun xs r ns=>At.ofO ns fun q e z0=>by
   obtain⟨_,ws,_,rfl,hg,hr⟩:=r
   obtain⟨f,h1,h2⟩:=RZ X S v1 hr e
   refine At.still S (hl f _ _ va s _ (IsL.isList (S.inv.sub _ _ hg)) h2 ⟨rfl,Bn.refl _,?_⟩)
   rw[List.any_toArray,h1];exact .bool _)
  (fun xs r ns=>At.ofO ns fun q e z0=>by
   obtain⟨_,ws,k,rfl,hg,hr⟩:=r
   obtain⟨f,h1,h2⟩:=RZ X S v1 hr e
   refine At.still S (ht f _ _ va k s _ (S.inv.sub _ _ hg) h2 ⟨rfl,Bn.refl _,?_⟩)
   rw[List.any_toArray,h1];exact .bool _) fun z0 z0 ns=>absurd rfl ns
theorem gY:Hc Γ sc (compareOp .In) Ot:=YR (n:=fun b=>b) (fun c l u w s Q q=>PyProof.Rows.in_str q) (fun f a items v s Q h k q=>SeqAt.in_listAt f h k q) fun f a items v k s Q h k' q=>SeqAt.in_tupleAt f ⟨_,h,rfl,_,rfl⟩ k' q
theorem YS:Hc Γ sc (compareOp .NotIn) JX:=YR (n:=fun b=>!b) (fun c l u w s Q q=>PyProof.Rows.notIn_str q) (fun f a items v s Q h k q=>SeqAt.notIn_listAt f h k q) fun f a items v k s Q h k' q=>SeqAt.notIn_tupleAt f ⟨_,h,rfl,_,rfl⟩ k' q
noncomputable def Vf(cs:List AK)(a:AV):Option Nat:=Option.rec ((aM a).bind fun i=>(BL cs i).map List.length) (fun l=>some l.length) (aL a)
theorem Tz{P:Params}{g h:Heap}{φ:Nat→Addr}{cs:List AK}{aux:List (Addr×FI)}(I:DK P g φ cs aux h){v:Value}{a:AV}{n:Nat}(hv:CJ P g φ cs.length v a)(e:Vf cs a=some n):
  E2_3 (fun ad items=>v=.ref ad) (fun ad items=>h.IsList ad items) (fun ad items=>items.size=n):=by
 unfold Vf at e
 cases el:aL a with
 |some l=>
  rw[el] at e
  cases e
  obtain⟨_,_,_,rfl,h1,h2⟩:=Oo hv el
  exact⟨_,_,rfl,IsL.isList (I.sub _ _ h1),by rw[List.size_toArray,h2.len]⟩
 |none=>
  rw[el] at e
  obtain⟨i,ei,e⟩:=Option.bind_eq_some_iff.mp e
  obtain⟨xs,q,rfl⟩:=Option.map_eq_some_iff.mp e
  rw[Xw ei] at hv
  obtain⟨ws,k,ho,b⟩:=I.cell i _ (C4 q)
  exact⟨_,_,hv.1,ho.isList,by rw[List.size_toArray,b.length]⟩
noncomputable def gZ(a:AV):Option Unit:=(aL a).bind fun l=>List.rec (some ()) (fun z0 z0 z0=>none) l
noncomputable def JY(a b:AV)(σ:St):R AV:=ofO (gZ b) fun z0=>ofO (Vf σ.cs a) fun n=>.ok (.d (.bool (n !=0))) σ
theorem YT:Hc Γ sc (compareOp .NotEq) JY:=fun σ va vb a b ns g φ s X S v1 v2=>At.ofO ns fun z0 eb ns=>At.ofO ns fun n e z0=>by
 obtain⟨l,el,ez⟩:=Option.bind_eq_some_iff.mp eb
 obtain⟨_,_,_,rfl,hg,hr⟩:=Oo v2 el
 obtain rfl:l=[]:=by cases l with|nil=>rfl|cons=>cases ez
 obtain rfl:=hr.inv0
 obtain⟨ad,items,rfl,hl,rfl⟩:=Tz S.inv v1 e
 have hb:s.heap.IsList _ _:=IsL.isList (S.inv.sub _ _ hg)
 have hu:Γ.A.units<cLine:=by have:=X.room;lia
 by_cases hz:items.size=0
 ·have e0:items= #[]:=Array.eq_empty_of_size_eq_zero hz
  subst e0
  exact At.still S (SeqAt.RcNeAt.lists (e:=fun z0=>true) hl hb rfl hu (fun j h1 h2=>by simp at h1) _ _ _ _ ⟨rfl,Bn.refl _,.bool _⟩)
 ·refine At.still S (SeqAt.RcNeAt.lists_lengths hl hb (by simpa using hz) hu _ _ _ _ ⟨rfl,Bn.refl _,?_⟩)
  rw[show(items.size !=0)=true by simpa using hz]
  exact .bool _
end
noncomputable def C1:List (List Nat×List Nat×Int×Int):=[([85,78,68,69,70],[],0,1),([78,85,76,76],[],0,1),([84,82,85,69],[],0,1),([70,65,76,83,69],[],0,1),([67,79,78,83,84],[107],0,1),([84,72,73,83],[],0,1),([80,79,80],[],1,0),([68,85,80],[],1,2),([68,85,80,50],[],2,4),([83,87,65,80],[],2,2),([82,79,84,51],[],3,3),([71,69,84,76,79,67],[108],0,1),([83,69,84,76,79,67],[108],1,1),([71,69,84,67,69,76,76],[99],0,1),([83,69,84,67,69,76,76],[99],1,1),([71,69,84,85,80],[117],0,1),([83,69,84,85,80],[117],1,1),([70,82,69,83,72],[99],0,0),([71,69,84,71,76,79,66],[115],0,1),([84,89,80,69,71,76,79,66],[115],0,1),([83,69,84,71,76,79,66],[115],1,1),([68,69,67,76,86,65,82],[115],0,0),([68,69,67,76,70,85,78],[115],1,0),([71,69,84,80,82,79,80],[115],1,1),([83,69,84,80,82,79,80],[115],2,1),([71,69,84,69,76,69,77],[],2,1),([83,69,84,69,76,69,77],[],3,1),([68,69,76,80,82,79,80],[115],1,1),([68,69,76,69,76,69,77],[],2,1),([68,69,76,78,65,77,69],[115],0,1),([65,68,68],[],2,1),([83,85,66],[],2,1),([77,85,76],[],2,1),([68,73,86],[],2,1),([77,79,68],[],2,1),([83,72,76],[],2,1),([83,72,82],[],2,1),([85,83,72,82],[],2,1),([65,78,68],[],2,1),([79,82],[],2,1),([88,79,82],[],2,1),([69,81],[],2,1),([78,69],[],2,1),([83,69,81],[],2,1),([83,78,69],[],2,1),([76,84],[],2,1),([71,84],[],2,1),([76,69],[],2,1),([71,69],[],2,1),([73,78],[],2,1),([73,78,83,84,65,78,67,69,79,70],[],2,1),([78,69,71],[],1,1),([84,79,78,85,77],[],1,1),([78,79,84],[],1,1),([66,73,84,78,79,84],[],1,1),([84,89,80,69,79,70],[],1,1),([73,78,67],[],1,1),([68,69,67],[],1,1),([74,77,80],[116],0,0),([74,70],[116],1,0),([74,84],[116],1,0),([74,70,75],[116],1,0),([74,84,75],[116],1,0),([67,65,76,76],[110],2,1),([78,69,87],[110],1,1),([82,69,84],[],1,0),([84,72,82,79,87],[],1,0),([67,76,79,83,85,82,69],[102],0,1),([78,69,87,79,66,74],[],0,1),([78,69,87,65,82,82],[110],0,1),([72,79,76,69],[],0,1),([73,78,73,84,80,82,79,80],[115],2,1),([73,78,73,84,71,69,84],[115],2,1),([73,78,73,84,83,69,84],[115],2,1),([77,69,84,72,79,68],[115],1,2),([77,69,84,72,79,68,69,76],[],2,2),([70,79,82,73,78],[],1,1),([78,69,88,84,73,78],[116],1,2),([71,79,83,85,66],[116],0,0),([82,69,84,83,85,66],[],2,0),([67,72,69,67,75,79,66,74],[],1,1),([84,79,75,69,89],[],2,2),([82,79,84,52],[],4,4),([70,65,73,76,83,69,84],[115],1,0),([82,69,71,69,88,80],[],2,1)]
noncomputable def Ra(r:List Nat×List Nat×Int×Int):D:=.tup [.str r.1,.str r.2.1,.int r.2.2.1,.int r.2.2.2]
noncomputable def ML:List D:=C1.map Ra
noncomputable def jC(t:Nat)(r:List Nat×List Nat×Int×Int):List Value:=[.str (so r.1) t,.str (so r.2.1) (t+1),.int r.2.2.1 (t+2),.int r.2.2.2 (t+3)]
noncomputable def jD(t:Nat)(r:List Nat×List Nat×Int×Int):Obj:=⟨.type "tuple",none,.seq (jC t r).toArray 0,List.toArray []⟩
noncomputable def Ou:Nat→List (List Nat×List Nat×Int×Int)→List (Option Obj)
 |_,[]=>[]
 |t,r::rs=>some (jD t r)::Ou (t+4) rs
noncomputable def NG:Nat→Nat→List Value
 |_,0=>[]
 |a,n+1=>.ref a::NG (a+1) n
theorem YU:∀P,(List.range' 15 85).map (fun a=>List.lookup a (Kp pw P))=Ou 189 C1:=fun P=>by kernel_rfl
theorem YV:∀P,List.lookup 100 (Kp pw P)=some ⟨.type "list",none,.seq (NG 15 85).toArray 0,List.toArray []⟩:=fun P=>by kernel_rfl
theorem Vg{P:Params}{g:Heap}(X:(Kp pw P).In g):∀(n a t:Nat) (rs:List (List Nat×List Nat×Int×Int)),(List.range' a n).map (fun a=>List.lookup a (Kp pw P))=Ou t rs→C3 P g (NG a n) (rs.map Ra)
 |0,a,t,[],_=>.nil
 |0,a,t,r::rs,e=>by simp[Ou] at e
 |n+1,a,t,[],e=>by simp[Ou,List.range'] at e
 |n+1,a,t,r::rs,e=>by
  rw[List.range'_succ,List.map_cons] at e
  unfold Ou at e
  injection e with e1 e2
  exact .cons (.tup (X _ _ e1) (.cons (.str _ _) (.cons (.str _ _) (.cons (.int _ _) (.cons (.int _ _) .nil))))) (Vg X n (a+1) (t+4) rs e2)
theorem dn{P:Params}{g:Heap}(X:(Kp pw P).In g):Rd P g (.ref 100) (.lst ML):=.lst (X _ _ (YV P)) (Vg X 85 15 189 C1 (YU P))
theorem YW:∀P,nsIn (Kp pw P) mainGlobals "OPERATIONS"=some (some (.ref 100)):=fun P=>by kernel_rfl
section
variable {Γ:BO} {sc:Scope}
theorem Ov{x:Str}{p:Pos}{v:Value}{d:D}(hl:sc.names.lookup x=some .globalImplicit)(hk:∀P,nsIn (Kp pw P) mainGlobals x=some (some v))(hr:∀P g,(Kp pw P).In g→Rd P g v d)(hd:(x==("__debug__" :Str))=false:=by decide):A1 Γ sc (.Name x p) (cF d):=fun σ ns g φ s X S=>
 At.still S (Ht hl hk hd g X s _ _ S.inv.sub ⟨rfl,Bn.refl _,hr _ _ X.wd⟩)
theorem Wp{x:Str}{p:Pos}{v:Value}{d:D}(hl:sc.names.lookup x=some .globalImplicit)(hk:∀P,nsIn (Kp pw P) mainGlobals x=some none)(hv:bootBuiltins x=some v)(hn:x≠"__name__")(hr:∀P g,Rd P g v d)(hd:(x==("__debug__" :Str))=false:=by decide):A1 Γ sc (.Name x p) (cF d):=fun σ ns g φ s X S=>
 At.still S (Gx hl hk hv hn hd g X s _ _ S.inv.sub ⟨rfl,Bn.refl _,hr _ _⟩)
theorem Wq(bs:List Bool):((List.range bs.length).all fun i=>(bs[i]?).getD true)=bs.all id:=by
 rw[Bool.eq_iff_iff,List.all_eq_true,List.all_eq_true]
 constructor
 ·intro h x hx
  obtain⟨i,hi⟩:=List.getElem?_of_mem hx
  have:=h i (List.mem_range.mpr (List.getElem?_eq_some_iff.mp hi).1)
  rw[hi] at this
  exact this
 ·intro h i hi
  rw[List.getElem?_eq_getElem (List.mem_range.mp hi)]
  exact h _ (List.getElem_mem _)
noncomputable def G1:List D→Option (List Bool)
 |[]=>some []
 |.bool b::r=>(G1 r).map (b:: ·)
 |_=>none
theorem Pe{P:Params}{g:Heap}{vs:List Value}{ds:List D}(h:Al (Rd P g) vs ds):∀{bs:List Bool},G1 ds=some bs→vs=bs.map Value.bool:=by
 induction h with
 |nil=>intro bs e;cases e;rfl
 |@cons v x vs xs h _ ih=>
  intro bs e
  obtain⟨b,rfl⟩:∃b,x=.bool b:=by cases x with|bool b=>exact⟨b,rfl⟩|_=>exact nomatch e
  obtain⟨z,hz,rfl⟩:=Option.map_eq_some_iff.mp e
  rw[ih hz,h.invB];rfl
theorem Rb{P:Params}{g:Heap}{vs:List Value}{ds:List D}{bs:List Bool}(h:C3 P g vs ds)(e:G1 ds=some bs):vs=bs.map Value.bool:=Pe h.all2 e
noncomputable def Wr:List AV→St→R AV:=one fun v σ=>ofO ((Wj σ.cs v).bind G1) fun bs=>.ok (.d (.bool (bs.all id))) σ
theorem dp:JS Γ sc (fun vs=>call (.builtin "all") vs) Wr:=JS.one fun σ va a ns g φ s X S v=>At.ofO ns fun bs eb z0=>by
 obtain⟨ds,ed,e2⟩:=Option.bind_eq_some_iff.mp eb
 obtain⟨l,ws,k,rfl,ho,hr⟩:=RT S.inv v (Ve ed)
 obtain rfl:=Rb hr e2
 have hl:=ho.isList
 have hlt:l<s.heap.objs.size:=Heap.lt_size ho
 refine At.grows S (call_all_walk (wpAny_pyIter_list hl ?_))
 refine⟨s.heap.objs.size,[s.heap.objs.size,l],[s.heap.objs.size],(bs.map Value.bool).toArray.size,_,_,fun i=>(bs[i]?).getD true,rfl,Walks.list (A:=Γ.A.in1) X.hnd _ l (Nat.ne_of_lt hlt) (bs.map Value.bool).toArray,
  ⟨⟨_,Heap.get?_push_size _ rfl,rfl,rfl⟩,hl.push _⟩,fun i v s' Q' E' hP hQ=>?_,fun h' tk hk=>⟨fun b o e=>?_,⟨rfl,rfl⟩,?_⟩⟩
 ·simp only[List.getElem?_toArray,List.getElem?_map,Option.map_eq_some_iff] at hP
  obtain⟨b,e,rfl⟩:=hP
  simp only[e,Option.getD_some] at hQ
  exact wpAny_truthy_bool hQ
 ·exact hk b o (fun hm=>by rw[List.mem_singleton.mp hm] at e;rw[A2] at e;cases e) (Heap.get?_push_of_some _ e)
 ·have e:((List.range (bs.map Value.bool).toArray.size).all fun i=>(bs[i]?).getD true)=bs.all id:=by
   rw[List.size_toArray,List.length_map];exact Wq bs
  rw[e];exact .bool _
noncomputable def dq(a v w:AV)(σ:St):R AV:=ofO (aI a) fun x=>ofO (aI v) fun y=>ofO (i8 (-1) w) fun z0=>if x.natAbs<2^30∧y.natAbs<2^30 then .ok (.d (.rng x y (-1))) σ else .stuck
noncomputable def dt(a:AV)(σ:St):R AV:=ofO (aI a) fun b=>.ok (.d (.rng 0 b 1)) σ
noncomputable def Bw(vs:List AV)(σ:St):R AV:=List.rec .stuck (fun a r z0=>List.rec (dt a σ) (fun b r' z0=>two (fun v w σ=>dq a v w σ) (b::r') σ) r) vs
theorem YX:JS Γ sc (fun vs=>call (.type "range") vs) Bw:=fun σ vs bs ns g φ s X S v=>by
 cases v with
 |nil=>exact absurd rfl ns
 |cons hv r=>cases r with
  |nil=>
   have ns:dt _ σ≠.stuck:=ns
   show At _ _ _ (dt _ σ) _ _ _ _
   refine At.ofO ns fun b eb z0=>?_
   obtain⟨u,rfl⟩:=Gd hv eb
   exact At.grows S (call_range_1 ⟨fun b o' e=>Heap.get?_push_of_some _ e,⟨rfl,rfl⟩,.rng (DR (A2 _) (Heap.get?_push_size _ rfl))⟩)
  |cons hw r=>cases r with
   |nil=>exact absurd rfl ns
   |cons hx r=>cases r with
    |cons=>exact absurd rfl ns
    |nil=>
     have ns:dq _ _ _ σ≠.stuck:=ns
     show At _ _ _ (dq _ _ _ σ) _ _ _ _
     refine At.ofO ns fun x ex ns=>At.ofO ns fun y ey ns=>At.ofO ns fun z ez ns=>At.ite ns fun hz z0=>?_
     obtain⟨t,rfl⟩:=Gd hv ex
     obtain⟨u,rfl⟩:=Gd hw ey
     obtain⟨w,rfl⟩:=Xx hx ez
     exact At.grows S (PySem.call_range_3 (by decide) ⟨fun b o' e=>Heap.get?_push_of_some _ e,⟨rfl,rfl⟩,.rng (DR (A2 _) (Heap.get?_push_size _ rfl))⟩ (hp:=Or.inl (PyProof.noPylong_small (by decide))))
end
structure OL(la:List Addr)(p:Addr→Prop)(h h':Heap):Prop where
 live:∀b o,h.get? b=some o→∃o',h'.get? b=some o'
 kept:∀b o,h.get? b=some o→¬p b→b∉la→h'.get? b=some o
 slot:∀b o,h.get? b=some o→¬p b→∃sl,h'.get? b=some {o with slots:=sl}
theorem OL.refl(la:List Addr)(p:Addr→Prop)(h:Heap):OL la p h h:=⟨fun z0 o e=>⟨o,e⟩,fun z0 z0 e z0 z0=>e,fun z0 o e z0=>⟨o.slots,e⟩⟩
theorem OL.at{la:List Addr}{p:Addr→Prop}{h:Heap}{T:Addr}{oT:Obj}{f:Obj→Obj}(hp:p T)(hT:h.get? T=some oT)(hf:(f oT).isFreed=false):OL la p h (h.update T f):=by
 refine⟨fun b o e=>?_,fun b o e n z0=>?_,fun b o e n=>⟨o.slots,?_⟩⟩
 ·by_cases q:b=T
  ·subst q;exact⟨_,Heap.get?_update_self f hT hf⟩
  ·exact⟨o,(Heap.get?_update_other _ _ (Ne.symm q)).trans e⟩
 ·exact(Heap.get?_update_other _ _ (fun q:T=b=>n (q▸hp))).trans e
 ·exact(Heap.get?_update_other _ _ (fun q:T=b=>n (q▸hp))).trans e
theorem OL.trans{la:List Addr}{p:Addr→Prop}{h h' h'':Heap}(x:OL la p h h')(y:OL la p h' h''):OL la p h h'':=
 ⟨fun b o e=>let⟨o',e'⟩:=x.live b o e;y.live b o' e',fun b o e n l=>y.kept b o (x.kept b o e n l) n l,fun b o e n=>let⟨_,e'⟩:=x.slot b o e n;let⟨sl,e''⟩:=y.slot b _ e' n;⟨sl,e''⟩⟩
theorem DK.mov{P:Params}{g h h':Heap}{φ:Nat→Addr}{cs:List AK}{aux:List (Addr×FI)}{p:Addr→Prop}(I:DK P g φ cs aux h)(m:OL (aux.map (·.1)) p h h')
  (hp:∀b,p b→g.get? b=none∧(∀i,i<cs.length→φ i≠b)∧b∉aux.map (·.1)):DK P g φ cs aux h' where
 sub b o e:=m.kept b o (I.sub b o e) (fun z=>by rw[(hp b z).1] at e;cases e) (fun z=>by
  obtain⟨q,hq,rfl⟩:=List.mem_map.mp z
  rw[(I.fiOut q hq).1] at e;cases e)
 out:=I.out
 inj:=I.inj
 cell i c e:=(I.cell i c e).mono (fun z0 z0 e=>e) (Nat.le_refl _) (fun z0 z0=>rfl) fun o q=>m.kept _ o q (fun z=>(hp _ z).2.1 i (I.cellLt e) rfl) (fun z=>by
  obtain⟨q,hq,e2⟩:=List.mem_map.mp z
  exact(I.fiOut q hq).2 i (I.cellLt e) e2.symm)
 fi q hq:=(I.fi q hq).mono (fun z0 z0 e=>e) (Nat.le_refl _) (fun z0 z0=>rfl) fun o e=>m.slot _ o e fun z=>(hp _ z).2.2 (List.mem_map_of_mem hq)
 fiOut:=I.fiOut
 nodup:=I.nodup
theorem DH.mov{la:List Addr}{g g':Heap}{φ φ':Nat→Addr}{n n':Nat}{h h' h'':Heap}{p:Addr→Prop}(x:DH la g φ n h g' φ' n' h')(m:OL la p h' h'')(hp:∀b,p b→h.get? b=none):DH la g φ n h g' φ' n' h'':=
 ⟨x.sub,x.len,x.eq,x.fresh,fun b o e=>let⟨o',e'⟩:=x.live b o e;m.live b o' e',fun b o e n1 n2=>m.kept b o (x.kept b o e n1 n2) (fun z=>by rw[hp b z] at e;cases e) n2,x.gnew⟩
inductive Gh(e:Value)(h:Heap):Prop
 |mk (a:Addr) (oe:Obj) (vs:Array Value) (T:Addr):e=.ref a→h.get? a=some oe→oe.data=.fields vs→vs[1]? =some (.ref T)→Gh e h
section
variable {Γ:BO} {sc:Scope} {g:Heap} {φ:Nat→Addr} {σ:St} {s:Shared} {h0:Heap} {e:Value} {E:Value→Shared→Prop}
theorem Pf{P:Params}{h:Heap}{cs:List AK}{aux:List (Addr×FI)}(I:DK P g φ cs aux h){a:Addr}{o:Obj}{vs:Array Value}(ho:h.get? a=some o)(hd:o.data=.fields vs):a∉aux.map (·.1):=fun z=>by
 obtain⟨q,hq,rfl⟩:=List.mem_map.mp z
 obtain⟨o',h1,h2⟩:=(I.fi q hq).there
 rw[ho] at h1;cases h1;exact h2 _ hd
theorem CF.mov{h h':Heap}{p:Addr→Prop}(S:CF Γ g φ σ h)(m:OL Γ.la p h h')(hp:∀b,p b→g.get? b=none∧(∀i,i<σ.cs.length→φ i≠b)∧b∉Γ.la):CF Γ g φ σ h':=by
 have:=DT Γ σ.m σ.b
 exact⟨S.inv.mov (p:=p) (this▸m) (this▸hp)⟩
theorem UA{h:Heap}(hb:Heap){l:List Env}(I:DK Γ.P g φ σ.cs (Γ.aux σ.m σ.b) h)(hn:∀b,b∈Γ.la→hb.get? b=none)(hl:∀e∈l,e.scope.kind≠.module∧Aj (fun L=>e.frame=some L) (fun L=>L∈Γ.la)):h.FunFrames hb l:=by
 induction l with
 |nil=>trivial
 |cons e r ih=>
  obtain⟨h1,L,h2,h3⟩:=hl e (.head _)
  rw[←DT Γ σ.m σ.b] at h3
  obtain⟨q,hq,rfl⟩:=List.mem_map.mp h3
  obtain⟨o,h4,h5⟩:=(I.fi q hq).there
  exact⟨h1,⟨q.1,o,h2,hn _ (by rw[←DT Γ σ.m σ.b];exact h3),h4,h5⟩,ih fun e he=>hl e (.tail _ he)⟩
theorem Ow{L a:Addr}{oe:Obj}{vs:Array Value}{head:Value}{hadNext:Bool}{e0:Env}{es:List Env}{Q:Unit→Shared→Prop}(S:CF Γ g φ σ s.heap)(hfr:Γ.A.frames=some (e0::es))(hf:e0.frame=some L)
  (hl:∀e∈e0::es,e.scope.kind≠.module∧Aj (fun L=>e.frame=some L) (fun L=>L∈Γ.la))(he:s.heap.get? a=some oe)(hd:oe.data=.fields vs)(hsz:1<vs.size)
  (h:∀h' T oT ts vs' oe',OL Γ.la (· =a) s.heap h'→h'.get? a=some oe'→oe'.cls=oe.cls→oe'.data=.fields vs'→vs'[1]? =some (.ref T)→1<vs'.size→T≠a→s.heap.get? T=none→h'.get? T=some oT→oT.data=.fields ts→3<ts.size→Q () {s with heap:=h'}):
  wpAny Γ.M Γ.A (do let b ←frameOf e0;let pl ←entryPlaceOf L hadNext;let b ←EntryCells.newEntry head b .none (rawInt L) .none pl;setField (.ref a) 1 b) Q E s:=by
 have hbn:∀b,b∈Γ.la→(dS s.heap fun b=>b≠a∧b∉Γ.la).get? b=none:=fun b hb=>Q8 fun z=>z.2 hb
 have FF:=UA (dS s.heap fun b=>b≠a∧b∉Γ.la) S.inv hbn hl
 have hane:a∉(e0::es).filterMap (·.frame):=fun hm=>by
  obtain⟨_,o,ho,hnf⟩:=FF.mem hm
  rw[he] at ho;cases ho;exact hnf vs hd
 have hfl:∀b,b∈(e0::es).filterMap (·.frame)→b∈Γ.la:=fun b hb=>by
  obtain⟨e,he,q⟩:=List.mem_filterMap.mp hb
  obtain⟨_,L,h2,h3⟩:=hl e he
  rw[h2] at q;cases q;exact h3
 refine wpAny_bind (wpAny_frameOf_fun hfr FF hf fun h₁ hs₁=>?_)
 refine wpAny_bind (wpAny_entryPlaceOf fun pl hpl=>?_)
 unfold EntryCells.newEntry newFields
 refine wpAny_bind (wpAny_newObj_type ?_ (hpl.sizeOk5 _ _ _ _ _))
 have he₁:h₁.get? a=some oe:=(hs₁.2.1 a hane).trans he
 have m1:OL Γ.la (· =a) s.heap h₁:=⟨fun b o q=>let⟨sl,z⟩:=hs₁.2.2 b o q;⟨_,z⟩,fun b o q z0 n=>(hs₁.2.1 b fun z=>n (hfl b z)).trans q,fun b o q z0=>hs₁.2.2 b o q⟩
 have he₂:=Heap.get?_push_of_some (h:=h₁) {cls:=.type "traceback",dict:=none,data:=.fields ([head,.ref L,.none,rawInt L,.none]++(if pl.isEmpty then List.replicate 6 Value.none else pl)).toArray} he₁
 have m2:OL Γ.la (· =a) h₁ (h₁.push {cls:=.type "traceback",dict:=none,data:=.fields ([head,.ref L,.none,rawInt L,.none]++(if pl.isEmpty then List.replicate 6 Value.none else pl)).toArray}):=
  ⟨fun b o q=>⟨o,Heap.get?_push_of_some _ q⟩,fun b o q z0 z0=>Heap.get?_push_of_some _ q,fun b o q z0=>⟨o.slots,Heap.get?_push_of_some _ q⟩⟩
 have hTe:h₁.objs.size≠a:=Nat.ne_of_gt (Heap.lt_size he₁)
 have hd₃:=Obj.data_mapFields hd (·.setIfInBounds 1 (Value.ref h₁.objs.size))
 have m3:=OL.at (la:=Γ.la) (p:=(· =a)) (f:=Obj.mapFields (·.setIfInBounds 1 (Value.ref h₁.objs.size))) rfl he₂ (Obj.isFreed_of_fields hd₃)
 have he₃:=Heap.get?_update_self (Obj.mapFields (·.setIfInBounds 1 (Value.ref h₁.objs.size))) he₂ (Obj.isFreed_of_fields hd₃)
 have hT₃:=(Heap.get?_update_other (h₁.push {cls:=.type "traceback",dict:=none,data:=.fields ([head,.ref L,.none,rawInt L,.none]++(if pl.isEmpty then List.replicate 6 Value.none else pl)).toArray})
  (Obj.mapFields (·.setIfInBounds 1 (Value.ref h₁.objs.size))) (Ne.symm hTe)).trans (Heap.get?_push_size h₁ rfl)
 refine wpAny_setField he₂ hd hsz (h _ h₁.objs.size _ _ _ _ ((m1.trans m2).trans m3) he₃ (Obj.cls_mapFields _ _) hd₃ (by simp[hsz]) (by simpa using hsz) hTe ?_ hT₃ rfl (by simp only[List.size_toArray,List.length_append,List.length_cons,List.length_nil]<;>lia))
 cases q:s.heap.get? h₁.objs.size with
 |none=>rfl
 |some o=>obtain⟨sl,z⟩:=hs₁.2.2 _ o q;exact absurd (Heap.lt_size z) (Nat.lt_irrefl _)
theorem Rc(X:OK Γ sc g)(S:CF Γ g φ σ s.heap)(F:Dg g φ σ.cs.length h0 e s.heap)(hsub:∀b o,h0.get? b=some o→∃o',s.heap.get? b=some o'){Q:Unit→Shared→Prop}
  (h:∀h' p,CF Γ g φ σ h'→OL Γ.la p s.heap h'→(∀b,p b→h0.get? b=none)→Dg g φ σ.cs.length h0 e h'→Gh e h'→Q () {s with heap:=h'}):wpAny Γ.M Γ.A (noteFrame e Γ.env) Q E s:=by
 obtain⟨e0,es,hfr,hfe,hl⟩:=X.fr
 obtain⟨_,L,hL,hLa⟩:=hl e0 (.head _)
 have ne:noteFrame e Γ.env=noteFrame e e0:=by unfold noteFrame PySem.frameOf;rw[hfe]
 rw[ne]
 obtain⟨a,oe,vs,rfl,he,hc,hd,hsz,hn0,hg,hφ,htr⟩:=F
 have nea:a∉Γ.la:=by rw[←DT Γ σ.m σ.b];exact Pf S.inv he hd
 have fresh0:∀b,s.heap.get? b=none→h0.get? b=none:=fun b hb=>by
  cases q:h0.get? b with
  |none=>rfl
  |some o=>obtain⟨o',z⟩:=hsub b o q;rw[hb] at z;cases z
 have freshg:∀b,s.heap.get? b=none→g.get? b=none:=fun b hb=>by
  cases q:g.get? b with
  |none=>rfl
  |some o=>rw[S.inv.sub b o q] at hb;cases hb
 have freshφ:∀b,s.heap.get? b=none→∀i,i<σ.cs.length→φ i≠b:=fun b hb i hi z=>by
  obtain⟨o,q⟩:=S.inv.there hi;rw[z,hb] at q;cases q
 unfold noteFrame
 simp only[hL]
 rcases htr with h1|⟨T,oT,ts,h1,hTa,hT0,hTg,hTφ,hT,hTd,hTs⟩
 ·refine wpAny_bind (wpAny_field he hd h1 ?_)
  rw[if_neg (by decide)]
  refine Ow S hfr hL hl he hd hsz fun h' T oT ts vs' oe' m x1 x2 x3 x4 x5 x6 x7 x8 x9 x10=>?_
  have hp:∀b,b=a→g.get? b=none∧(∀i,i<σ.cs.length→φ i≠b)∧b∉Γ.la:=fun b e=>e▸⟨hg,hφ,nea⟩
  exact h h' (· =a) (S.mov m hp) m (fun b e=>e▸hn0) ⟨a,oe',vs',rfl,x1,x2.trans hc,x3,x5,hn0,hg,hφ,.inr ⟨T,oT,ts,x4,x6,fresh0 T x7,freshg T x7,freshφ T x7,x8,x9,x10⟩⟩ ⟨a,oe',vs',T,rfl,x1,x3,x4⟩
 ·refine wpAny_bind (wpAny_field he hd h1 ?_)
  rw[if_pos (show(Value.ref T !=Value.none)=true from by simp)]
  have neT:T∉Γ.la:=by rw[←DT Γ σ.m σ.b];exact Pf S.inv hT hTd
  refine wpAny_bind (wpAny_field hT hTd (x:=ts[3]) (by simp[hTs]) ?_)
  split
  ·exact wpAny_pure (h s.heap (fun z0=>False) S (OL.refl ..) (fun z0 z=>z.elim) ⟨a,oe,vs,rfl,he,hc,hd,hsz,hn0,hg,hφ,.inr ⟨T,oT,ts,h1,hTa,hT0,hTg,hTφ,hT,hTd,hTs⟩⟩ ⟨a,oe,vs,T,rfl,he,hd,h1⟩)
  ·refine wpAny_bind (wpAny_setField hT hTd hTs ?_)
   have hTd':=Obj.data_mapFields hTd (·.setIfInBounds 3 Value.none)
   have m1:=OL.at (la:=Γ.la) (p:=fun b=>b=a∨b=T) (f:=Obj.mapFields (·.setIfInBounds 3 Value.none)) (.inr rfl) hT (Obj.isFreed_of_fields hTd')
   have hp:∀b,(b=a∨b=T)→g.get? b=none∧(∀i,i<σ.cs.length→φ i≠b)∧b∉Γ.la:=fun b e=>by
    rcases e with rfl|rfl
    ·exact⟨hg,hφ,nea⟩
    ·exact⟨hTg,hTφ,neT⟩
   have S1:CF Γ g φ σ (s.heap.update T (Obj.mapFields (·.setIfInBounds 3 Value.none))):=S.mov m1 hp
   have he1:=(Heap.get?_update_other s.heap (Obj.mapFields (·.setIfInBounds 3 Value.none)) hTa).trans he
   refine Ow (s:={s with heap:=s.heap.update T (Obj.mapFields (·.setIfInBounds 3 Value.none))}) S1 hfr hL hl he1 hd hsz fun h' T' oT' ts' vs' oe' m x1 x2 x3 x4 x5 x6 x7 x8 x9 x10=>?_
   have m2:OL Γ.la (fun b=>b=a∨b=T) (s.heap.update T (Obj.mapFields (·.setIfInBounds 3 Value.none))) h':=⟨m.live,fun b o q n l=>m.kept b o q (fun z=>n (.inl z)) l,fun b o q n=>m.slot b o q fun z=>n (.inl z)⟩
   have x7:s.heap.get? T'=none:=by
    cases q:s.heap.get? T' with
    |none=>rfl
    |some o=>obtain⟨o',z⟩:=m1.live T' o q;rw[x7] at z;cases z
   exact h h' (fun b=>b=a∨b=T) (S.mov (m1.trans m2) hp) (m1.trans m2) (fun b e=>by rcases e with rfl|rfl<;>assumption)
    ⟨a,oe',vs',rfl,x1,x2.trans hc,x3,x5,hn0,hg,hφ,.inr ⟨T',oT',ts',x4,x6,fresh0 T' x7,freshg T' x7,freshφ T' x7,x8,x9,x10⟩⟩ ⟨a,oe',vs',T',rfl,x1,x3,x4⟩
theorem UB{A':Around}(S:CF Γ g φ σ s.heap)(F:Dg g φ σ.cs.length h0 e s.heap){fr:Option Addr}{Q:Unit→Shared→Prop}
  (h:∀h' p,CF Γ g φ σ h'→OL Γ.la p s.heap h'→(∀b,p b→h0.get? b=none)→Dg g φ σ.cs.length h0 e h'→(Gh e s.heap→Gh e h')→Q () {s with heap:=h'}):wpAny Γ.M A' (setFlight e fr) Q E s:=by
 obtain⟨a,oe,vs,rfl,he,hc,hd,hsz,hn0,hg,hφ,htr⟩:=F
 unfold setFlight
 rcases htr with h1|⟨T,oT,ts,h1,hTa,hT0,hTg,hTφ,hT,hTd,hTs⟩
 ·refine wpAny_bind (wpAny_field he hd h1 ?_)
  rw[if_neg (by decide)]
  exact wpAny_pure (h s.heap (fun z0=>False) S (OL.refl ..) (fun z0 z=>z.elim) ⟨a,oe,vs,rfl,he,hc,hd,hsz,hn0,hg,hφ,.inl h1⟩ fun x=>x)
 ·refine wpAny_bind (wpAny_field he hd h1 ?_)
  rw[if_pos (show(Value.ref T !=Value.none)=true from by simp)]
  have neT:T∉Γ.la:=by rw[←DT Γ σ.m σ.b];exact Pf S.inv hT hTd
  have hTd':=Obj.data_mapFields hTd (·.setIfInBounds 3 (fr.elim Value.none fun f=>rawInt f))
  have m1:=OL.at (la:=Γ.la) (p:=fun b=>b=T) (f:=Obj.mapFields (·.setIfInBounds 3 (fr.elim Value.none fun f=>rawInt f))) rfl hT (Obj.isFreed_of_fields hTd')
  have he1:=(Heap.get?_update_other s.heap (Obj.mapFields (·.setIfInBounds 3 (fr.elim Value.none fun f=>rawInt f))) hTa).trans he
  refine wpAny_setField hT hTd hTs (h _ (fun b=>b=T) (S.mov m1 fun b e=>e▸⟨hTg,hTφ,neT⟩) m1 (fun b e=>e▸hT0) ?_ fun z0=>⟨a,oe,vs,T,rfl,he1,hd,h1⟩)
  exact⟨a,oe,vs,rfl,he1,hc,hd,hsz,hn0,hg,hφ,.inr ⟨T,_,_,h1,hTa,hT0,hTg,hTφ,Heap.get?_update_self _ hT (Obj.isFreed_of_fields hTd'),hTd',by simpa using hTs⟩⟩
end
noncomputable def Xj{α:Type}(m:Str→Option α)(x:Str)(v:α):Str→Option α:=fun y=>if y=x then some v else m y
noncomputable def St.setM(σ:St)(x:Str)(v:AV):St:={σ with m:=Xj σ.m x v}
noncomputable def St.setB(σ:St)(x:Str)(v:AV):St:={σ with b:=Xj σ.b x v}
section
variable {Γ:BO} {sc:Scope} {g:Heap} {φ:Nat→Addr} {σ:St} {s:Shared}
set_option tactic.hygienic true in
theorem At.storeL{x:Str}{v:Value}{a:AV}(X:OK Γ sc g)(S:CF Γ g φ σ s.heap)(hl:sc.names.lookup x=some .local)(hv:CJ Γ.P g φ σ.cs.length v a):
  At Γ (storeName Γ.env x v) VT (.ok () (σ.setM x a)) g φ σ.cs.length s:=by
 obtain⟨mm,hn,hm⟩:=S.ns
 have hk:(Γ.env.scope.kind== .class||(Γ.env.scope.kind== .module&&Γ.env.locals !=Γ.env.globals))=false:=by rw[X.sce,X.kind];rfl
 refine wpAny_storeName_local (m:=mm) (by show Γ.env.scope.names.lookup x=_;rw[X.sce];exact hl) (by rw[X.loc];exact hn) (fun h' hn' hs=>?_) hk
 rw[X.loc] at hn' hs
 have k:∀b o,b≠Γ.L→s.heap.get? b=some o→h'.get? b=some o:=fun b o hb e=>(hs.2 b hb).trans e
 refine⟨(),_,rfl,g,φ,⟨?_⟩,?_,trivial,⟨rfl,rfl⟩⟩
 ·refine S.inv.setFI (pre:=Γ.ba.map fun p=>(p.2,FI.box (σ.b p.1))) (a:=Γ.L) (f:=.ns σ.m) (f':=.ns (Xj σ.m x a)) k ⟨_,hn',fun y av e=>?_⟩
  unfold Xj at e
  split at e
  ·rename_i q;cases e;exact⟨v,if_pos q,hv⟩
  ·rename_i q
   obtain⟨w,h1,h2⟩:=hm y av e
   exact⟨w,by show(if y=x then _ else _)=_;rw[if_neg q];exact h1,h2⟩
 ·obtain⟨o,_,_,ho,_⟩:=hn'
  exact Q9 (by unfold BO.la;simp) k ⟨o,ho⟩
theorem At.storeB{x:Str}{v:Value}{a:AV}(X:OK Γ sc g)(S:CF Γ g φ σ s.heap)(hl:sc.names.lookup x=some .cell)(hb:(Γ.ba.lookup x).isSome=true)(hv:CJ Γ.P g φ σ.cs.length v a):
  At Γ (storeName Γ.env x v) VT (.ok () (σ.setB x a)) g φ σ.cs.length s:=by
 obtain⟨ad,ha⟩:=Option.isSome_iff_exists.mp hb
 obtain⟨ob,v0,ho,hd,_⟩:=S.box ha
 have hk:Γ.env.scope.kind=.function:=by rw[X.sce];exact X.kind
 refine wpAny_storeName_cell hk (by show Γ.env.scope.names.lookup x=_;rw[X.sce];exact hl) (X.bx x ad (.inl hl) ha) ⟨ob,ho,hd⟩ fun h' hc hs=>?_
 obtain⟨ob',ho',hd'⟩:=hc
 have k:∀b o,b≠ad→s.heap.get? b=some o→h'.get? b=some o:=fun b o hb e=>(hs.2 b hb).trans e
 have mem:=JR ha
 obtain⟨l1,l2,hsp⟩:=List.append_of_mem mem
 have nd:=X.bn
 rw[hsp,List.map_append,List.map_cons] at nd
 have nd':=List.nodup_append.mp nd
 have n2:=List.nodup_cons.mp nd'.2.1
 have same:∀(l:List (Str×Addr)),x∉l.map (·.1)→l.map (fun p=>(p.2,FI.box (Xj σ.b x a p.1)))=l.map (fun p=>(p.2,FI.box (σ.b p.1))):=fun l hx=>
  List.map_congr_left fun p hp=>by
   have:p.1≠x:=fun e=>hx (e▸List.mem_map_of_mem hp)
   simp only[Xj,this,if_false]
 have e1:=same l1 fun z=>nd'.2.2 x z x (.head _) rfl
 have e2:=same l2 n2.1
 have I:=S.inv
 unfold BO.aux at I
 rw[hsp,List.map_append,List.map_cons,List.append_assoc] at I
 refine⟨(),_,rfl,g,φ,⟨?_⟩,?_,trivial,⟨rfl,rfl⟩⟩
 ·show DK Γ.P g φ σ.cs (Γ.aux σ.m (Xj σ.b x a)) _
  unfold BO.aux
  rw[hsp,List.map_append,List.map_cons,List.append_assoc,e1,e2]
  exact I.setFI k ⟨ob',some v,ho',hd',by simp only[Xj,if_true];exact hv⟩
 ·exact Q9 (by unfold BO.la;exact List.mem_append_left _ (List.mem_map_of_mem (f:=(·.2)) mem)) k ⟨ob',ho'⟩
noncomputable def NH(Γ:BO)(sc:Scope)(x:Str)(f:AV→St→R Unit):Prop:=
 ∀σ va a,f a σ≠.stuck→∀g φ s,OK Γ sc g→CF Γ g φ σ s.heap→CJ Γ.P g φ σ.cs.length va a→At Γ (bindName Γ.env x va) VT (f a σ) g φ σ.cs.length s
noncomputable def Hk(Γ:BO)(sc:Scope)(t:Expr)(f:AV→St→R Unit):Prop:=
 ∀σ va a,f a σ≠.stuck→∀g φ s,OK Γ sc g→CF Γ g φ σ s.heap→CJ Γ.P g φ σ.cs.length va a→At Γ (assign t Γ.env va) VT (f a σ) g φ σ.cs.length s
noncomputable def Az(x:Str):AV→St→R Unit:=fun v σ=>.ok () (σ.setM x v)
noncomputable def dv(x:Str):AV→St→R Unit:=fun v σ=>.ok () (σ.setB x v)
theorem UC{x:Str}(hl:sc.names.lookup x=some .local):NH Γ sc x (Az x):=fun σ va a ns g φ s X S v=>wpAny_bindName (At.storeL X S hl v)
theorem dw{x:Str}(hl:sc.names.lookup x=some .cell)(hb:(Γ.ba.lookup x).isSome=true):NH Γ sc x (dv x):=fun σ va a ns g φ s X S v=>wpAny_bindName (At.storeB X S hl hb v)
theorem UD{x:Str}{p:Pos}{f:AV→St→R Unit}(h:NH Γ sc x f):Hk Γ sc (.Name x p) f:=fun σ va a ns g φ s X S v=>by
 refine At.ofEq (arm_assign_Name ..) (At.stand ?_)
 exact h σ va a ns g φ s X S v
noncomputable def Tk(n:Str):Prop:=∀P,takerIn (Kp pw P) 117 n=some none∧takerIn (Kp pw P) 405 n=some none
noncomputable def UE(n:Str)(v o:AV)(σ:St):R Unit:=AV.rec (fun z0=>.stuck) (fun z0=>.stuck) (fun c i=>if Hj c=true then ofO (Gg σ.cs i) fun fs=>if fs.length≤900 then .ok () {σ with cs:=σ.cs.set i (.dict (EZ n v fs))} else .stuck else .stuck) o
noncomputable def EE(n:Str)(f:St→R AV):AV→St→R Unit:=fun v σ=>(f σ).bind fun o σ=>UE n v o σ
theorem UF{P:Params}{n:Nat}{x:Str}{es:List DictEntry}{fs:List (Str×AV)}(h:Al (M1 P g φ n) es fs):(getL x es).isSome=true:=by
 cases e:fs.lookup x with
 |none=>rw[RN h e];rfl
 |some av=>obtain⟨v,q,_⟩:=PW h av e;rw[q];rfl
theorem At.put{n:Str}{o v:Value}{oa a:AV}(T:Tk n)(X:OK Γ sc g)(S:CF Γ g φ σ s.heap)(ho:CJ Γ.P g φ σ.cs.length o oa)(hv:CJ Γ.P g φ σ.cs.length v a)(ns:UE n a oa σ≠.stuck):
  At Γ (setAttr o n v) VT (UE n a oa σ) g φ σ.cs.length s:=by
 cases oa with
 |d=>exact absurd rfl ns
 |lst=>exact absurd rfl ns
 |obj c i=>
  refine At.ite ns fun hc ns=>At.ofO ns fun fs q ns=>At.ite ns fun hz z0=>?_
  obtain⟨x,rfl,hx,hi⟩:=ho
  obtain⟨es,k,hd,r⟩:=S.inv.cell _ _ (RO q)
  have ht:takerIn (KP Γ.w) c n=some none:=by
   unfold Hj at hc;rw[Bool.or_eq_true,beq_iff_eq,beq_iff_eq] at hc
   rcases hc with rfl|rfl
   ·exact(T _).1
   ·exact(T _).2
  refine Wh (X.wd.keeps S.inv.sub) hc ht (S.inv.sub _ _ hx) hd (UF r) (by rw[r.length];exact Nat.le_trans hz (by decide)) ?_
  have e2:=putName_dict n (PyData.keyHash Γ.P n) (.str n (s.toks+1)) v es k
  have up:=Heap.get?_update_self (Obj.putName n (PyData.keyHash Γ.P n) (.str n (s.toks+1)) v) hd (by rw[e2];rfl)
  rw[e2] at up
  have nb:∀b o,b≠φ i→s.heap.get? b=some o→(s.heap.update (φ i) (Obj.putName n (PyData.keyHash Γ.P n) (.str n (s.toks+1)) v)).get? b=some o:=fun b o hb q=>by rw[Heap.get?_update_other _ _ (Ne.symm hb)];exact q
  refine⟨(),_,rfl,g,φ,⟨S.inv.setCell hi nb ⟨_,_,up,bO hv r⟩⟩,?_,trivial,⟨rfl,rfl⟩⟩
  show DH _ _ _ _ _ _ _ (σ.cs.set i _).length _
  rw[List.length_set];exact M2 _ hi nb ⟨_,up⟩
theorem dy{o:Expr}{n:Str}{p:Pos}{f:St→R AV}(T:Tk n)(ho:A1 Γ sc o f):Hk Γ sc (.Attribute o n p) (EE n f):=fun σ va a ns g φ s X S v=>by
 refine At.ofEq (arm_assign_Attribute ..) ?_
 refine At.bind (At.hold (ho σ (R.bind_ns ns) g φ s X S)) fun ov oa σ1 g1 φ1 s1 e1 S1 X1 v1=>?_
 refine At.stand ?_
 have h:=At.hold (vs:=[va,ov]) (At.put T (X.mono X1.sub) S1 v1 (v.ext X1) (R.bind_ok ns e1))
 exact wpAny_bind (wpAny_mono h (fun r s' q=>wpAny_release q) fun z0 z0 q=>q)
noncomputable def YY(v o k:AV)(σ:St):R Unit:=ofO (aM o) fun i=>ofO (aI k) fun k=>ofO (BL σ.cs i) fun xs=>if 0≤k∧k.toNat<xs.length∧k≤big then .ok () {σ with cs:=σ.cs.set i (.lst (xs.set k.toNat v))} else .stuck
noncomputable def ci(f h:St→R AV):AV→St→R Unit:=fun v σ=>(f σ).bind fun o σ=>(h σ).bind fun i σ=>YY v o i σ
theorem YZ{A:Around}{E:Value→Shared→Prop}{w:World}{l:Addr}{items:Array Value}{k:Int}{t:Tok}{v:Value}{Q:Unit→Shared→Prop}{n:Nat}(hl:IsL s.heap l items n)(h0:0≤k)(hf:k<2^63)(hn:k<items.size)
  (hQ:Q () {s with heap:=s.heap.update l (Obj.mapSeq (·.setIfInBounds k.toNat v))}):wpAny (model pw w) A (setItem (.ref l) (.int k t) v) Q E s:=by
 unfold setItem
 try with_reducible refine wpAny_holding ?_
 first|refine wpAny_bind (wpAny_pure ?_)|skip
 refine wpAny_bind (wpAny_sequenceKey hl.isList.typeIs (by decide) ?_)
 refine wpAny_bind (wpAny_callSpecial?_slot (name:=Str.ofString "__setitem__") hl.isList.typeIs slot_list_setitem
  (wpAny_call_entry slot_list_setitem hl.isList.typeIs entry_list_setitem ?_ (args_list_setitem _ _ _)))
 show wpAny _ _ (Builtin.List.listSubscript? (.int k t)>>=_) _ _ s
 refine wpAny_bind (wpAny_listSubscript_int (fitsIndex_of h0 hf) ?_)
 clear hf
 obtain⟨j,rfl⟩:=Int.eq_ofNat_of_zero_le h0
 have hj:items[j]? =some items[j]:=Array.getElem?_eq_getElem (by lia)
 show wpAny _ _ ((seqItemAt l j>>=fun r=>pure (r.map (j,·)))>>=_) _ _ s
 refine wpAny_bind (wpAny_bind (wpAny_seqItemAt hl rfl (wpAny_pure ?_)))
 rw[hj]
 show wpAny _ _ (setSeqItemAt l j v>>=_) _ _ s
 refine wpAny_bind (wpAny_setSeqItemAt hl rfl ?_)
 first
  |exact wpAny_bind (wpAny_pure (wpAny_pure ⟨.none,rfl,wpAny_pure hQ⟩))
  |exact wpAny_pure ⟨.none,rfl,wpAny_pure hQ⟩
theorem dz{ov iv va:Value}{oa ia a:AV}(ns:YY a oa ia σ≠.stuck)(S:CF Γ g φ σ s.heap)(v1:CJ Γ.P g φ σ.cs.length ov oa)(v2:CJ Γ.P g φ σ.cs.length iv ia)(v:CJ Γ.P g φ σ.cs.length va a):At Γ (setItem ov iv va) VT (YY a oa ia σ) g φ σ.cs.length s:=
 At.ofO ns fun k ek ns=>At.ofO ns fun j ej ns=>At.ofO ns fun xs e ns=>At.ite ns fun hb z0=>by
  obtain⟨t,rfl⟩:=Gd v2 ej
  rw[Xw ek] at v1
  obtain⟨rfl,hlt⟩:=v1
  obtain⟨vs,m,hg,r⟩:=S.inv.cell _ _ (C4 e)
  exact At.setL (V:=VT) S e hg (by rw[List.setIfInBounds_toArray]) (r.set v) trivial fun Q q=>YZ hg hb.1 (by have:=hb.2.2;rw[M8] at this;lia) (by rw[List.size_toArray,r.length];lia) (q s.toks)
theorem d0{o i:Expr}{p:Pos}{f h:St→R AV}(ho:A1 Γ sc o f)(hi:A1 Γ sc i h):Hk Γ sc (.Subscript o i p) (ci f h):=fun σ va a ns g φ s X S v=>by
 refine At.ofEq (arm_assign_Subscript ..) ?_
 refine At.bind (At.hold (ho σ (R.bind_ns ns) g φ s X S)) fun ov oa σ1 g1 φ1 s1 e1 S1 X1 v1=>?_
 have ns1:=R.bind_ok ns e1
 refine At.bind (At.hold (hi σ1 (R.bind_ns ns1) g1 φ1 s1 (X.mono X1.sub) S1)) fun iv ia σ2 g2 φ2 s2 e2 S2 X2 v2=>?_
 have ns2:=R.bind_ok ns1 e2
 refine At.stand ?_
 exact wpAny_bind (wpAny_mono (At.hold (dz ns2 S2 (v1.ext X2) v2 ((v.ext X1).ext X2))) (fun r s' q=>wpAny_release q) fun z0 z0 q=>q)
noncomputable def Dj:List (AV→St→R Unit)→List AV→St→R Unit
 |t::ts,x::xs,σ=>(t x σ).bind fun z0 σ=>Dj ts xs σ
 |_,_,σ=>.ok () σ
theorem LB{αs:Type}(tree:αs→Value→Sem Unit){ts:List αs}{fs:List (AV→St→R Unit)}(h:Al (fun e f=>∀σ va a,f a σ≠.stuck→∀g φ s,OK Γ sc g→CF Γ g φ σ s.heap→CJ Γ.P g φ σ.cs.length va a→At Γ (tree e va) VT (f a σ) g φ σ.cs.length s) ts fs):
  ∀(vs:List Value) (xs:List AV) (σ:St) g φ s,Dj fs xs σ≠.stuck→OK Γ sc g→CF Γ g φ σ s.heap→Al (CJ Γ.P g φ σ.cs.length) vs xs→At Γ (assignInOrder (ts.map tree) vs) VT (Dj fs xs σ) g φ σ.cs.length s:=by
 induction h with
 |nil=>
  intro vs xs σ g φ s ns X S v
  rw[show Dj [] xs σ=.ok () σ by cases xs<;>rfl]
  exact At.pure S trivial
 |cons h r ih=>
  intro vs xs σ g φ s ns X S v
  cases v with
  |nil=>exact At.pure S trivial
  |cons v vr=>
   unfold Dj at ns ⊢
   rw[List.map_cons]
   refine At.bind (At.hold (h σ _ _ (R.bind_ns ns) g φ s X S v)) fun z0 z0 σ1 g1 φ1 s1 e1 S1 X1 v1=>?_
   have ns1:=R.bind_ok ns e1
   exact ih _ _ σ1 g1 φ1 s1 ns1 (X.mono X1.sub) S1 (Q7 vr X1)
noncomputable def Gi(Γ:BO)(sc:Scope)(ts:List Expr)(fs:List (AV→St→R Unit)):Prop:=Al (fun e f=>Hk Γ sc e f∧∀rest env,assignEach (e::rest) env=(false,assign e env)::assignEach rest env) ts fs
theorem Re{ts:List Expr}{fs:List (AV→St→R Unit)}(h:Gi Γ sc ts fs):assignEach ts Γ.env=ts.map fun e=>(false,assign e Γ.env):=by
 induction h with
 |nil=>rfl
 |cons h _ ih=>rw[h.2,ih];rfl
theorem Ox{ts:List Expr}{env:Env}:((ts.map fun e=>(false,assign e env)).findIdx? (·.1))=none:=by
 rw[List.findIdx?_eq_none_iff];intro x hx;obtain⟨e,_,rfl⟩:=List.mem_map.mp hx;rfl
noncomputable def aT(a:AV):Option (List D):=match a with
 |.d (.tup xs)=>some xs
 |_=>none
theorem ga{a:AV}{l:List D}(e:aT a=some l):a=.d (.tup l):=by
 cases a with
 |d x=>cases x with|tup j=>cases e;rfl|_=>cases e
 |_=>cases e
noncomputable def Gj(fs:List (AV→St→R Unit))(a:AV)(σ:St):R Unit:=ofO (aT a) fun xs=>if xs.length=fs.length then Dj fs (xs.map AV.d) σ else .stuck
theorem Yb{t:Sem α}{V:VV α β}{r:R β}{tk:Tok}(S:CF Γ g φ σ s.heap){h':Heap}(k:∀b o,s.heap.get? b=some o→h'.get? b=some o)
  (h:CF Γ g φ σ h'→At Γ t V r g φ σ.cs.length {s with heap:=h',toks:=tk}):wpAny Γ.M Γ.A t (GO Γ V r g φ σ.cs.length s) (Et Γ r g φ σ.cs.length s) {s with heap:=h',toks:=tk}:=by
 refine wpAny_mono (h ⟨S.inv.keeps k⟩) ?_ ?_
 ·rintro a s' ⟨b,σ',e,g',φ',S',X',v',sm'⟩
  exact⟨b,σ',e,g',φ',S',(S.inv.keepsExt _ k).trans X',v',⟨sm'.1,sm'.2⟩⟩
 ·rintro e s' ⟨σ'',q,g'',φ'',S',X',F,sm'⟩
  exact⟨σ'',q,g'',φ'',S',(S.inv.keepsExt _ k).trans X',F.weaken (Nat.le_refl _) (fun b hb=>(S.inv.keepsExt Γ.la k).dead b hb) fun z0 z0=>rfl,⟨sm'.1,sm'.2⟩⟩
theorem Yc{ts:List Expr}{k:Nat}{p:Pos}{fs:List (AV→St→R Unit)}(h:Gi Γ sc ts fs):Hk Γ sc (.Tuple ts k p) (Gj fs):=fun σ va a ns g φ s X S v=>
 At.ofO ns fun xs ex ns=>At.ite ns fun hz ns=>by
  rw[ga ex] at v
  obtain⟨ad,vs,_,rfl,hg,hr⟩:=Rd.invTup v
  have em:=Re h
  refine wpAny_assign_Tuple X.hnd (items:=vs.toArray) ⟨_,S.inv.sub _ _ hg,rfl,_,rfl⟩ (by rw[em,List.length_map,List.size_toArray,hr.len,hz];exact Al.length h) (by rw[em];exact Ox) fun h' he=>?_
  rw[em,List.map_map]
  refine Yb (tk:=s.toks) S (fun b o e=>he b o (Nat.ne_of_lt (Heap.lt_size e)) e) fun S'=>?_
  exact LB (fun e=>assign e Γ.env) (Al.mono (fun z0 z0 z=>z.1) h) _ _ σ g φ _ ns X S' (F7 hr)
end
inductive AF where
 |next|brk|cont|ret (v:AV)
noncomputable def Ws(Γ:BO):VV Flow AF:=fun g φ n f a=>match f,a with
 |.next,.next=>True|.brk,.brk=>True|.cont,.cont=>True
 |.ret v,.ret a=>CJ Γ.P g φ n v a
 |_,_=>False
noncomputable def JF(Γ:BO)(sc:Scope)(st:Stmt)(f:St→R AF):Prop:=∀σ,KB Γ sc (exec st Γ.env) (Ws Γ) (f σ) σ
noncomputable def FB(Γ:BO)(sc:Scope)(st:List Stmt)(f:St→R AF):Prop:=∀σ,KB Γ sc (execs st Γ.env) (Ws Γ) (f σ) σ
noncomputable def BX:St→R AF:=fun σ=>.ok .next σ
noncomputable def AP(f h:St→R AF):St→R AF:=fun σ=>(f σ).bind fun a σ=>match a with|.next=>h σ|a=>.ok a σ
section
variable {Γ:BO} {sc:Scope}
theorem bT:FB Γ sc [] BX:=fun σ ns g φ s X S=>At.pure S trivial
theorem bU{st:Stmt}{f:St→R AF}(h:JF Γ sc st f):FB Γ sc [st] f:=fun σ ns g φ s X S=>by
 refine At.ofEq (arm_execs_cons ..) ?_
 have e:f σ=(f σ).bind fun a σ=>.ok a σ:=by cases f σ<;>rfl
 rw[e] at ns ⊢
 refine At.bind (h σ (R.bind_ns ns) g φ s X S) fun va a σ1 g1 φ1 s1 e1 S1 X1 v1=>?_
 cases va<;>cases a<;>first|exact v1.elim|exact At.pure S1 trivial|exact At.pure S1 v1
theorem Yd{st:Stmt}{rest:List Stmt}{f h:St→R AF}(hf:JF Γ sc st f)(hh:FB Γ sc rest h):FB Γ sc (st::rest) (AP f h):=fun σ ns g φ s X S=>by
 refine At.ofEq (arm_execs_cons ..) ?_
 refine At.bind (hf σ (R.bind_ns ns) g φ s X S) fun va a σ1 g1 φ1 s1 e1 S1 X1 v1=>?_
 have ns1:=R.bind_ok ns e1
 cases va<;>cases a<;>first|exact v1.elim|exact hh σ1 ns1 g1 φ1 s1 (X.mono X1.sub) S1|exact At.pure S1 v1
noncomputable def A0(f:St→R AV):St→R AF:=fun σ=>(f σ).bind fun z0 σ=>.ok .next σ
theorem Ye{e:Expr}{p:Pos}{f:St→R AV}(h:A1 Γ sc e f)(hs:∀env,swapsWith e none p.line env=pure false:=by intro _;rfl):JF Γ sc (.Expr e p) (A0 f):=fun σ ns g φ s X S=>by
 have hi:interactive Γ.env=false:=by unfold interactive;rw[X.sce,X.kind];rfl
 refine At.ofEq (arm_exec_Expr ..) (At.stand ?_)
 rw[hi,hs]
 refine wpAny_bind (wpAny_pure ?_)
 exact At.bind (h σ (R.bind_ns ns) g φ s X S) fun va a σ1 g1 φ1 s1 e1 S1 X1 v1=>wpAny_dropValue (At.pure (V:=Ws Γ) (a:=Flow.next) (b:=AF.next) S1 trivial (σ:=σ1)|>fun z=>⟨AF.next,σ1,rfl,g1,φ1,S1,DH.refl ..,trivial,Bn.refl _⟩)
noncomputable def A3(f:St→R AV):St→R AF:=fun σ=>(f σ).bind fun v σ=>.ok (.ret v) σ
theorem bV{e:Expr}{p:Pos}{f:St→R AV}(h:A1 Γ sc e f):JF Γ sc (.Return (some e) p) (A3 f):=fun σ ns g φ s X S=>by
 refine At.ofEq (arm_exec_Return ..) (At.stand ?_)
 show At Γ (eval e Γ.env>>=fun x=>pure (Flow.ret x)) _ _ _ _ _ _
 exact At.bind (h σ (R.bind_ns ns) g φ s X S) fun va a σ1 g1 φ1 s1 e1 S1 X1 v1=>At.pure S1 v1
theorem d3{t:Expr}{b o:List Stmt}{p:Pos}{ft:St→R Bool}{fb fo:St→R AF}(ht:Gw Γ sc t ft)(hb:FB Γ sc b fb)(ho:FB Γ sc o fo):JF Γ sc (.If t b o p) (CG ft fb fo):=fun σ ns g φ s X S=>by
 refine At.ofEq (arm_exec_If ..) (At.stand ?_)
 refine At.bind (ht σ (R.bind_ns ns) g φ s X S) fun va a σ1 g1 φ1 s1 e1 S1 X1 v1=>?_
 have ns1:=R.bind_ok ns e1
 subst v1
 cases va
 ·exact ho σ1 ns1 g1 φ1 s1 (X.mono X1.sub) S1
 ·exact hb σ1 ns1 g1 φ1 s1 (X.mono X1.sub) S1
noncomputable def Ag(f:St→R AV)(t:AV→St→R Unit):St→R AF:=fun σ=>(f σ).bind fun v σ=>(t v σ).bind fun z0 σ=>.ok .next σ
noncomputable def NI(t v:Expr)(line:Nat)(sc:Scope):Prop:=∀env:Env,env.scope=sc→swapsWith v (some t) line env=pure false∧swappedStores [t] v env=pure none
theorem bW{t e:Expr}{p:Pos}{f:St→R AV}{ft:AV→St→R Unit}(h:A1 Γ sc e f)(ht:Hk Γ sc t ft)(hs:NI t e p.line sc)(hst:∀env,assignEach [t] env=[(false,assign t env)]:=by intro _;rfl):JF Γ sc (.Assign [t] e p) (Ag f ft):=fun σ ns g φ s X S=>by
 obtain⟨h1,h2⟩:=hs Γ.env X.sce
 refine At.ofEq (arm_exec_Assign ..) (At.stand ?_)
 show At Γ (swapsWith e (some t) p.line Γ.env>>=_) _ _ _ _ _ _
 rw[h1]
 refine wpAny_bind (wpAny_pure ?_)
 refine At.bind (h σ (R.bind_ns ns) g φ s X S) fun va a σ1 g1 φ1 s1 e1 S1 X1 v1=>?_
 have ns1:=R.bind_ok ns e1
 rw[h2,hst]
 refine wpAny_bind (wpAny_pure ?_)
 show At Γ (assign t Γ.env va>>=fun z0=>pure Flow.next) _ _ _ _ _ _
 exact At.bind (ht σ1 va a (R.bind_ns ns1) g1 φ1 s1 (X.mono X1.sub) S1 v1) fun z0 z0 σ2 g2 φ2 s2 e2 S2 X2 v2=>At.pure S2 trivial
noncomputable def F9(f:St→R (List AV))(ts:List (AV→St→R Unit)):St→R AF:=fun σ=>(f σ).bind fun vs σ=>if vs.length=ts.length∧vs.length≤big then(Dj ts vs σ).bind fun z0 σ=>.ok .next σ else .stuck
set_option tactic.hygienic true in
theorem Yg{ts es:List Expr}{k k':Nat}{p p1 p2:Pos}{f:St→R (List AV)}{fs:List (AV→St→R Unit)}(h:Em Γ sc p2 es f)(ht:Gi Γ sc ts fs)(hs:NI (.Tuple ts k p1) (.Tuple es k' p2) p.line sc):JF Γ sc (.Assign [.Tuple ts k p1] (.Tuple es k' p2) p) (F9 f fs):=fun σ ns g φ s X S=>by
 obtain⟨h1,h2⟩:=hs Γ.env X.sce
 refine At.ofEq (arm_exec_Assign ..) (At.stand ?_)
 show At Γ (swapsWith (.Tuple es k' p2) (some (.Tuple ts k p1)) p.line Γ.env>>=_) _ _ _ _ _ _
 rw[h1]
 refine wpAny_bind (wpAny_pure ?_)
 refine At.ofEq (t':=standAt p2>>=fun z0=>spliced (backTo p2 (starEach es Γ.env))>>=fun vs=>newTuple vs>>=fun v=>swappedStores [.Tuple ts k p1] (.Tuple es k' p2) Γ.env>>=fun o=>assignStores Γ.env v o ((assignEach [.Tuple ts k p1] Γ.env).map (·.2))) ?_ (At.stand ?_)
 ·rw[arm_eval_Tuple,if_neg Bool.false_ne_true];simp only[bind_assoc]
 refine At.bind (h.2 σ (R.bind_ns ns) g φ s X S) fun vs xs σ1 g1 φ1 s1 e1 S1 X1 v1=>?_
 have ns1:=R.bind_ok ns e1
 split at ns1
 ·rename_i hz
  rw[if_pos hz]
  have hvl:=v1.length
  refine wpAny_bind (wpAny_newTuple ?_ (Bu (by lia)))
  rw[h2]
  refine wpAny_bind (wpAny_pure ?_)
  show wpAny _ _ (assign (.Tuple ts k p1) Γ.env (.ref s1.heap.objs.size)>>=fun z0=>pure Flow.next) _ _ _
  have em:=Re ht
  have hlen:ts.length=fs.length:=Al.length ht
  refine wpAny_bind (wpAny_assign_Tuple X.hnd (items:=vs.toArray) ⟨_,Heap.get?_push_size _ rfl,rfl,_,rfl⟩ (by rw[em,List.length_map,List.size_toArray];lia) (by rw[em];exact Ox) fun h' he=>?_)
  rw[em,List.map_map]
  have kk:∀b o,s1.heap.get? b=some o→h'.get? b=some o:=fun b o e=>he b o (Nat.ne_of_lt (Nat.lt_trans (Heap.lt_size e) (by show _<(Heap.push _ _).objs.size;rw[Heap.size_push];exact Nat.lt_succ_self _))) (Heap.get?_push_of_some _ e)
  refine wpAny_mono (Yb (tk:=s1.toks) S1 kk fun S'=>LB (fun e=>assign e Γ.env) (Al.mono (fun z0 z0 z=>z.1) ht) vs xs σ1 g1 φ1 _ (R.bind_ns ns1) (X.mono X1.sub) S' v1) ?_ ?_
  ·rintro a s' ⟨b,σ',e,g',φ',S',X',v',sm'⟩
   refine wpAny_pure ⟨.next,σ',?_,g',φ',S',X',trivial,sm'⟩
   rw[e];rfl
  ·rintro a s' ⟨σ',e,g',φ',S',X',F,sm'⟩
   refine⟨σ',?_,g',φ',S',X',F,sm'⟩
   rw[e];rfl
 ·exact absurd rfl ns1
noncomputable def KH(f:St→R (List AV))(ts:List (AV→St→R Unit)):St→R AF:=fun σ=>(f σ).bind fun vs σ=>if vs.length=ts.length∧vs.length≤big then(Dj ts vs.reverse σ).bind fun z0 σ=>.ok .next σ else .stuck
set_option tactic.hygienic true in
theorem Yh{t:Expr}{es:List Expr}{names:List Str}{k':Nat}{p p2:Pos}{f:St→R (List AV)}{fs:List (AV→St→R Unit)}(h:Em Γ sc p2 es f)(ht:Al (NH Γ sc) names.reverse fs)
  (hs:∀env:Env,env.scope=sc→swapsWith (.Tuple es k' p2) (some t) p.line env=pure false∧swappedStores [t] (.Tuple es k' p2) env=pure (some names)):JF Γ sc (.Assign [t] (.Tuple es k' p2) p) (KH f fs):=fun σ ns g φ s X S=>by
 obtain⟨h1,h2⟩:=hs Γ.env X.sce
 refine At.ofEq (arm_exec_Assign ..) (At.stand ?_)
 show At Γ (swapsWith (.Tuple es k' p2) (some t) p.line Γ.env>>=_) _ _ _ _ _ _
 rw[h1]
 refine wpAny_bind (wpAny_pure ?_)
 refine At.ofEq (t':=standAt p2>>=fun z0=>spliced (backTo p2 (starEach es Γ.env))>>=fun vs=>newTuple vs>>=fun v=>swappedStores [t] (.Tuple es k' p2) Γ.env>>=fun o=>assignStores Γ.env v o ((assignEach [t] Γ.env).map (·.2))) ?_ (At.stand ?_)
 ·rw[arm_eval_Tuple,if_neg Bool.false_ne_true];simp only[bind_assoc]
 refine At.bind (h.2 σ (R.bind_ns ns) g φ s X S) fun vs xs σ1 g1 φ1 s1 e1 S1 X1 v1=>?_
 have ns1:=R.bind_ok ns e1
 split at ns1
 ·rename_i hz
  rw[if_pos hz]
  have hvl:=v1.length
  refine wpAny_bind (wpAny_newTuple ?_ (Bu (by lia)))
  rw[h2]
  refine wpAny_bind (wpAny_pure ?_)
  have hlen:names.reverse.length=fs.length:=Al.length ht
  rw[List.length_reverse] at hlen
  unfold assignStores
  refine wpAny_bind (wpAny_rule ?_)
  have hn:names.length=vs.toArray.size:=by rw[List.size_toArray];lia
  rw[hn]
  refine wpAny_bind (wpAny_unpackItems_tuple X.hnd ⟨_,Heap.get?_push_size _ rfl,rfl,_,rfl⟩ fun h' he=>?_)
  have kk:∀b o,s1.heap.get? b=some o→h'.get? b=some o:=fun b o e=>he b o (Nat.ne_of_lt (Nat.lt_trans (Heap.lt_size e) (by show _<(Heap.push _ _).objs.size;rw[Heap.size_push];exact Nat.lt_succ_self _))) (Heap.get?_push_of_some _ e)
  have vr:Al (CJ Γ.P g1 φ1 σ1.cs.length) vs.reverse xs.reverse:=v1.rev
  refine wpAny_bind (wpAny_mono (Yb (tk:=s1.toks) S1 kk fun S'=>LB (fun e=>bindName Γ.env e) ht vs.reverse xs.reverse σ1 g1 φ1 _ (R.bind_ns ns1) (X.mono X1.sub) S' vr) ?_ ?_)
  ·rintro a s' ⟨b,σ',e,g',φ',S',X',v',sm'⟩
   refine wpAny_pure ⟨.next,σ',?_,g',φ',S',X',trivial,sm'⟩
   rw[e];rfl
  ·rintro a s' ⟨σ',e,g',φ',S',X',F,sm'⟩
   refine⟨σ',?_,g',φ',S',X',F,sm'⟩
   rw[e];rfl
 ·exact absurd rfl ns1
theorem Et.note{β γ:Type}{r:R β}{r':R γ}{g:Heap}{φ:Nat→Addr}{n:Nat}{s s1:Shared}{e:Value}{gX:Heap}(X:OK Γ sc gX)(hX:∀b o,gX.get? b=some o→g.get? b=some o)(h:Et Γ r g φ n s e s1){Q:Unit→Shared→Prop}{E:Value→Shared→Prop}
  (k:∀s2,Et Γ r g φ n s e s2→Gh e s2.heap→Q () s2):wpAny Γ.M Γ.A (noteFrame e Γ.env) Q E s1:=by
 obtain⟨σ',e1,g',φ',S,Xt,F,sm⟩:=h
 refine Rc ((X.mono hX).mono Xt.sub) S F Xt.live fun h' p S' m hp F' ht=>k _ ⟨σ',e1,g',φ',S',Xt.mov m hp,F',⟨sm.1,sm.2⟩⟩ ht
theorem Et.fly{A':Around}{β:Type}{r:R β}{g:Heap}{φ:Nat→Addr}{n:Nat}{s s1:Shared}{e:Value}{fr:Option Addr}(h:Et Γ r g φ n s e s1){Q:Unit→Shared→Prop}{E:Value→Shared→Prop}
  (k:∀s2,Et Γ r g φ n s e s2→(Gh e s1.heap→Gh e s2.heap)→Q () s2):wpAny Γ.M A' (setFlight e fr) Q E s1:=by
 obtain⟨σ',e1,g',φ',S,Xt,F,sm⟩:=h
 exact UB S F fun h' p S' m hp F' ht=>k _ ⟨σ',e1,g',φ',S',Xt.mov m hp,F',⟨sm.1,sm.2⟩⟩ ht
theorem Et.back{β:Type}{r:R β}{g:Heap}{φ:Nat→Addr}{n:Nat}{s s1:Shared}{e:Value}(h:Et Γ r g φ n s e s1)(ht:Gh e s1.heap):cameBackBy Γ.M Γ.A Γ.env (Et Γ r g φ n s) e s1:=by
 unfold cameBackBy
 obtain⟨a,oe,vs,T,rfl,h1,h2,h3⟩:=ht
 refine wpAny_bind (wpAny_field h1 h2 h3 ?_)
 rw[if_neg (show ¬((Value.ref T==Value.none)=true) from by simp)]
 exact Et.fly h fun s2 h2 z0=>h2
end
theorem Et.trans{β:Type}{Γ:BO}{r:R β}{g g1:Heap}{φ φ1:Nat→Addr}{n n1:Nat}{s s1 s2:Shared}{e:Value}(x:DH Γ.la g φ n s.heap g1 φ1 n1 s1.heap)(sm:Bn s s1)(h:Et Γ r g1 φ1 n1 s1 e s2):Et Γ r g φ n s e s2:=by
 obtain⟨σ',q,g',φ',S',X',F,sm'⟩:=h
 exact⟨σ',q,g',φ',S',x.trans X',F.weaken (Nat.le_refl _) x.dead fun z0 z0=>rfl,sm.trans sm'⟩
theorem Et.cast{β γ:Type}{Γ:BO}{r:R β}{r':R γ}{g:Heap}{φ:Nat→Addr}{n:Nat}{s s2:Shared}{e:Value}(k:∀σ,r=.exc σ→r'=.exc σ)(h:Et Γ r g φ n s e s2):Et Γ r' g φ n s e s2:=by
 obtain⟨σ',q,g',φ',S',X',F,sm'⟩:=h
 exact⟨σ',k _ q,g',φ',S',X',F,sm'⟩
noncomputable def Ly(k:St→R AF):AF→St→R AF
 |.next,σ=>k σ
 |.cont,σ=>k σ
 |.brk,σ=>.ok .next σ
 |.ret v,σ=>.ok (.ret v) σ
noncomputable def CV(t:St→R Bool)(b:St→R AF):Nat→St→R AF
 |0,_=>.stuck
 |n+1,σ=>(t σ).bind fun c σ=>if c then(b σ).bind (Ly (CV t b n)) else .ok .next σ
section
variable {Γ:BO} {sc:Scope}
theorem R.bind_exc{α β:Type}{r:R α}{k:α→St→R β}{σ:St}(e:r=.exc σ):r.bind k=.exc σ:=by rw[e];rfl
inductive gb(Γ:BO)(sc:Scope)(ft:St→R Bool)(fb:St→R AF)(g0:Heap)(φ0:Nat→Addr)(n0:Nat)(s0:Shared)(r:R AF)(k:Nat)(s':Shared):Prop
 |mk (σ:St) (g:Heap) (φ:Nat→Addr):OK Γ sc g→CF Γ g φ σ s'.heap→DH Γ.la g0 φ0 n0 s0.heap g φ σ.cs.length s'.heap→Bn s0 s'→CV ft fb k σ=r→gb Γ sc ft fb g0 φ0 n0 s0 r k s'
theorem UG{t:Expr}{b:List Stmt}{ft:St→R Bool}{fb:St→R AF}{g0:Heap}{φ0:Nat→Addr}{n0 k:Nat}{s0 s:Shared}{r:R AF}{N T B':Shared→Prop}{Rt:Value→Shared→Prop}{E:Value→Shared→Prop}(ht:Gw Γ sc t ft)(hb:FB Γ sc b fb)(ns:r≠.stuck)(I:gb Γ sc ft fb g0 φ0 n0 s0 r k s)
  (note:∀e s',Et Γ r g0 φ0 n0 s0 e s'→E e s')(hN:∀s',GO Γ (Ws Γ) r g0 φ0 n0 s0 .next s'→N s')(hB:∀s',GO Γ (Ws Γ) r g0 φ0 n0 s0 .next s'→B' s')(hR:∀v s',GO Γ (Ws Γ) r g0 φ0 n0 s0 (.ret v) s'→Rt v s')(hT:∀m s',m<k→gb Γ sc ft fb g0 φ0 n0 s0 r m s'→T s'):
  wpAny Γ.M Γ.A (isTrue t Γ.env (eval t Γ.env)) (fun c s2=>if c then wpAny Γ.M Γ.A (execs b Γ.env) (fun f s3=>match f with
    |.next=>T s3|.cont=>T s3|.brk=>B' s3|.ret v=>Rt v s3) E s2 else N s2) E s:=by
 obtain⟨σ,g,φ,X,S,Xt,sm,er⟩:=I
 cases k with
 |zero=>exact absurd er.symm ns
 |succ k=>
  unfold CV at er
  have ns0:=er▸ns
  refine wpAny_mono (ht σ (R.bind_ns ns0) g φ s X S) ?_ fun e s' h=>note e s' ((h.cast fun σ' q=>er.symm.trans (R.bind_exc q)).trans Xt sm)
  rintro c s1 ⟨c',σ1,e1,g1,φ1,S1,X1,rfl,sm1⟩
  rw[e1] at er
  have Xt1:=Xt.trans X1
  have sm':=sm.trans sm1
  have X':=X.mono X1.sub
  clear ns0 e1 S Xt sm X X1 sm1
  cases c with
  |false=>exact hN s1 ⟨.next,σ1,er.symm,g1,φ1,S1,Xt1,trivial,sm'⟩
  |true=>
   have er:(fb σ1).bind (Ly (CV ft fb k))=r:=er
   refine wpAny_mono (hb σ1 (R.bind_ns (er▸ns)) g1 φ1 s1 X' S1) ?_ fun e s' h=>note e s' ((h.cast fun σ' q=>er.symm.trans (R.bind_exc q)).trans Xt1 sm')
   rintro f s2 ⟨a,σ2,e2,g2,φ2,S2,X2,v2,sm2⟩
   rw[e2] at er
   have Xt2:=Xt1.trans X2
   have sm2:=sm'.trans sm2
   have I2:CV ft fb k σ2=r→gb Γ sc ft fb g0 φ0 n0 s0 r k s2:=fun e=>⟨σ2,g2,φ2,X'.mono X2.sub,S2,Xt2,sm2,e⟩
   cases f<;>cases a<;>try exact v2.elim
   ·exact hT k s2 (Nat.lt_succ_self _) (I2 er)
   ·exact hB s2 ⟨.next,σ2,er.symm,g2,φ2,S2,Xt2,trivial,sm2⟩
   ·exact hT k s2 (Nat.lt_succ_self _) (I2 er)
   ·exact hR _ s2 ⟨_,σ2,er.symm,g2,φ2,S2,Xt2,v2,sm2⟩
theorem Wt{t:Expr}{b:List Stmt}{p:Pos}{ft:St→R Bool}{fb:St→R AF}(ht:Gw Γ sc t ft)(hb:FB Γ sc b fb):JF Γ sc (.While t b [] p) (CV ft fb big):=fun σ0 ns0 g0 φ0 s0 X0 S0=>by
 refine wpAny_While (codeAny_mono (R:=fun r s'=>match r with
  |.ok f=>GO Γ (Ws Γ) (CV ft fb big σ0) g0 φ0 σ0.cs.length s0 f s'
  |.error e=>Et Γ (CV ft fb big σ0) g0 φ0 σ0.cs.length s0 e s'∧Gh e s'.heap) ?_ fun r s' h=>?_)
 ·refine codeAny_whileLoop (gb Γ sc ft fb g0 φ0 σ0.cs.length s0 (CV ft fb big σ0)) (fun k s I=>?_) big ⟨σ0,g0,φ0,X0,S0,.refl ..,.refl _,rfl⟩
  exact UG ht hb ns0 I (fun e s' h=>Et.note (r':=ft σ0) X0 (fun z0 z0 e=>e) h fun s2 h2 h3=>⟨h2,h3⟩) (fun s' h=>wpAny_execs_nil h) (fun s' h=>h) (fun v s' h=>h) fun m s' hm I=>⟨m,hm,I⟩
 ·cases r with
  |ok f=>exact h
  |error e=>exact Et.back h.1 h.2
end
theorem DK.refrz{P:Params}{g h:Heap}{φ:Nat→Addr}{cs:List AK}{aux:List (Addr×FI)}(I:DK P g φ cs aux h)(p:Addr→Prop)(hp:∀b,p b→(∀i,i<cs.length→φ i≠b)∧b∉aux.map (·.1)):DK P (frz g h p) φ cs aux h where
 sub b o e:=(Fz.mp e).2
 out i hi:=Ba (I.out i hi) fun z=>(hp _ z).1 i hi rfl
 inj:=I.inj
 cell i c e:=(I.cell i c e).mono (Bv I.sub) (Nat.le_refl _) (fun z0 z0=>rfl) fun o e=>e
 fi q hq:=(I.fi q hq).mono (Bv I.sub) (Nat.le_refl _) (fun z0 z0=>rfl) fun o e=>⟨o.slots,e⟩
 fiOut q hq:=⟨Ba (I.fiOut q hq).1 fun z=>(hp _ z).2 (List.mem_map_of_mem hq),(I.fiOut q hq).2⟩
 nodup:=I.nodup
noncomputable def Wu(wr:List Addr)(h h':Heap):Prop:=∀b o,b∉wr→h.get? b=some o→h'.get? b=some o
structure BS(Γ:BO)(g:Heap)(φ:Nat→Addr)(n:Nat)(wr:List Addr):Prop where
 g:∀b∈wr,g.get? b=none
 c:∀b∈wr,∀i,i<n→φ i≠b
 l:∀b∈wr,b∉Γ.la
section
variable {Γ:BO} {sc:Scope} {g:Heap} {φ:Nat→Addr} {σ:St}
theorem BS.ext{g':Heap}{φ':Nat→Addr}{n n':Nat}{h h':Heap}{wr:List Addr}(B:BS Γ g φ n wr)(x:DH Γ.la g φ n h g' φ' n' h')(hl:∀b∈wr,∃o,h.get? b=some o):BS Γ g' φ' n' wr:=
 ⟨fun b hb=>x.gnew b (B.g b hb) (hl b hb) (B.c b hb),(fun b hb i hi z=>by
  by_cases q:i<n
  ·rw[x.eq i q] at z;exact B.c b hb i q z
  ·have:=x.fresh i (Nat.not_lt.mp q) hi
   rw[z] at this
   obtain⟨o,e⟩:=hl b hb
   rw[this] at e;cases e),B.l⟩
theorem CF.took{h h':Heap}{wr:List Addr}(S:CF Γ g φ σ h)(B:BS Γ g φ σ.cs.length wr)(k:Wu wr h h')(q:Addr→Prop)(hq:∀b,q b→h.get? b=none∧b∉wr):CF Γ (frz g h' q) φ σ h':=by
 have e:=DT Γ σ.m σ.b
 refine⟨DK.refrz (S.inv.beside fun b o e1 e2=>k b o (fun z=>?_) e1) q fun b hb=>⟨fun i hi z=>?_,fun z=>?_⟩⟩
 ·rcases(id e2) with e2|⟨i,hi,e2⟩|e2
  ·rw[B.g b z] at e2;cases e2
  ·exact B.c b z i hi e2
  ·rw[e] at e2;exact B.l b z e2
 ·obtain⟨o,e3⟩:=S.inv.there hi;rw[z,(hq b hb).1] at e3;cases e3
 ·obtain⟨p,hp,rfl⟩:=List.mem_map.mp z
  obtain⟨o,e3,_⟩:=(S.inv.fi p hp).there
  rw[(hq _ hb).1] at e3;cases e3
theorem DH.took{g0:Heap}{φ0:Nat→Addr}{n0 n:Nat}{h0 h h':Heap}{wr la:List Addr}{q:Addr→Prop}(x:DH la g0 φ0 n0 h0 g φ n h)(sub:∀b o,g.get? b=some o→h'.get? b=some o)(k:Wu wr h h')(hw:∀b∈wr,h0.get? b=none)(hq:∀b,q b→h.get? b=none):DH la g0 φ0 n0 h0 (frz g h' q) φ n h':=
 ⟨fun b o e=>Bv sub b o (x.sub b o e),x.len,x.eq,x.fresh,fun b o e=>let⟨o',e'⟩:=x.live b o e;⟨o',k b o' (fun z=>by rw[hw b z] at e;cases e) e'⟩,fun b o e n1 n2=>k b o (fun z=>by rw[hw b z] at e;cases e) (x.kept b o e n1 n2),fun b e l n1=>Ba (x.gnew b e l n1) fun z=>by obtain⟨o,eo⟩:=l;obtain⟨o',eo'⟩:=x.live b o eo;rw[hq b z] at eo';cases eo'⟩
structure gc(P:Params)(g:Heap)(wr:List Addr)(x:D)(St':Heap→Prop)(s:Shared)(v:Value)(s2:Shared):Prop where
 but:Wu wr s.heap s2.heap
 same:Bn s s2
 st:St' s2.heap
 rd:∀g',(∀b o,g.get? b=some o→g'.get? b=some o)→(∀b o,s.heap.get? b=none→b∉wr→s2.heap.get? b=some o→g'.get? b=some o)→Rd P g' v x
structure Hw(Γ:BO)(g:Heap)(tgt:Expr)(it:Value)(wr:List Addr)(items:List D)(St':Nat→Heap→Prop):Prop where
 live:∀i h,St' i h→∀b∈wr,∃o,h.get? b=some o
 frame:∀i h h',St' i h→(∀b∈wr,∀o,h.get? b=some o→h'.get? b=some o)→(∀b o,g.get? b=some o→h'.get? b=some o)→St' i h'
 item:∀i x (s:Shared) (E:Value→Shared→Prop),items[i]? =some x→St' i s.heap→(∀b o,g.get? b=some o→s.heap.get? b=some o)→
  wpAny Γ.M Γ.A (pyNext it) (fun r s1=>Aj (fun v=>r=some v) (fun v=>wpAny Γ.M Γ.A (letOwnedTupleGo tgt it v) (fun z0 s2=>gc Γ.P g wr x (St' (i+1)) s v s2) E s1)) E s
 done:∀(s:Shared) (E:Value→Shared→Prop),St' items.length s.heap→(∀b o,g.get? b=some o→s.heap.get? b=some o)→wpAny Γ.M Γ.A (pyNext it) (fun r s1=>r=none∧Wu wr s.heap s1.heap∧Bn s s1) E s
 self:∀i (s:Shared) (Q:Value→Shared→Prop) (E:Value→Shared→Prop),St' i s.heap→Q it s→wpAny Γ.M Γ.A (pyIter it) Q E s
inductive Pg(Γ:BO)(tgt:Expr)(r:R (List D))(g:Heap)(φ:Nat→Addr)(n:Nat)(s:Shared)(it:Value)(s2:Shared):Prop
 |mk (items:List D) (σ':St) (g':Heap) (φ':Nat→Addr) (wr:List Addr) (St':Nat→Heap→Prop):r=.ok items σ'→CF Γ g' φ' σ' s2.heap→DH Γ.la g φ n s.heap g' φ' σ'.cs.length s2.heap→Bn s s2→Hw Γ g' tgt it wr items St'→St' 0 s2.heap→BS Γ g' φ' σ'.cs.length wr→(∀b∈wr,s.heap.get? b=none)→Pg Γ tgt r g φ n s it s2
noncomputable def LC(Γ:BO)(sc:Scope)(e tgt:Expr)(f:St→R (List D)):Prop:=
 ∀σ,f σ≠.stuck→∀g φ s,OK Γ sc g→CF Γ g φ σ s.heap→
  wpAny Γ.M Γ.A (eval e Γ.env) (fun x s1=>wpAny Γ.M Γ.A (pyIter x) (fun it s2=>Pg Γ tgt (f σ) g φ σ.cs.length s it s2) (Et Γ (f σ) g φ σ.cs.length s) s1) (Et Γ (f σ) g φ σ.cs.length s) s
noncomputable def NJ(t:AV→St→R Unit)(b:St→R AF):List D→St→R AF
 |[],σ=>.ok .next σ
 |x::xs,σ=>(t (.d x) σ).bind fun z0 σ=>(b σ).bind (Ly (NJ t b xs))
noncomputable def EF(f:St→R (List D))(t:AV→St→R Unit)(b:St→R AF):St→R AF:=fun σ=>(f σ).bind fun xs σ=>NJ t b xs σ
structure Vh(Γ:BO)(g1:Heap)(tgt:Expr)(it:Value)(wr:List Addr)(items:List D)(St':Nat→Heap→Prop)(J:Heap→Heap→Prop):Prop where
 live:∀i h,St' i h→∀b∈wr,∃o,h.get? b=some o
 frame:∀i h h',St' i h→(∀b∈wr,∀o,h.get? b=some o→h'.get? b=some o)→(∀b o,g1.get? b=some o→h'.get? b=some o)→St' i h'
 item:∀i x (s:Shared) (E:Value→Shared→Prop) g,items[i]? =some x→St' i s.heap→(∀b o,g1.get? b=some o→g.get? b=some o)→(∀b o,g.get? b=some o→s.heap.get? b=some o)→J g s.heap→
  wpAny Γ.M Γ.A (pyNext it) (fun r s1=>Aj (fun v=>r=some v) (fun v=>wpAny Γ.M Γ.A (letOwnedTupleGo tgt it v) (fun z0 s2=>gc Γ.P g wr x (St' (i+1)) s v s2) E s1)) E s
 done:∀(s:Shared) (E:Value→Shared→Prop) g,St' items.length s.heap→(∀b o,g1.get? b=some o→g.get? b=some o)→(∀b o,g.get? b=some o→s.heap.get? b=some o)→J g s.heap→wpAny Γ.M Γ.A (pyNext it) (fun r s1=>r=none∧Wu wr s.heap s1.heap∧Bn s s1) E s
theorem Hw.x{g1:Heap}{tgt:Expr}{it:Value}{wr:List Addr}{items:List D}{St':Nat→Heap→Prop}(It:Hw Γ g1 tgt it wr items St'):Vh Γ g1 tgt it wr items St' fun z0 z0=>True where
 live:=It.live
 frame:=It.frame
 item i x s E g hx st k1 k2 _:=wpAny_mono (It.item i x s E hx st fun b o e=>k2 b o (k1 b o e)) (fun r s1 ⟨v,e,h⟩=>⟨v,e,wpAny_mono h (fun z0 s2 t=>⟨t.but,t.same,t.st,fun g' z=>t.rd g' fun b o e=>z b o (k1 b o e)⟩) fun z0 z0 x=>x⟩) fun z0 z0 x=>x
 done s E g st k1 k2 _:=It.done s E st fun b o e=>k2 b o (k1 b o e)
structure Yi(ft:AV→St→R Unit)(fb:St→R AF)(L:List D→St→R AF)(Js:St→Prop):Prop where
 nil:∀σ,L [] σ≠.stuck→Js σ∧L [] σ=.ok .next σ
 cons:∀x xs σ,L (x::xs) σ≠.stuck→Js σ∧L (x::xs) σ=(ft (.d x) σ).bind fun z0 σ=>(fb σ).bind (Ly (L xs))
inductive Yj(Γ:BO)(sc:Scope)(items:List D)(L:List D→St→R AF)(g0:Heap)(φ0:Nat→Addr)(n0:Nat)(s0:Shared)(g1:Heap)(wr:List Addr)(St':Nat→Heap→Prop)(r:R AF)(k:Nat)(s':Shared):Prop
 |mk (i:Nat) (σ:St) (g:Heap) (φ:Nat→Addr):k+i=items.length→OK Γ sc g→CF Γ g φ σ s'.heap→DH Γ.la g0 φ0 n0 s0.heap g φ σ.cs.length s'.heap→Bn s0 s'→St' i s'.heap→BS Γ g φ σ.cs.length wr→(∀b o,g1.get? b=some o→g.get? b=some o)→L (items.drop i) σ=r→Yj Γ sc items L g0 φ0 n0 s0 g1 wr St' r k s'
theorem Yk{t:Expr}{b:List Stmt}{ft:AV→St→R Unit}{fb:St→R AF}{it:Value}{wr:List Addr}{items:List D}{St':Nat→Heap→Prop}{J:Heap→Heap→Prop}{L:List D→St→R AF}{Js:St→Prop}{g0 g1:Heap}{φ0:Nat→Addr}{n0 k:Nat}{s0 s:Shared}{r:R AF}
  {N T B':Shared→Prop}{Rt:Value→Shared→Prop}{E:Value→Shared→Prop}(ht:Hk Γ sc t ft)(hb:FB Γ sc b fb)(It:Vh Γ g1 t it wr items St' J)(fr:∀b∈wr,s0.heap.get? b=none)(hL:Yi ft fb L Js)
  (hJ:∀σ g φ h,Js σ→CF Γ g φ σ h→DH Γ.la g0 φ0 n0 s0.heap g φ σ.cs.length h→J g h)(ns1:r≠.stuck)(I:Yj Γ sc items L g0 φ0 n0 s0 g1 wr St' r k s)
  (note:∀e s',Et Γ r g0 φ0 n0 s0 e s'→E e s')(hN:∀s',GO Γ (Ws Γ) r g0 φ0 n0 s0 .next s'→N s')(hB:∀s',GO Γ (Ws Γ) r g0 φ0 n0 s0 .next s'→B' s')(hR:∀v s',GO Γ (Ws Γ) r g0 φ0 n0 s0 (.ret v) s'→Rt v s')(hT:∀m s',m<k→Yj Γ sc items L g0 φ0 n0 s0 g1 wr St' r m s'→T s'):
  wpAny Γ.M Γ.A (pyNext it) (fun r s1=>match r with
   |none=>N s1
   |some v=>wpAny Γ.M Γ.A (letOwnedTupleGo t it v) (fun z0 s2=>wpAny Γ.M Γ.A (assign t Γ.env v) (fun z0 s3=>wpAny Γ.M Γ.A (execs b Γ.env) (fun f s4=>match f with
    |.next=>T s4|.cont=>T s4|.brk=>B' s4|.ret v=>Rt v s4) E s3) E s2) E s1) E s:=by
 obtain⟨i,σ,g,φ,hki,X,S,Xt,sm,st,B,g1g,e⟩:=I
 cases hx:items[i]? with
 |none=>
  obtain rfl:i=items.length:=by have:=List.getElem?_eq_none_iff.mp hx;lia
  rw[List.drop_length] at e
  obtain⟨j,e'⟩:=hL.nil σ (e▸ns1)
  refine wpAny_mono (It.done s _ g st g1g S.inv.sub (hJ σ g φ _ j S Xt)) ?_ fun z0 z0 x=>x
  rintro r s3 ⟨rfl,k3,sm3⟩
  have S3:=S.took B k3 (fun z0=>False) fun z0 z=>z.elim
  exact hN s3 ⟨.next,σ,e.symm.trans e',_,φ,S3,Xt.took (fun b o e=>k3 b o (fun z=>by rw[B.g b z] at e;cases e) (S.inv.sub b o e)) k3 fr (fun z0 z=>z.elim),trivial,sm.trans sm3⟩
 |some x=>
  have hlt:=(List.getElem?_eq_some_iff.mp hx).1
  rw[show items.drop i=x::items.drop (i+1) by rw[List.drop_eq_getElem_cons hlt];congr 1;rw[List.getElem?_eq_getElem hlt] at hx;exact Option.some.inj hx] at e
  obtain⟨j,e'⟩:=hL.cons _ _ σ (e▸ns1)
  rw[e] at e'
  have ns1:((ft (.d x) σ).bind fun z0 σ=>(fb σ).bind (Ly (L (items.drop (i+1)))))≠.stuck:=e'▸ns1
  refine wpAny_mono (It.item i x s _ g hx st g1g S.inv.sub (hJ σ g φ _ j S Xt)) ?_ fun z0 z0 x=>x
  rintro r s3 ⟨v,rfl,h3⟩
  refine wpAny_mono h3 ?_ fun z0 z0 x=>x
  rintro _ s4 ⟨k4,sm4,st4,rd4⟩
  have S4:=S.took B k4 (fun b=>s.heap.get? b=none∧b∉wr) fun b z=>z
  have gsub:∀b o,g.get? b=some o→s4.heap.get? b=some o:=fun b o e=>k4 b o (fun z=>by rw[B.g b z] at e;cases e) (S.inv.sub b o e)
  have Xt4:=Xt.took (q:=fun b=>s.heap.get? b=none∧b∉wr) gsub k4 fr fun b z=>z.1
  have gg4:=Bv (p:=fun b=>s.heap.get? b=none∧b∉wr) gsub
  have v4:=rd4 _ gg4 fun b o h1 h2 h3=>DR ⟨h1,h2⟩ h3
  have B4:BS Γ (frz g s4.heap fun b=>s.heap.get? b=none∧b∉wr) φ σ.cs.length wr:=⟨fun b hb=>Ba (B.g b hb) fun z=>z.2 hb,B.c,B.l⟩
  have sm4':=sm.trans sm4
  generalize frz g s4.heap (fun b=>s.heap.get? b=none∧b∉wr)=g4 at S4 Xt4 gg4 v4 B4
  refine wpAny_mono (ht σ v (.d x) (R.bind_ns ns1) g4 φ s4 (X.mono gg4) S4 v4) ?_ fun e s' h=>note e s' ((h.cast fun σ' q=>e'.trans (R.bind_exc q)).trans Xt4 sm4')
  rintro _ s5 ⟨_,σ5,e5,g5,φ5,S5,X5,_,sm5⟩
  have ns5:(fb σ5).bind (Ly (L (items.drop (i+1))))≠.stuck:=R.bind_ok ns1 e5
  have e5:r=(fb σ5).bind (Ly (L (items.drop (i+1)))):=e'.trans (by rw[e5];rfl)
  refine wpAny_mono (hb σ5 (R.bind_ns ns5) g5 φ5 s5 ((X.mono gg4).mono X5.sub) S5) ?_ fun e s' h=>note e s' ((h.cast fun σ' q=>e5.trans (R.bind_exc q)).trans (Xt4.trans X5) (sm4'.trans sm5))
  rintro fl s6 ⟨a,σ6,e6,g6,φ6,S6,X6,v6,sm6⟩
  have X46:=X5.trans X6
  have Xt6:=Xt4.trans X46
  have sm6':=(sm4'.trans sm5).trans sm6
  rw[e6] at e5
  have I6:L (items.drop (i+1)) σ6=r→Yj Γ sc items L g0 φ0 n0 s0 g1 wr St' r (k-1) s6:=fun e=>
   ⟨i+1,σ6,g6,φ6,by lia,(X.mono gg4).mono X46.sub,S6,Xt6,sm6',It.frame _ _ _ st4 (fun b hb o e=>X46.kept b o e (fun i hi=>B.c b hb i hi) (B.l b hb)) fun b o e=>S6.inv.sub b o (X46.sub b o (gg4 b o (g1g b o e))),B4.ext X46 (It.live _ _ st4),fun b o e=>X46.sub b o (gg4 b o (g1g b o e)),e⟩
  cases fl<;>cases a<;>try exact v6.elim
  ·exact hT (k-1) s6 (by lia) (I6 e5.symm)
  ·exact hB s6 ⟨.next,σ6,e5,g6,φ6,S6,Xt6,trivial,sm6'⟩
  ·exact hT (k-1) s6 (by lia) (I6 e5.symm)
  ·exact hR _ s6 ⟨_,σ6,e5,g6,φ6,S6,Xt6,v6,sm6'⟩
inductive Vi(Γ:BO)(tgt:Expr)(ft:AV→St→R Unit)(fb:St→R AF)(r:R AF)(g:Heap)(φ:Nat→Addr)(n:Nat)(s:Shared)(it:Value)(s2:Shared):Prop
 |mk (items:List D) (L:List D→St→R AF) (Js:St→Prop) (σ':St) (g':Heap) (φ':Nat→Addr) (wr:List Addr) (St':Nat→Heap→Prop) (J:Heap→Heap→Prop):r=L items σ'→CF Γ g' φ' σ' s2.heap→DH Γ.la g φ n s.heap g' φ' σ'.cs.length s2.heap→Bn s s2→Vh Γ g' tgt it wr items St' J→St' 0 s2.heap→BS Γ g' φ' σ'.cs.length wr→(∀b∈wr,s.heap.get? b=none)→Yi ft fb L Js→
   (∀σ2 g2 φ2 h,Js σ2→CF Γ g2 φ2 σ2 h→DH Γ.la g φ n s.heap g2 φ2 σ2.cs.length h→J g2 h)→Vi Γ tgt ft fb r g φ n s it s2
theorem Rf{t e:Expr}{b:List Stmt}{p:Pos}{ft:AV→St→R Unit}{fb:St→R AF}{F:St→R AF}(ht:Hk Γ sc t ft)(hb:FB Γ sc b fb)(hs:∀env x,foldedSetIterable e env x=pure x)
  (hi:∀σ,F σ≠.stuck→∀g φ s,OK Γ sc g→CF Γ g φ σ s.heap→wpAny Γ.M Γ.A (eval e Γ.env) (fun x s1=>wpAny Γ.M Γ.A (pyIter x) (fun it s2=>Vi Γ t ft fb (F σ) g φ σ.cs.length s it s2) (Et Γ (F σ) g φ σ.cs.length s) s1) (Et Γ (F σ) g φ σ.cs.length s) s):JF Γ sc (.For t e b [] p) F:=fun σ0 ns0 g0 φ0 s0 X0 S0=>by
 refine wpAny_For (wpAny_mono (hi σ0 ns0 g0 φ0 s0 X0 S0) (fun x s1 h1=>wpAny_mono h1 (fun it s2 h2=>?_) fun e s h=>h) fun e s h=>h) (hs _)
 obtain⟨items,L,Js,σ1,g1,φ1,wr,St',J,e1,S1,X1,sm1,It,st,B,fr,hL,hJ⟩:=h2
 refine codeAny_mono (R:=fun r s'=>match r with
  |.ok f=>GO Γ (Ws Γ) (F σ0) g0 φ0 σ0.cs.length s0 f s'
  |.error e=>Et Γ (F σ0) g0 φ0 σ0.cs.length s0 e s'∧Gh e s'.heap) ?_ fun r s' h=>?_
 ·refine codeAny_forLoop_any (Yj Γ sc items L g0 φ0 σ0.cs.length s0 g1 wr St' (F σ0)) (fun k s I=>?_) items.length ⟨0,σ1,g1,φ1,rfl,X0.mono X1.sub,S1,X1,sm1,st,B,fun z0 z0 e=>e,e1.symm⟩
  exact Yk ht hb It fr hL hJ ns0 I (fun e s' h=>Et.note (r':=F σ0) X0 (fun z0 z0 e=>e) h fun s2 h2 h3=>⟨h2,h3⟩) (fun s' h=>wpAny_execs_nil h) (fun s' h=>h) (fun v s' h=>h) fun m s' hm I=>⟨m,hm,I⟩
 ·cases r with
  |ok f=>exact h
  |error e=>exact Et.back h.1 h.2
theorem bX{t e:Expr}{b:List Stmt}{p:Pos}{f:St→R (List D)}{ft:AV→St→R Unit}{fb:St→R AF}(hi:LC Γ sc e t f)(ht:Hk Γ sc t ft)(hb:FB Γ sc b fb)(hs:∀env x,foldedSetIterable e env x=pure x:=by intro _ _;rfl):JF Γ sc (.For t e b [] p) (EF f ft fb):=
 Rf ht hb hs fun σ ns g φ s X S=>wpAny_mono (hi σ (R.bind_ns ns) g φ s X S) (fun x s1 h1=>wpAny_mono h1 (fun it s2 h2=>by
  obtain⟨items,σ1,g1,φ1,wr,St',e1,S1,X1,sm1,It,st,B,fr⟩:=h2
  exact⟨items,NJ ft fb,fun z0=>True,σ1,g1,φ1,wr,St',_,by unfold EF;rw[e1];rfl,S1,X1,sm1,It.x,st,B,fr,⟨fun z0 z0=>⟨trivial,rfl⟩,fun z0 z0 z0 z0=>⟨trivial,rfl⟩⟩,fun z0 z0 z0 z0 z0 z0 z0=>trivial⟩) fun e s h=>h.cast fun σ q=>R.bind_exc q) fun e s h=>h.cast fun σ q=>R.bind_exc q
end
section
variable {Γ:BO} {sc:Scope} {g:Heap} {φ:Nat→Addr} {σ:St}
theorem Hw.of{tgt:Expr}{I:Addr}{fp:List Addr}{n:Nat}{P:Nat→Value→Prop}{St0:Nat→Heap→Prop}{items:List D}(W:Walks pw Γ.w Γ.A I fp [I] n P St0)(hfp:∀b∈fp,b=I∨∃o,g.get? b=some o)
  (hlive:∀i h,St0 i h→∃o,h.get? I=some o)(hn:items.length=n)(hP:∀i v x,items[i]? =some x→P i v→Rd Γ.P g v x)
  (hgo:∀i (s:Shared) v (Q:Unit→Shared→Prop) E,St0 i s.heap→Q () s→wpAny Γ.M Γ.A (letOwnedTupleGo tgt (.ref I) v) Q E s)(hkeep:∀i h,St0 i h→(∀b o,g.get? b=some o→h.get? b=some o)→∀b∈fp,b≠I→Aj (fun o=>g.get? b=some o) (fun o=>h.get? b=some o))
  (hI:g.get? I=none):Hw Γ g tgt (.ref I) [I] items (fun i h=>St0 i h∧∀b o,g.get? b=some o→h.get? b=some o) where
 live i h st b hb:=by rw[List.mem_singleton.mp hb];exact hlive i h st.1
 frame i h h' st k kg:=⟨W.frame i h h' st.1 fun b hb o e=>by
  by_cases q:b=I
  ·exact k b (by rw[q];exact .head _) o e
  ·obtain⟨o',h1,h2⟩:=hkeep i h st.1 st.2 b hb q
   rw[h2] at e;cases e;exact kg b _ h1,kg⟩
 item i x s E hx st hg:=by
  have hi:i<n:=by rw[←hn];exact(List.getElem?_eq_some_iff.mp hx).1
  refine W.item i s _ E hi st.1 fun v h' tk hv st' k=>⟨v,rfl,hgo (i+1) _ v _ _ st' ⟨k,⟨rfl,rfl⟩,⟨st',fun b o e=>?_⟩,fun g' h1 z0=>Rd.mono h1 (hP i v x hx hv)⟩⟩
  by_cases q:b∈[I]
  ·exfalso
   rw[List.mem_singleton.mp q,hI] at e
   cases e
  ·exact k b o q (st.2 b o e)
 done s E st hg:=by
  rw[hn] at st
  exact W.done s _ E st.1 fun h' tk k=>⟨rfl,k,⟨rfl,rfl⟩⟩
 self i s Q E st q:=W.self i s Q E st.1 q
noncomputable def Ph(a b c:Int):List D:=(List.range (Builtin.Range.rangeSize a b c).toNat).map fun(i:Nat)=>D.int (a+(i:Int)*c)
noncomputable def G2:D→Option (List D)
 |.lst xs=>some xs
 |.tup xs=>some xs
 |.str l=>some (l.map fun c=>.str [c])
 |.rng a b c=>if a.natAbs<2^30∧b.natAbs<2^30∧(c=1∨c=-1) then some (Ph a b c) else none
 |_=>none
noncomputable def Pi(a:AV):Option (List D):=AV.rec G2 (fun z0=>none) (fun z0 z0=>none) a
noncomputable def A7(f:St→R AV):St→R (List D):=fun σ=>(f σ).bind fun v σ=>ofO (Pi v) fun xs=>.ok xs σ
theorem KI{a:Int}(h:a.natAbs<2^30): -(2^62)≤a∧a<2^62:=by constructor<;>lia
theorem Rg(a b:Int):Builtin.Range.rangeSize a b (-1)=if a>b then a-b else 0:=by
 unfold Builtin.Range.rangeSize
 rw[if_neg (by decide)]
 split
 ·rw[show(-(-1):Int)=1 from rfl,Int.ediv_one,Int.sub_add_cancel]
 ·rfl
theorem d4{a:Int}(h:a.natAbs<2^31):Builtin.Range.rangeFitsLong a=true:=by
 unfold Builtin.Range.rangeFitsLong
 rw[Bool.and_eq_true,decide_eq_true_eq,decide_eq_true_eq]
 constructor<;>lia
theorem Yl{a b:Int}(h1:a.natAbs<2^30)(h2:b.natAbs<2^30):Builtin.Range.small a b (-1)=true:=by
 have f1:Builtin.Range.rangeFitsLong a=true:=d4 (Nat.lt_trans h1 (by decide))
 have f2:Builtin.Range.rangeFitsLong b=true:=d4 (Nat.lt_trans h2 (by decide))
 have f3:Builtin.Range.rangeFitsLong (Builtin.Range.rangeSize a b (-1))=true:=d4 (by rw[Rg];split<;>lia)
 unfold Builtin.Range.small
 rw[f1,f2,f3,if_neg (by decide),show b+((-1:Int)+1)=b from Int.add_zero b,f2,Bool.or_true]
 rfl
theorem Wv{a b c:Int}(h:a.natAbs<2^30∧b.natAbs<2^30∧(c=1∨c=-1)):Builtin.Range.small a b c=true∧0≤Builtin.Range.rangeSize a b c:=by
 obtain⟨h1,h2,h3⟩:=h
 rcases h3 with rfl|rfl
 ·refine⟨small_one (KI h1).1 (KI h1).2 (KI h2).1 (KI h2).2,?_⟩
  rw[rangeSize_one];split<;>lia
 ·refine⟨Yl h1 h2,?_⟩
  rw[Rg];split<;>lia
theorem Dk{h:Heap}{a:Addr}(S:CF Γ g φ σ h)(ha:h.get? a=none):BS Γ g φ σ.cs.length [a]:=by
 have e:=DT Γ σ.m σ.b
 refine⟨fun b hb=>?_,fun b hb i hi z=>?_,fun b hb z=>?_⟩
 ·rw[List.mem_singleton.mp hb]
  cases q:g.get? a with
  |none=>rfl
  |some o=>rw[S.inv.sub _ _ q] at ha;cases ha
 ·obtain⟨o,q⟩:=S.inv.there hi
  rw[z,List.mem_singleton.mp hb,ha] at q;cases q
 ·rw[List.mem_singleton.mp hb,←e] at z
  obtain⟨p,hp,q⟩:=List.mem_map.mp z
  obtain⟨o,e3,_⟩:=(S.inv.fi p hp).there
  rw[q,ha] at e3;cases e3
theorem FC{tgt:Expr}{r:R (List D)}{items:List D}{g0:Heap}{φ0:Nat→Addr}{n0:Nat}{s0 s:Shared}{o:Obj}{St':Nat→Heap→Prop}(S:CF Γ g φ σ s.heap)(X:DH Γ.la g0 φ0 n0 s0.heap g φ σ.cs.length s.heap)(sm:Bn s0 s)(e:r=.ok items σ)
  (It:Hw Γ g tgt (.ref s.heap.objs.size) [s.heap.objs.size] items St')(st:St' 0 (s.heap.push o)):Pg Γ tgt r g0 φ0 n0 s0 (.ref s.heap.objs.size) {s with heap:=s.heap.push o}:=by
 have k:∀b o',s.heap.get? b=some o'→(s.heap.push o).get? b=some o':=fun b o' e=>Heap.get?_push_of_some _ e
 exact⟨items,σ,g,φ,_,St',e,⟨S.inv.keeps k⟩,X.trans (S.inv.keepsExt _ k),⟨sm.1,sm.2⟩,It,st,Dk S (A2 _),fun b hb=>X.dead b (by rw[List.mem_singleton.mp hb];exact A2 _)⟩
noncomputable def Ym(tgt:Expr):Prop:=∀it v,letOwnedTupleGo tgt it v=pure ()
theorem bY{elts:List Expr}{k:Nat}{p:Pos}{I l:Addr}{i:Nat}{s:Shared}{v:Value}{Q:Unit→Shared→Prop}{E:Value→Shared→Prop}(h:s.heap.IsListIter I l i)(q:Q () s):wpAny Γ.M Γ.A (letOwnedTupleGo (.Tuple elts k p) (.ref I) v) Q E s:=by
 cases v<;>first|exact wpAny_letOwnedTupleGo_listiter h q|exact wpAny_pure q
theorem Yn{P:Params}{vs:List Value}{xs:List D}(hr:C3 P g vs xs){i:Nat}{v:Value}{x:D}(hx:xs[i]? =some x)(hv:vs.toArray[i]? =some v):Rd P g v x:=by
 obtain⟨w,hw,rw'⟩:=hr.all2.get hx
 rw[List.getElem?_toArray,hw] at hv
 cases hv;exact rw'
theorem Ww{tgt:Expr}{I a:Addr}{vs:List Value}{xs:List D}{k:Nat}(hh:Γ.A.handled=none)(hg:IsL g a vs.toArray k)(hr:C3 Γ.P g vs xs)(hI:g.get? I=none)(ht:Ym tgt∨∃elts k p,tgt=.Tuple elts k p):
  Hw Γ g tgt (.ref I) [I] xs (fun i h=>(h.IsListIter I a i∧h.IsList a vs.toArray)∧∀b o,g.get? b=some o→h.get? b=some o):=by
 have ne:a≠I:=fun e=>by rw[IsL,e,hI] at hg;cases hg
 refine Hw.of (Walks.list hh I a ne vs.toArray) (fun b hb=>?_) (fun i h st=>let⟨o,e,_⟩:=st.1;⟨o,e⟩) (by rw[List.size_toArray,hr.len]) (fun i v x hx hv=>Yn hr hx hv) (fun i s v Q E st q=>?_) (fun i h st sub b hb q=>?_) hI
 ·rcases List.mem_cons.mp hb with rfl|hb
  ·exact .inl rfl
  ·rw[List.mem_singleton.mp hb];exact .inr ⟨_,hg⟩
 ·rcases ht with ht|⟨e,k,p,rfl⟩
  ·rw[ht];exact wpAny_pure q
  ·exact bY st.1 q
 ·rcases List.mem_cons.mp hb with rfl|hb
  ·exact absurd rfl q
  ·rw[List.mem_singleton.mp hb];exact⟨_,hg,sub _ _ hg⟩
theorem Yo{tgt:Expr}{I a:Addr}{vs:List Value}{xs:List D}{k:Nat}(hh:Γ.A.handled=none)(hg:IsT g a vs.toArray k)(hr:C3 Γ.P g vs xs)(hI:g.get? I=none)(ht:Ym tgt):
  Hw Γ g tgt (.ref I) [I] xs (fun i h=>(h.IsTupleIter I a i∧h.IsTuple a vs.toArray)∧∀b o,g.get? b=some o→h.get? b=some o):=by
 have ne:a≠I:=fun e=>by rw[IsT,e,hI] at hg;cases hg
 refine Hw.of (Walks.tuple hh I a ne vs.toArray) (fun b hb=>?_) (fun i h st=>let⟨o,e,_⟩:=st.1;⟨o,e⟩) (by rw[List.size_toArray,hr.len]) (fun i v x hx hv=>Yn hr hx hv) (fun i s v Q E st q=>by rw[ht];exact wpAny_pure q) (fun i h st sub b hb q=>?_) hI
 ·rcases List.mem_cons.mp hb with rfl|hb
  ·exact .inl rfl
  ·rw[List.mem_singleton.mp hb];exact .inr ⟨_,hg⟩
 ·rcases List.mem_cons.mp hb with rfl|hb
  ·exact absurd rfl q
  ·rw[List.mem_singleton.mp hb];exact⟨_,hg,sub _ _ hg⟩
theorem Vj{P:Params}{l:List Nat}{i:Nat}{v:Value}{x:D}(hx:(l.map fun c=>D.str [c])[i]? =some x)(hv:SignAt (so l) i v):Rd P g v x:=by
 obtain⟨c,u,h1,rfl⟩:=hv
 rw[List.getElem?_map,Option.map_eq_some_iff] at hx
 obtain⟨c',h2,rfl⟩:=hx
 rw[List.getElem?_toArray,h2] at h1
 cases h1
 exact .str [_] u
theorem d5{P:Params}{x y z:Int}{i:Nat}{v:Value}{d:D}(hx:(Ph x y z)[i]? =some d)(hv:∃t,v=.int (x+(i:Int)*z) t):Rd P g v d:=by
 obtain⟨t,rfl⟩:=hv
 unfold Ph at hx
 rw[List.getElem?_map,Option.map_eq_some_iff] at hx
 obtain⟨j,h2,rfl⟩:=hx
 obtain⟨h3,h4⟩:=List.getElem?_eq_some_iff.mp h2
 rw[List.getElem_range] at h4
 subst h4
 exact .int _ _
theorem Yp{tgt:Expr}{E:Value→Shared→Prop}{x:D}{va:Value}{r:R (List D)}{items:List D}{g0:Heap}{φ0:Nat→Addr}{n0:Nat}{s0 s:Shared}(hh:Γ.A.handled=none)(v1:Rd Γ.P g va x)(ei:G2 x=some items)(e:r=.ok items σ)
  (S:CF Γ g φ σ s.heap)(X:DH Γ.la g0 φ0 n0 s0.heap g φ σ.cs.length s.heap)(sm:Bn s0 s)(ht:Ym tgt∨((∃elts k p,tgt=.Tuple elts k p)∧∃xs,x=.lst xs)):
  wpAny Γ.M Γ.A (pyIter va) (fun it s2=>Pg Γ tgt r g0 φ0 n0 s0 it s2) E s:=by
 have hI:g.get? s.heap.objs.size=none:=by
  cases q:g.get? s.heap.objs.size with
  |none=>rfl
  |some o=>exact absurd (Heap.lt_size (S.inv.sub _ _ q)) (Nat.lt_irrefl _)
 have sub:∀{o':Obj},∀b o,g.get? b=some o→(s.heap.push o').get? b=some o:=fun b o e=>Heap.get?_push_of_some _ (S.inv.sub b o e)
 have no:∀{y:D},x=y→(∀xs,y≠.lst xs)→Ym tgt:=fun ey ny=>ht.elim id fun⟨_,xs,ex⟩=>absurd (ey.symm.trans ex) (ny xs)
 cases x with
 |lst xs=>
  cases ei
  obtain⟨a,vs,k,rfl,hg,hr⟩:=Rd.invL v1
  have hL:s.heap.IsList _ _:=IsL.isList (S.inv.sub _ _ hg)
  exact wpAny_pyIter_list hL (FC S X sm e (Ww hh hg hr hI (ht.imp id fun z=>z.1)) ⟨⟨⟨_,Heap.get?_push_size _ rfl,rfl,rfl⟩,hL.push _⟩,sub⟩)
 |tup xs=>
  cases ei
  obtain⟨a,vs,k,rfl,hg,hr⟩:=Rd.invTup v1
  have hT:s.heap.IsTuple a vs.toArray:=⟨_,S.inv.sub _ _ hg,rfl,_,rfl⟩
  exact wpAny_pyIter_tuple hT (FC S X sm e (Yo hh hg hr hI (no rfl fun z0=>nofun)) ⟨⟨⟨_,Heap.get?_push_size _ rfl,rfl,rfl⟩,hT.push _⟩,sub⟩)
 |str l=>
  cases ei
  obtain⟨t,rfl⟩:=Rd.invS v1
  have hno:=no rfl fun z0=>nofun
  cases ha:(so l).cps.all (· <128)
  ·exact wpAny_pyIter_wide ha (FC S X sm e (Hw.of (Walks.strWide hh s.heap.objs.size (so l) t) (fun b hb=>.inl (List.mem_singleton.mp hb)) (fun i h st=>let⟨o,e,_⟩:=st;⟨o,e⟩) (by simp) (fun i v x hx hv=>Vj hx hv) (fun i s v Q E st q=>by rw[hno];exact wpAny_pure q) (fun i h st sub b hb q=>absurd (List.mem_singleton.mp hb) q) hI) ⟨⟨_,Heap.get?_push_size _ rfl,rfl,rfl⟩,sub⟩)
  ·exact wpAny_pyIter_ascii ha (FC S X sm e (Hw.of (Walks.strAscii hh s.heap.objs.size (so l) t) (fun b hb=>.inl (List.mem_singleton.mp hb)) (fun i h st=>let⟨o,e,_⟩:=st;⟨o,e⟩) (by simp) (fun i v x hx hv=>Vj hx hv) (fun i s v Q E st q=>by rw[hno];exact wpAny_pure q) (fun i h st sub b hb q=>absurd (List.mem_singleton.mp hb) q) hI) ⟨⟨_,Heap.get?_push_size _ rfl,rfl,rfl⟩,sub⟩)
 |rng x y z=>
  have hno:=no rfl fun z0=>nofun
  have ei:(if x.natAbs<2^30∧y.natAbs<2^30∧(z=1∨z=-1) then some (Ph x y z) else none)=some items:=ei
  by_cases hz:x.natAbs<2^30∧y.natAbs<2^30∧(z=1∨z=-1)
  ·rw[if_pos hz] at ei
   cases ei
   obtain⟨a,t,u,v,rfl,hg⟩:=Rd.invR v1
   obtain⟨hs,h0⟩:=Wv hz
   refine wpAny_pyIter_range (S.inv.sub _ _ hg) hs (FC S X sm e (Hw.of (Walks.range hh s.heap.objs.size x z (Builtin.Range.rangeSize x y z).toNat) (fun b hb=>.inl (List.mem_singleton.mp hb)) (fun i h st=>⟨_,st⟩) (by simp[Ph]) (fun i v d hx hv=>d5 hx hv) (fun i s v Q E st q=>by rw[hno];exact wpAny_pure q) (fun i h st sub b hb q=>absurd (List.mem_singleton.mp hb) q) hI) ⟨?_,sub⟩)
   show IsRangeIter _ _ (x+(0:Nat)*z) (((Builtin.Range.rangeSize x y z).toNat:Int)-(0:Nat)) z
   rw[Int.toNat_of_nonneg h0]
   have:=Heap.get?_push_size s.heap (o:={cls:=.type "range_iterator",data:=.fields #[rawInt x,rawInt (Builtin.Range.rangeSize x y z),rawInt z]}) rfl
   simpa using this
  ·rw[if_neg hz] at ei;cases ei
 |_=>cases ei
theorem Oy{e tgt:Expr}{f:St→R AV}(h:A1 Γ sc e f)(ht:Ym tgt∨((∃elts k p,tgt=.Tuple elts k p)∧∀σ x σ',f σ=.ok (.d x) σ'→∃xs,x=.lst xs)):LC Γ sc e tgt (A7 f):=fun σ0 ns0 g0 φ0 s0 X0 S0=>by
 refine wpAny_mono (h σ0 (R.bind_ns ns0) g0 φ0 s0 X0 S0) ?_ fun e s h=>h.cast fun σ q=>R.bind_exc q
 rintro va s1 ⟨a,σ1,e1,g1,φ1,S1,X1,v1,sm1⟩
 have ns1:=R.bind_ok ns0 e1
 cases a with
 |lst i=>exact absurd rfl ns1
 |obj c i=>exact absurd rfl ns1
 |d x=>
  cases ei:G2 x with
  |none=>rw[show Pi (.d x)=none from ei] at ns1;exact absurd rfl ns1
  |some xs=>
   have eq:A7 f σ0=.ok xs σ1:=by unfold A7;rw[e1];show ofO (Pi (.d x)) _=_;rw[show Pi (.d x)=some xs from ei];rfl
   exact Yp X0.hnd v1 ei eq S1 X1 sm1 (ht.imp id fun z=>⟨z.1,z.2 _ _ _ e1⟩)
open Classical in
noncomputable def JJ(i:Nat)(all:List AV)(t:AV→St→R Unit)(b:St→R AF):List D→St→R AF
 |[],σ=>if BL σ.cs i=some all then .ok .next σ else .stuck
 |x::xs,σ=>if BL σ.cs i=some all then(t (.d x) σ).bind fun z0 σ=>(b σ).bind (Ly (JJ i all t b xs)) else .stuck
noncomputable def Rh(n:Nat)(t:AV→St→R Unit)(b:St→R AF)(v:AV)(σ:St):R AF:=match v with
 |.lst i=>if i<n then(match BL σ.cs i with
  |some all=>(match Fu all with
   |some ds=>JJ i all t b ds σ
   |none=>.stuck)
  |none=>.stuck) else .stuck
 |_=>.stuck
noncomputable def UH(f:St→R AV)(t:AV→St→R Unit)(b:St→R AF):St→R AF:=fun σ=>(f σ).bind (Rh σ.cs.length t b)
set_option tactic.hygienic true in
theorem d6{i:Nat}{all:List AV}{t:AV→St→R Unit}{b:St→R AF}:Yi t b (JJ i all t b) (fun σ=>BL σ.cs i=some all) where
 nil σ ns:=by
  unfold JJ at ns ⊢
  split at ns
  ·rename_i q;exact⟨q,if_pos q⟩
  ·exact absurd rfl ns
 cons x xs σ ns:=by
  conv at ns=>unfold JJ
  split at ns
  ·rename_i q;exact⟨q,by(conv=>lhs;unfold JJ);exact if_pos q⟩
  ·exact absurd rfl ns
noncomputable def cj(P:Params)(a:Addr)(ds:List D)(g h:Heap):Prop:=Gc (fun vs k=>IsL h a vs.toArray k) (fun vs k=>C3 P g vs ds)
theorem UI{x:Str}{p:Pos}{I a:Addr}{ds:List D}{g1:Heap}(hh:Γ.A.handled=none)(ne:a≠I)(hI:g1.get? I=none):Vh Γ g1 (.Name x p) (.ref I) [I] ds (fun i h=>h.IsListIter I a i) (cj Γ.P a ds) where
 live i h st b hb:=by rw[List.mem_singleton.mp hb];obtain⟨o,e,_⟩:=st;exact⟨o,e⟩
 frame i h h' st k kg:=st.at fun o e=>k I (.head _) o e
 item i y s E g hx st k1 k2 j:=by
  obtain⟨vs,kk,hl,hr⟩:=j
  have W:=Walks.list (prog:=pw) (w:=Γ.w) hh I a ne vs.toArray
  have hi:i<vs.toArray.size:=by rw[List.size_toArray,hr.len];exact(List.getElem?_eq_some_iff.mp hx).1
  refine W.item i s _ E hi ⟨st,IsL.isList hl⟩ fun v h' tk hv st' k=>⟨v,rfl,wpAny_pure ⟨k,⟨rfl,rfl⟩,st'.1,fun g' z z0=>?_⟩⟩
  obtain⟨w,hw,rw'⟩:=hr.all2.get hx
  rw[List.getElem?_toArray,hw] at hv
  cases hv;exact Rd.mono z rw'
 done s E g st k1 k2 j:=by
  obtain⟨vs,kk,hl,hr⟩:=j
  rw[←hr.len,←List.size_toArray] at st
  exact(Walks.list (prog:=pw) (w:=Γ.w) hh I a ne vs.toArray).done s _ E ⟨st,IsL.isList hl⟩ fun h' tk k=>⟨rfl,k,⟨rfl,rfl⟩⟩
theorem Yq{e:Expr}{x:Str}{b:List Stmt}{p pp:Pos}{f:St→R AV}{ft:AV→St→R Unit}{fb:St→R AF}(h:A1 Γ sc e f)(ht:Hk Γ sc (.Name x pp) ft)(hb:FB Γ sc b fb)(hs:∀env x,foldedSetIterable e env x=pure x:=by intro _ _;rfl):JF Γ sc (.For (.Name x pp) e b [] p) (UH f ft fb):=
 Rf ht hb hs fun σ ns g φ s X S=>wpAny_mono (h σ (R.bind_ns ns) g φ s X S) (by
  rintro va s1 ⟨v,σ1,e1,g1,φ1,S1,X1,v1,sm1⟩
  have ns1:Rh σ.cs.length ft fb v σ1≠.stuck:=R.bind_ok ns e1
  have eq:UH f ft fb σ=Rh σ.cs.length ft fb v σ1:=by unfold UH;rw[e1];rfl
  cases v with
  |d _=>exact absurd rfl ns1
  |obj _ _=>exact absurd rfl ns1
  |lst i=>
   obtain⟨rfl,hi1⟩:=v1
   unfold Rh at ns1 eq
   dsimp only at ns1 eq
   by_cases hi:i<σ.cs.length
   ·rw[if_pos hi] at ns1 eq
    cases ea:BL σ1.cs i with
    |none=>rw[ea] at ns1;exact absurd rfl ns1
    |some all=>
     rw[ea] at ns1 eq
     dsimp only at ns1 eq
     cases ed:Fu all with
     |none=>rw[ed] at ns1;exact absurd rfl ns1
     |some ds=>
      rw[ed] at eq
      have hJ:∀(σ2:St) (g2:Heap) (φ2:Nat→Addr) (h2:Heap),BL σ2.cs i=some all→CF Γ g2 φ2 σ2 h2→φ2 i=φ1 i→cj Γ.P (φ1 i) ds g2 h2:=fun σ2 g2 φ2 h2 j S2 q=>by
       obtain⟨vs,k,hl,hv⟩:=S2.inv.cell i _ (C4 j)
       rw[q] at hl
       exact⟨vs,k,hl,F0 hv ed⟩
      obtain⟨vs,k,hl,hr⟩:=hJ σ1 g1 φ1 s1.heap ea S1 rfl
      have hL:s1.heap.IsList _ _:=IsL.isList hl
      have hne:φ1 i≠s1.heap.objs.size:=fun q=>by rw[IsL,q,A2] at hl;cases hl
      have hI:g1.get? s1.heap.objs.size=none:=by
       cases q:g1.get? s1.heap.objs.size with
       |none=>rfl
       |some o=>exact absurd (Heap.lt_size (S1.inv.sub _ _ q)) (Nat.lt_irrefl _)
      have kk:∀{o:Obj} b o',s1.heap.get? b=some o'→(s1.heap.push o).get? b=some o':=fun b o' e=>Heap.get?_push_of_some _ e
      exact wpAny_pyIter_list hL ⟨ds,JJ i all ft fb,_,σ1,g1,φ1,[s1.heap.objs.size],_,_,eq,⟨S1.inv.keeps kk⟩,X1.trans (S1.inv.keepsExt _ kk),⟨sm1.1,sm1.2⟩,UI X.hnd hne hI,⟨_,Heap.get?_push_size _ rfl,rfl,rfl⟩,Dk S1 (A2 _),
       fun b hb=>X1.dead b (by rw[List.mem_singleton.mp hb];exact A2 _),d6,fun σ2 g2 φ2 h2 j S2 X2=>hJ σ2 g2 φ2 h2 j S2 ((X2.eq i hi).trans (X1.eq i hi).symm)⟩
   ·rw[if_neg hi] at ns1;exact absurd rfl ns1) fun e s h=>h.cast fun σ q=>R.bind_exc q
end
section
variable {Γ:BO} {sc:Scope} {g:Heap} {φ:Nat→Addr} {σ:St}
theorem Lz{p:Pos}{f:Value}{first:List Value}{trees:List (Bool×Sem Value)}{r:R (List AV)}{g:Heap}{φ:Nat→Addr}{n:Nat}{s:Shared}{Q:Value→Shared→Prop}{E:Value→Shared→Prop}(hp:trees.any (·.1)=false)
  (ha:At Γ (spliced trees) (i6 Γ) r g φ n s)(hE:∀e s',Et Γ r g φ n s e s'→E e s')
  (hc:∀vs bs σ' g' φ' s',r=.ok bs σ'→CF Γ g' φ' σ' s'.heap→DH Γ.la g φ n s.heap g' φ' σ'.cs.length s'.heap→Al (CJ Γ.P g' φ' σ'.cs.length) vs bs→Bn s s'→F3 Γ.M s'.heap f∧wpAny Γ.M Γ.A (call f (first++vs)) Q E s'):
  wpAny Γ.M Γ.A (callWith p f first trees []) Q E s:=by
 refine callWith_of (P:=fun h=>F3 Γ.M h f) (by rw[hp];rfl) (fun h x=>x) (Hs hp ?_)
 refine wpAny_mono ha ?_ hE
 rintro vs s' ⟨bs,σ',rfl,g',φ',S,X,v,sm⟩
 exact hc vs bs σ' g' φ' s' rfl S X v sm
noncomputable def GA:Nat→List D→List D
 |_,[]=>[]
 |i,x::xs=>.tup [.int i,x]::GA (i+1) xs
theorem LD:∀(xs:List D) (j i:Nat),(GA j xs)[i]? =(xs[i]?).map fun x=>D.tup [.int (j+i:Nat),x]
 |[],j,i=>by simp[GA]
 |x::xs,j,0=>by simp[GA]
 |x::xs,j,i+1=>by
  simp only[GA,List.getElem?_cons_succ]
  rw[LD xs (j+1) i]
  congr 1;funext y;rw[show j+1+i=j+(i+1) by lia]
theorem Oz:∀(xs:List D) (j:Nat),(GA j xs).length=xs.length
 |[],_=>rfl
 |x::xs,j=>by simp[GA,Oz xs]
noncomputable def Hx(f:St→R (List AV)):St→R (List D):=fun σ=>(f σ).bind fun v σ=>match v with
 |[.d (.lst xs)]=>.ok (GA 0 xs) σ
 |_=>.stuck
theorem UJ{h:Heap}{a b:Addr}(S:CF Γ g φ σ h)(ha:h.get? a=none)(hb:h.get? b=none):BS Γ g φ σ.cs.length [a,b]:=by
 have x:=Dk S ha
 have y:=Dk S hb
 refine⟨fun c hc=>?_,fun c hc=>?_,fun c hc=>?_⟩
 all_goals rcases List.mem_cons.mp hc with rfl|hc
 ·exact x.g _ (.head _)
 ·rw[List.mem_singleton.mp hc];exact y.g _ (.head _)
 ·exact x.c _ (.head _)
 ·rw[List.mem_singleton.mp hc];exact y.c _ (.head _)
 ·exact x.l _ (.head _)
 ·rw[List.mem_singleton.mp hc];exact y.l _ (.head _)
theorem Wx{elts:List Expr}{kk:Nat}{p:Pos}{e it a:Addr}{vs:List Value}{xs:List D}{k:Nat}(hh:Γ.A.handled=none)(hg:IsL g a vs.toArray k)(hr:C3 Γ.P g vs xs)(he:g.get? e=none)(hi:g.get? it=none)(hei:e≠it):
  Hw Γ g (.Tuple elts kk p) (.ref e) [e,it] (GA 0 xs) (fun i h=>(∃old,IsEnum h e it i old)∧h.IsListIter it a i):=by
 have nae:a≠e:=fun q=>by rw[IsL,q,he] at hg;cases hg
 have nai:a≠it:=fun q=>by rw[IsL,q,hi] at hg;cases hg
 refine⟨fun i h st b hb=>?_,fun i h h' st k1 k2=>?_,fun i x s E hx st sub=>?_,fun s E st sub=>?_,fun i s Q E st q=>?_⟩
 ·rcases List.mem_cons.mp hb with rfl|hb
  ·obtain⟨⟨old,h1⟩,_⟩:=st;exact⟨_,h1⟩
  ·rw[List.mem_singleton.mp hb];obtain⟨_,o,h1,_⟩:=st;exact⟨o,h1⟩
 ·obtain⟨⟨old,h1⟩,h2⟩:=st
  exact⟨⟨old,k1 e (by simp) _ h1⟩,h2.at fun o x=>k1 it (by simp) o x⟩
 ·obtain⟨⟨old,h1⟩,h2⟩:=st
  rw[LD,Option.map_eq_some_iff] at hx
  obtain⟨y,hy,rfl⟩:=hx
  obtain⟨v,hv,hvy⟩:=hr.all2.get hy
  have hl:s.heap.IsList a vs.toArray:=IsL.isList (sub _ _ hg)
  have hse:e<s.heap.objs.size:=Heap.lt_size h1
  have hsi:it<s.heap.objs.size:=by obtain⟨o,x,_⟩:=h2;exact Heap.lt_size x
  refine wpAny_pyNext_enum_item h1 h2 hl (x:=v) (by simpa using hv) hei fun h' ho hit' hT hsz hk=>⟨_,rfl,?_⟩
  refine wpAny_letOwnedTupleGo_enum ho fun h'' he'' hs''=>⟨fun b o hb q=>?_,⟨rfl,rfl⟩,⟨⟨v,by simpa using he''⟩,hit'.at fun o y=>(hs''.2 it hei.symm).trans y⟩,fun g' k1 k2=>?_⟩
  ·exact(hs''.2 b fun z=>hb (by simp[z])).trans (hk b o (fun z=>hb (by simp[z])) (fun z=>hb (by simp[z])) q)
  ·refine .tup (vs:=[.int i s.toks,v]) (k:=0) (k2 _ _ (A2 _) ?_ ((hs''.2 _ (Nat.ne_of_gt hse)).trans hT)) (.cons ?_ (.cons (Rd.mono k1 hvy) .nil))
   ·intro z
    rcases List.mem_cons.mp z with z|z
    ·exact absurd z (Nat.ne_of_gt hse)
    ·exact absurd (List.mem_singleton.mp z) (Nat.ne_of_gt hsi)
   ·have:((0+i:Nat):Int)=(i:Int):=by lia
    rw[this];exact .int _ _
 ·obtain⟨⟨old,h1⟩,h2⟩:=st
  have hl:s.heap.IsList a vs.toArray:=IsL.isList (sub _ _ hg)
  rw[Oz] at h1 h2
  refine wpAny_pyNext_enum_end hh h1 h2 hl (by rw[←hr.len];simp) fun h' hx=>⟨rfl,fun b o hb y=>hx b o (fun z=>hb (by simp[z])) y,⟨rfl,rfl⟩⟩
 ·obtain⟨⟨old,h1⟩,h2⟩:=st
  exact wpAny_pyIter_enum h1 q
set_option tactic.hygienic true in
theorem Yr{p pos pt:Pos}{args elts:List Expr}{k:Nat}{f:St→R (List AV)}(ha:Em Γ sc pos args f)(hl:sc.names.lookup (Str.ofString "enumerate")=some .globalImplicit)(hk:∀P,nsIn (Kp pw P) mainGlobals "enumerate"=some none):LC Γ sc (.Call (.Name "enumerate" p) args [] pos) (.Tuple elts k pt) (Hx f):=fun σ0 ns0 g0 φ0 s0 X0 S0=>by
 rw[arm_eval_Call_Name']
 refine wpAny_bind (Gx (v:=.type "enumerate") hl hk (by decide) (by decide) (by decide) g0 X0 s0 _ _ S0.inv.sub ?_)
 refine Lz ha.1 (ha.2 σ0 (R.bind_ns ns0) g0 φ0 s0 X0 S0) (fun e s h=>h.cast fun σ q=>R.bind_exc q) fun vs bs σ1 g1 φ1 s1 e1 S1 X1 v1 sm1=>⟨G0,?_⟩
 have ns1:=R.bind_ok ns0 e1
 split at ns1
 ·rename_i xs
  cases v1 with|cons hv hn=>
  cases hn
  obtain⟨a,ws,kq,rfl,hg,hr⟩:=Rd.invL hv
  refine call_enumerate_1 (S1.inv.sub _ _ hg) fun h' he hi hz kk=>?_
  refine wpAny_pyIter_enum he ?_
  have eq:Hx f σ0=.ok (GA 0 xs) σ1:=by unfold Hx;rw[e1];rfl
  have d1:=A2 s1.heap
  have d2:s1.heap.get? (s1.heap.objs.size+1)=none:=by
   cases q:s1.heap.get? (s1.heap.objs.size+1) with
   |none=>rfl
   |some o=>exact absurd (Heap.lt_size q) (Nat.not_lt.mpr (Nat.le_succ _))
  have gn:∀b,s1.heap.get? b=none→g1.get? b=none:=fun b hb=>by
   cases q:g1.get? b with
   |none=>rfl
   |some o=>rw[S1.inv.sub b o q] at hb;cases hb
  exact⟨GA 0 xs,σ1,g1,φ1,[s1.heap.objs.size+1,s1.heap.objs.size],_,eq,⟨S1.inv.keeps kk⟩,X1.trans (S1.inv.keepsExt _ kk),⟨sm1.1,sm1.2⟩,Wx X0.hnd hg hr (gn _ d2) (gn _ d1) (Nat.succ_ne_self _),⟨⟨_,he⟩,hi⟩,UJ S1 d2 d1,
   fun b hb=>X1.dead b (by
    rcases List.mem_cons.mp hb with rfl|hb
    ·exact d2
    ·rw[List.mem_singleton.mp hb];exact d1)⟩
 ·exact absurd rfl ns1
end
inductive RC where
 |ok (v:AV) (cs:List AK)|exc (cs:List AK)|stuck
noncomputable def RC.on(σ:St):RC→R AV
 |.ok v cs=>.ok v {σ with cs:=cs}
 |.exc cs=>.exc {σ with cs:=cs}
 |.stuck=>.stuck
noncomputable def LF:AF→AV
 |.ret v=>v
 |_=>.d .none
noncomputable def fin(fz:Bool)(n:Nat):R AF→RC
 |.ok a σ=>if fz then(match Tl n σ.cs (LF a) with
   |some d=>if clo n (σ.cs.take n) then .ok (.d d) (σ.cs.take n) else .stuck
   |none=>.stuck) else .ok (LF a) σ.cs
 |.exc σ=>if clo n (σ.cs.take n) then .exc (σ.cs.take n) else .stuck
 |.stuck=>.stuck
noncomputable def LG(kind:Str→Option NameKind):List Str→List AV→(Str→Option AV)→Str→Option AV
 |n::ns,v::vs,m=>LG kind ns vs (if kind n=some .local then Xj m n v else m)
 |_,_,m=>m
noncomputable def LH(kind:Str→Option NameKind):List Str→List AV→(Str→Option AV)→Str→Option AV
 |n::ns,v::vs,m=>LH kind ns vs (if kind n=some .local then m else Xj m n v)
 |_,_,m=>m
noncomputable def Ct(sc:Scope)(names:List Str)(cs:List AK)(bs:List AV):St:=⟨cs,LG (fun x=>sc.names.lookup x) names bs fun z0=>none,LH (fun x=>sc.names.lookup x) names bs fun z0=>none⟩
set_option tactic.hygienic true in
theorem Ri{P:Params}{g:Heap}{φ:Nat→Addr}{n:Nat}{kind:Str→Option NameKind}:∀{names:List Str} {vs:List Value} {bs:List AV} {m:Str→Option Value} {ma:Str→Option AV},Al (CJ P g φ n) vs bs→(∀x av,ma x=some av→Aj (fun v=>m x=some v) (fun v=>CJ P g φ n v av))→
  ∀x av,LG kind names bs ma x=some av→Aj (fun v=>bindL kind (names.zip vs) m x=some v) (fun v=>CJ P g φ n v av)
 |[],_,_,_,_,_,h=>by simpa[LG,bindL] using h
 |_::_,_,_,_,_,.nil,h=>by simpa[LG,bindL] using h
 |y::names,_,_,m,ma,.cons hv r,h=>by
  unfold LG
  rw[List.zip_cons_cons]
  unfold bindL
  refine Ri r fun x av e=>?_
  split at e
  ·rename_i q
   rw[if_pos q]
   unfold Xj at e
   split at e
   ·rename_i q2;cases e;exact⟨_,if_pos q2,hv⟩
   ·rename_i q2
    obtain⟨w,h1,h2⟩:=h x av e
    exact⟨w,by show(if x=y then _ else _)=_;rw[if_neg q2];exact h1,h2⟩
  ·rename_i q
   rw[if_neg q]
   exact h x av e
theorem Rj{P:Params}{g:Heap}{φ:Nat→Addr}{n:Nat}{kind:Str→Option NameKind}:∀{names:List Str} {vs:List Value} {bs:List AV} {m:Str→Option Value} {ma:Str→Option AV},Al (CJ P g φ n) vs bs→(∀x,dR P g φ n (m x) (ma x))→
  ∀x,dR P g φ n (bindC kind (names.zip vs) m x) (LH kind names bs ma x)
 |[],_,_,_,_,_,h=>by simpa[LH,bindC] using h
 |_::_,_,_,_,_,.nil,h=>by simpa[LH,bindC] using h
 |y::names,_,_,m,ma,.cons hv r,h=>by
  unfold LH
  rw[List.zip_cons_cons]
  unfold bindC
  refine Rj r fun x=>?_
  by_cases q:kind y=some .local
  ·rw[if_pos q,if_pos q];exact h x
  ·rw[if_neg q,if_neg q]
   unfold Xj
   split
   ·exact hv
   ·exact h x
noncomputable def Hf:List (Str×NameKind)→List Str→List Str
 |[],acc=>acc
 |(n,k)::r,acc=>if k== .cell then Hf r (n::acc) else Hf r acc
theorem CK:∀(names:List (Str×NameKind)) (n:Nat) (acc:List (Str×Addr)),(cellsFrom n names acc).map (·.1)=Hf names (acc.map (·.1))
 |[],_,_=>rfl
 |(x,k)::r,n,acc=>by
  unfold cellsFrom Hf
  split
  ·rw[CK r];rfl
  ·exact CK r _ _
theorem EA{α:Type}{x:Str}:∀{l:List (Str×α)},x∈l.map (·.1)→(l.lookup x).isSome=true
 |(y,b)::l,h=>by
  rw[List.lookup_cons]
  cases q:x==y with
  |true=>rfl
  |false=>
   simp only
   refine EA ?_
   rcases List.mem_cons.mp h with e|h
   ·rw[show x=y from e] at q;simp at q
   ·exact h
structure Fn where
 a:Addr
 n:Str
 q:Str
 s:Stmt
 pm:Value
 c:Addr
 names:List Str
noncomputable abbrev Fn.fd(F:Fn):FuncData:=fo F.n F.q F.s F.pm F.c
structure Bb(F:Fn):Prop where
 at_:∀P,List.lookup F.a (Kp pw P)=some ⟨.type "function",none,.func F.fd,List.toArray []⟩
 code:∀P,codeIn (Kp pw P) (.ref F.c) F.q=true
 bind:∀vals:List Value,vals.length=F.names.length→bindArgs F.fd ⟨vals,[]⟩=pure (F.names.zip vals)
 kind:(BR F.s).kind=.function
 gen:(BR F.s).isGenerator=false
 co:(BR F.s).isCoroutine=false
 par:∀x∈F.names,(BR F.s).names.lookup x=some .local∨((BR F.s).names.lookup x=some .cell∧x∈Hf (BR F.s).names [])
 nodup:(Hf (BR F.s).names []).Nodup
theorem DH.frame{la la':List Addr}{g g':Heap}{φ φ':Nat→Addr}{n n':Nat}{h h1 h':Heap}(k:∀b o,h.get? b=some o→h1.get? b=some o)(x:DH la' g φ n h1 g' φ' n' h')(hla:∀b∈la',b∈la∨h.get? b=none):DH la g φ n h g' φ' n' h':=
 {sub:=x.sub,len:=x.len,eq:=x.eq,live:=fun b o e=>x.live b o (k b o e)
  fresh:=fun j j1 j2=>by
   have:=x.fresh j j1 j2
   cases q:h.get? (φ' j) with
   |none=>rfl
   |some o=>rw[k _ o q] at this;cases this
  kept:=fun b o e n1 n2=>x.kept b o (k b o e) n1 fun z=>by
   rcases hla b z with z|z
   ·exact n2 z
   ·rw[e] at z;cases z
  gnew:=fun b e l n1=>x.gnew b e (let⟨o,eo⟩:=l;⟨o,k b o eo⟩) n1}
theorem DH.frz{la:List Addr}{P:Params}{g g':Heap}{φ φ':Nat→Addr}{n:Nat}{cs':List AK}{aux:List (Addr×FI)}{h h':Heap}(x:DH la g φ n h g' φ' cs'.length h')(I:DK P g' φ' cs' aux h'):DH la g φ n h (M3 g' h' φ' n cs'.length) φ' n h':=
 ⟨fun b o e=>WX I b o (x.sub b o e) n,Nat.le_refl _,x.eq,fun j h1 h2=>absurd h2 (Nat.not_lt.mpr h1),x.live,x.kept,fun b e l n1=>Ba (x.gnew b e l n1) fun z=>by
  obtain⟨i,h1,h2,h3⟩:=z
  have:=x.fresh i h1 h2
  obtain⟨o,eo⟩:=l
  rw[h3,eo] at this;cases this⟩
section
variable {Γ:BO} {sc:Scope} {g:Heap} {φ:Nat→Addr} {σ:St} {s:Shared}
theorem LI{h:Heap}(S:CF Γ g φ σ h):∀p:Addr×FI,p∈Γ.aux σ.m σ.b→p.2.below σ.cs.length:=fun p hp=>(S.inv.fi p hp).isBelow
noncomputable def Vk:Flow→Value
 |.ret v=>v
 |_=>.none
set_option tactic.hygienic true in
theorem Ys{fz:Bool}{r:R AF}{f:Flow}{g0:Heap}{φ0:Nat→Addr}{s0 s':Shared}{Γ':BO}{σ0:St}(ns:fin fz σ0.cs.length r≠.stuck)(S0:CF Γ g0 φ0 σ0 s0.heap)(hP:Γ'.P=Γ.P)(haux:∀m b,(Γ.aux σ0.m σ0.b).Sublist (Γ'.aux m b)){s1:Shared}(k:∀b o,s0.heap.get? b=some o→s1.heap.get? b=some o)(sm:Bn s0 s1)(hla:∀b∈Γ'.la,b∈Γ.la∨s0.heap.get? b=none)
  (h:GO Γ' (Ws Γ') r g0 φ0 σ0.cs.length s1 f s'):GO Γ (VA Γ) ((fin fz σ0.cs.length r).on σ0) g0 φ0 σ0.cs.length s0 (Vk f) s':=by
 obtain⟨a,σ',rfl,g',φ',S',X',v',sm'⟩:=h
 have I:=S'.inv.sublist (haux σ'.m σ'.b)
 rw[hP] at I
 have X:=X'.frame k hla
 have vv:CJ Γ.P g' φ' σ'.cs.length (Vk f) (LF a):=by
  cases f<;>cases a<;>first|exact v'.elim|exact Rd.none|(rw[←hP];exact v')
 unfold fin at ns ⊢
 cases fz with
 |false=>exact⟨_,_,rfl,g',φ',⟨I⟩,X,vv,sm.trans sm'⟩
 |true=>
  simp only[if_true] at ns ⊢
  split at ns
  ·rename_i d e
   split at ns
   ·rename_i hc
    rw[if_pos hc]
    have len:(σ'.cs.take σ0.cs.length).length=σ0.cs.length:=by rw[List.length_take];have:=X.len;lia
    refine⟨_,_,rfl,_,φ',⟨I.freeze X.len hc (LI S0)⟩,?_,Xr I vv e,sm.trans sm'⟩
    show DH _ _ _ _ _ _ _ (σ'.cs.take σ0.cs.length).length _
    rw[len];exact X.frz I
   ·exact absurd rfl ns
  ·exact absurd rfl ns
set_option tactic.hygienic true in
theorem bZ{fz:Bool}{r:R AF}{e:Value}{g0:Heap}{φ0:Nat→Addr}{s0 s':Shared}{Γ':BO}{σ0:St}(ns:fin fz σ0.cs.length r≠.stuck)(S0:CF Γ g0 φ0 σ0 s0.heap)(hP:Γ'.P=Γ.P)(haux:∀m b,(Γ.aux σ0.m σ0.b).Sublist (Γ'.aux m b)){s1:Shared}(k:∀b o,s0.heap.get? b=some o→s1.heap.get? b=some o)(sm:Bn s0 s1)(hla:∀b∈Γ'.la,b∈Γ.la∨s0.heap.get? b=none)
  (h:Et Γ' r g0 φ0 σ0.cs.length s1 e s'):Et Γ ((fin fz σ0.cs.length r).on σ0) g0 φ0 σ0.cs.length s0 e s':=by
 obtain⟨σ',rfl,g',φ',S',X',F,sm'⟩:=h
 have I:=S'.inv.sublist (haux σ'.m σ'.b)
 rw[hP] at I
 have X:=X'.frame k hla
 unfold fin at ns ⊢
 simp only at ns ⊢
 split at ns
 ·rename_i hc
  rw[if_pos hc]
  have len:(σ'.cs.take σ0.cs.length).length=σ0.cs.length:=by rw[List.length_take];have:=X.len;lia
  have hdead:∀b,s1.heap.get? b=none→s0.heap.get? b=none:=fun b hb=>by
   cases q:s0.heap.get? b with
   |none=>rfl
   |some o=>rw[k b o q] at hb;cases hb
  refine⟨_,rfl,_,φ',⟨I.freeze X.len hc (LI S0)⟩,?_,?_,sm.trans sm'⟩
  ·show DH _ _ _ _ _ _ _ (σ'.cs.take σ0.cs.length).length _
   rw[len];exact X.frz I
  ·show Dg _ _ (σ'.cs.take σ0.cs.length).length _ _ _
   rw[len]
   obtain⟨a,oe,vs,x1,x2,x3,x4,x5,x6,x7,x8,x9⟩:=F
   have nz:∀c,g'.get? c=none→(∀i,i<σ'.cs.length→φ' i≠c)→(M3 g' s'.heap φ' σ0.cs.length σ'.cs.length).get? c=none:=fun c h1 h2=>Ba h1 fun z=>by
    obtain⟨i,_,h3,h4⟩:=z;exact h2 i h3 h4
   refine⟨a,oe,vs,x1,x2,x3,x4,x5,hdead _ x6,nz _ x7 x8,fun i hi=>x8 i (Nat.lt_of_lt_of_le hi X.len),?_⟩
   exact x9.imp id fun⟨T,oT,ts,y1,y2,y3,y4,y5,y6,y7,y8⟩=>⟨T,oT,ts,y1,y2,hdead _ y3,nz _ y4 y5,fun i hi=>y5 i (Nat.lt_of_lt_of_le hi X.len),y6,y7,y8⟩
 ·exact absurd rfl ns
end
section
variable {Γ:BO} {sc:Scope} {g:Heap} {φ:Nat→Addr} {σ:St} {s:Shared}
noncomputable def C9(w:World)(A:Around)(rs:List (Addr×FI))(F:Fn)(L:Addr)(n:Nat):BO:=
 {w:=w,A:=A.deeper (callEnvC F.fd L F.a),env:=callEnvC F.fd L F.a,L:=L,ba:=cellsFrom (L+1) (BR F.s).names [],rest:=rs,room:=n}
theorem O0:∀{l:List (Str×Addr)},(l.map (·.1)).Nodup→∀{p:Str×Addr},p∈l→l.lookup p.1=some p.2
 |(x,a)::l,nd,p,h=>by
  rw[List.map_cons,List.nodup_cons] at nd
  rw[List.lookup_cons]
  rcases List.mem_cons.mp h with rfl|h
  ·simp
  ·have:p.1≠x:=fun e=>nd.1 (List.mem_map.mpr ⟨p,h,e⟩)
   rw[show(p.1==x)=false from beq_eq_false_iff_ne.mpr this]
   exact O0 nd.2 h
noncomputable def Pj(F:Fn)(n:Nat)(B:St→R AF):Prop:=∀Γ:BO,Γ.room=n→(∀x∈Hf (BR F.s).names [],(Γ.ba.lookup x).isSome=true)→FB Γ (BR F.s) (JH F.s) B
theorem O1{F:Fn}(K:Bb F){n:Nat}{B:St→R AF}(hB:Pj F n B){w:World}{A:Around}{rs:List (Addr×FI)}{cs:List AK}{vs:List Value}{bs:List AV}(hd:A.depth+2*(n+1)≤900)(hu:A.units+40*(n+1)≤9000)(hnd:A.handled=none)
  (fr:Aj (fun es=>A.frames=some es) (fun es=>∀e∈es,e.scope.kind≠.module∧Aj (fun L=>e.frame=some L) (fun L=>L∈rs.map (·.1))))(wd:(KP w).In g)(top:RA g)(inv:DK w.params g φ cs rs s.heap)(hv:Al (CJ w.params g φ cs.length) vs bs)(hl:bs.length=F.names.length)
  (nsB:B (Ct (BR F.s) F.names cs bs)≠.stuck):codeAny (model pw w) A (.call (.ref F.a) ⟨vs,[]⟩) (fun r s'=>∃h1 tk,(∀b o,s.heap.get? b=some o→h1.get? b=some o)∧(∀b∈(C9 w A rs F s.heap.objs.size n).la,b∈rs.map (·.1)∨s.heap.get? b=none)∧match r with
  |.ok (.ret v)=>Aj (fun f=>v=Vk f) (fun f=>GO (C9 w A rs F s.heap.objs.size n) (Ws (C9 w A rs F s.heap.objs.size n)) (B (Ct (BR F.s) F.names cs bs)) g φ cs.length {s with heap:=h1,toks:=tk} f s')
  |.ok _=>False
  |.error e=>Et (C9 w A rs F s.heap.objs.size n) (B (Ct (BR F.s) F.names cs bs)) g φ cs.length {s with heap:=h1,toks:=tk} e s') s:=by
 obtain⟨mg,mb,T⟩:=top
 have hvl:vs.length=F.names.length:=hv.length.trans hl
 have hat:=wd _ _ (K.at_ w.params)
 have hat':=inv.sub _ _ hat
 refine codeAny_call_cells (fd:=F.fd) (body:=JH F.s) (binds:=F.names.zip vs) (by unfold recursionLimit;lia) hat' rfl (T.nolimit.keeps inv.sub) ((codeRec_of wd (K.code w.params)).keeps inv.sub) rfl (K.bind vs hvl) rfl (fun x hx=>?_) (fun s1 I=>?_) K.co K.gen K.kind
 ·have hx':x.1∈F.names:=by
   have:=List.mem_map_of_mem (f:=Prod.fst) hx
   rw[List.map_fst_zip (by lia)] at this
   exact this
  refine(K.par x.1 hx').imp id fun z=>⟨z.1,EA ?_⟩
  rw[CK];exact z.2
 ·
  have hla:(C9 w A rs F s.heap.objs.size n).la=(cellsFrom (s.heap.objs.size+1) (BR F.s).names []).map (·.2)++s.heap.objs.size::rs.map (·.1):=rfl
  have hG:∀b∈(C9 w A rs F s.heap.objs.size n).la,b∈rs.map (·.1)∨s.heap.get? b=none:=fun b hb=>by
   rw[hla] at hb
   rcases List.mem_append.mp hb with hb|hb
   ·right
    obtain⟨p,hp,rfl⟩:=List.mem_map.mp hb
    have:=I.above p.1 p.2 hp
    cases q:s.heap.get? p.2 with
    |none=>rfl
    |some o=>exact absurd (Heap.lt_size q) (Nat.not_lt.mpr (Nat.le_of_lt this))
   ·rcases List.mem_cons.mp hb with rfl|hb
    ·exact .inr (A2 _)
    ·exact .inl hb
  have k:=I.toInCall.keep
  obtain⟨h1,tk,rfl⟩:=I.toInCall.same
  have S1:CF (C9 w A rs F s.heap.objs.size n) g φ (Ct (BR F.s) F.names cs bs) h1:=by
   refine⟨?_⟩
   have J:=inv.keeps k
   have dead:∀b,s.heap.get? b=none→g.get? b=none∧∀i,i<cs.length→φ i≠b:=fun b hb=>by
    refine⟨?_,fun i hi z=>?_⟩
    ·cases q:g.get? b with
     |none=>rfl
     |some o=>rw[inv.sub _ o q] at hb;cases hb
    ·obtain⟨o,q⟩:=inv.there hi;rw[z,hb] at q;cases q
   have key:∀(l:List (Str×Addr)),(∀p∈l,cellsFrom (s.heap.objs.size+1) (BR F.s).names []|>.lookup p.1 |>(· =some p.2))→(∀p∈l,s.heap.get? p.2=none)→(l.map (·.2)).Nodup→s.heap.objs.size∉l.map (·.2)→
     DK w.params g φ cs (l.map (fun p=>(p.2,FI.box ((Ct (BR F.s) F.names cs bs).b p.1)))++(s.heap.objs.size,FI.ns (Ct (BR F.s) F.names cs bs).m)::rs) h1:=fun l h2 h3 h4 h5=>by
    refine⟨J.sub,J.out,J.inj,J.cell,fun q hq=>?_,fun q hq=>?_,?_⟩
    ·rcases List.mem_append.mp hq with hq|hq
     ·obtain⟨p,hp,rfl⟩:=List.mem_map.mp hq
      obtain⟨o,ho,hd⟩:=I.cell p.1 p.2 (h2 p hp)
      exact⟨o,_,ho,hd,Rj (m:=fun z0=>none) (ma:=fun z0=>none) hv (fun x=>trivial) p.1⟩
     ·rcases List.mem_cons.mp hq with rfl|hq
      ·exact⟨_,I.toInCall.ns,Ri hv fun x av e=>nomatch e⟩
      ·exact J.fi q hq
    ·rcases List.mem_append.mp hq with hq|hq
     ·obtain⟨p,hp,rfl⟩:=List.mem_map.mp hq
      exact dead _ (h3 p hp)
     ·rcases List.mem_cons.mp hq with rfl|hq
      ·exact dead _ (A2 _)
      ·exact J.fiOut q hq
    ·rw[List.map_append,List.map_cons,List.map_map]
     show((l.map (·.2))++s.heap.objs.size::rs.map (·.1)).Nodup
     refine List.nodup_append.mpr ⟨h4,List.nodup_cons.mpr ⟨fun z=>?_,J.nodup⟩,fun a ha b hb e=>?_⟩
     ·obtain⟨q,hq,e⟩:=List.mem_map.mp z
      obtain⟨o,e2,_⟩:=(inv.fi q hq).there
      rw[e,A2] at e2;cases e2
     ·subst e
      rcases List.mem_cons.mp hb with rfl|hb
      ·exact h5 ha
      ·obtain⟨q,hq,e⟩:=List.mem_map.mp hb
       obtain⟨o,e2,_⟩:=(inv.fi q hq).there
       obtain⟨p,hp,e3⟩:=List.mem_map.mp ha
       rw[e,←e3,h3 p hp] at e2;cases e2
   have nd:((cellsFrom (s.heap.objs.size+1) (BR F.s).names []).map (·.1)).Nodup:=by rw[CK];exact K.nodup
   refine key (cellsFrom (s.heap.objs.size+1) (BR F.s).names []) (fun p hp=>?_) (fun p hp=>?_) ?_ fun z=>?_
   ·exact O0 nd hp
   ·have:=I.above p.1 p.2 hp
    cases q:s.heap.get? p.2 with
    |none=>rfl
    |some o=>exact absurd (Heap.lt_size q) (Nat.not_lt.mpr (Nat.le_of_lt this))
   ·have:=I.apart
    rw[List.nodup_iff_pairwise_ne,List.pairwise_map]
    exact this
   ·obtain⟨p,hp,e⟩:=List.mem_map.mp z
    have:=I.above p.1 p.2 hp
    rw[e] at this
    exact Nat.lt_irrefl _ this
  have X1:OK (C9 w A rs F s.heap.objs.size n) (BR F.s) g:=by
   obtain⟨es,f1,f3⟩:=fr
   refine{sce:=rfl,kind:=K.kind,loc:=rfl,gl:=rfl,bi:=rfl,bx:=fun x a z0 e=>e,bn:=?_,hnd:=hnd,fr:=⟨callEnvC F.fd s.heap.objs.size F.a,es,?_,rfl,fun e he=>?_⟩,depth:=?_,units:=?_,wd:=wd,top:=⟨mg,mb,T⟩}
   ·show((cellsFrom (s.heap.objs.size+1) (BR F.s).names []).map (·.1)).Nodup
    rw[CK];exact K.nodup
   ·show A.frames.map _=_
    rw[f1];rfl
   ·rw[hla]
    rcases List.mem_cons.mp he with rfl|he
    ·exact⟨by show(BR F.s).kind≠_;rw[K.kind];decide,s.heap.objs.size,rfl,by simp⟩
    ·obtain⟨h1,L,h2,h3⟩:=f3 e he
     exact⟨h1,L,h2,List.mem_append_right _ (.tail _ h3)⟩
   ·show A.depth+1+2*n≤900
    lia
   ·show A.units+3+40*n≤9000
    lia
  have hb:=hB (C9 w A rs F s.heap.objs.size n) rfl (fun x hx=>EA (by show x∈(cellsFrom (s.heap.objs.size+1) (BR F.s).names []).map (·.1);rw[CK];exact hx)) (Ct (BR F.s) F.names cs bs) nsB g φ {s with heap:=h1,toks:=tk} X1 S1
  refine wpAny_mono hb (fun f s' h=>?_) fun e s' h=>?_
  ·cases f<;>exact⟨h1,tk,k,hG,_,rfl,h⟩
  ·unfold leaving
   exact wpAny_bind (Et.note (r':=B (Ct (BR F.s) F.names cs bs)) X1 (fun z0 z0 e=>e) h fun s2 h2 z0=>Et.fly h2 fun s3 h3 z0=>⟨h1,tk,k,hG,h3⟩)
theorem OS{F:Fn}(K:Bb F){n:Nat}{B:St→R AF}(hB:Pj F n B)(fz:Bool){vs:List Value}{bs:List AV}(hr:n+1≤Γ.room)(X:OK Γ sc g)(S:CF Γ g φ σ s.heap)(hv:Al (CJ Γ.P g φ σ.cs.length) vs bs)(hl:bs.length=F.names.length)
  (ns:fin fz σ.cs.length (B (Ct (BR F.s) F.names σ.cs bs))≠.stuck):codeAny Γ.M Γ.A (.call (.ref F.a) ⟨vs,[]⟩) (fun r s'=>match r with
  |.ok (.ret v)=>GO Γ (VA Γ) ((fin fz σ.cs.length (B (Ct (BR F.s) F.names σ.cs bs))).on σ) g φ σ.cs.length s v s'
  |.ok _=>False
  |.error e=>Et Γ ((fin fz σ.cs.length (B (Ct (BR F.s) F.names σ.cs bs))).on σ) g φ σ.cs.length s e s') s:=by
 have nsB:B (Ct (BR F.s) F.names σ.cs bs)≠.stuck:=fun e=>ns (by rw[e];rfl)
 have haux:∀m b,(Γ.aux σ.m σ.b).Sublist ((C9 Γ.w Γ.A (Γ.aux σ.m σ.b) F s.heap.objs.size n).aux m b):=fun m b=>by
  unfold BO.aux C9
  exact((List.Sublist.refl _).cons _).trans (List.sublist_append_right _ _)
 obtain⟨e0,es,f1,_,f3⟩:=X.fr
 refine codeAny_mono (O1 K hB (by have:=X.depth;lia) (by have:=X.units;lia) X.hnd ⟨e0::es,f1,fun e he=>by rw[DT];exact f3 e he⟩ X.wd X.top S.inv hv hl nsB) fun r s' h=>?_
 obtain⟨h1,tk,k,hG,h⟩:=h
 rw[DT] at hG
 rcases r with er|(_|_|_|v)
 ·exact bZ (Γ':=C9 Γ.w Γ.A (Γ.aux σ.m σ.b) F s.heap.objs.size n) (s1:={s with heap:=h1,toks:=tk}) ns S rfl haux k ⟨rfl,rfl⟩ hG h
 ·exact h
 ·exact h
 ·exact h
 ·obtain⟨f,rfl,h⟩:=h
  exact Ys (Γ':=C9 Γ.w Γ.A (Γ.aux σ.m σ.b) F s.heap.objs.size n) (s1:={s with heap:=h1,toks:=tk}) ns S rfl haux k ⟨rfl,rfl⟩ hG h
end
theorem Yt{w:World}{A:Around}{R:Result→Shared→Prop}{s:Shared}{elt target iter:Expr}{scope:Scope}{pos:Pos}{it acc:Value}{env:Env}(I:Nat→Shared→Prop)
  (turn:∀n s,I n s→wpAny (model pw w) A (pyNext it) (fun r s₁=>match r with
   |none=>R (.ok .next) s₁
   |some v=>wpAny (model pw w) A (letOwnedTupleGo target it v) (fun z0 s₁'=>wpAny (model pw w) A (assign target env v) (fun z0 s₂=>wpAny (model pw w) A (eval elt env) (fun x s₃=>
     wpAny (model pw w) A (call (.builtin "list.append") [acc,x]) (fun z0 s₄=>∃m,m<n∧I m s₄) (notedBy (model pw w) A env fun e s'=>R (.error e) s') s₃)
     (notedBy (model pw w) A env fun e s'=>R (.error e) s') s₂) (notedBy (model pw w) A env fun e s'=>R (.error e) s') s₁') (notedBy (model pw w) A env fun e s'=>R (.error e) s') s₁) (notedBy (model pw w) A env fun e s'=>R (.error e) s') s)
  (n:Nat)(h:I n s):codeAny (model pw w) A (.compLoop (.ListComp elt [⟨target,iter,[],0⟩] scope pos) 0 it acc env) R s:=by
 refine codeAny_loop rfl I (fun n s hI=>?_) n h
 show wpAny _ A ((compTurn (.ListComp elt [⟨target,iter,[],0⟩] scope pos) 0 it acc env).onRaise (fun x=>do noteFrame x env;theTreesLotGoes x)) _ _ s
 refine wpAny_noted ?_
 rw[compTurn_list1]
 refine wpAny_bind (wpAny_standAt (wpAny_bind (wpAny_mono (turn n s hI) (fun r s₁ h₁=>?_) fun z0 z0 h'=>h')))
 cases r with
 |none=>exact wpAny_pure h₁
 |some v=>
  refine wpAny_bind (wpAny_mono h₁ (fun z0 s₁' h₁'=>?_) fun z0 z0 h'=>h')
  refine wpAny_bind (wpAny_mono h₁' (fun z0 s₂ h₂=>?_) fun z0 z0 h'=>h')
  exact wpAny_bind (wpAny_bind (wpAny_mono h₂ (fun x s₃ h₃=>wpAny_bind (wpAny_mono h₃ (fun z0 s₄ h₄=>wpAny_pure (wpAny_pure ⟨rfl,h₄⟩)) fun z0 z0 h'=>h')) fun z0 z0 h'=>h'))
noncomputable def DN(t:AV→St→R Unit)(f:St→R AV):List D→St→R (List D)
 |[],σ=>.ok [] σ
 |x::xs,σ=>(t (.d x) σ).bind fun z0 σ=>(f σ).bind fun v σ=>match v with
   |.d d=>(DN t f xs σ).bind fun ds σ=>.ok (d::ds) σ
   |_=>.stuck
noncomputable def R.backM{α:Type}(m:Str→Option AV):R α→R α
 |.ok a σ=>.ok a {σ with m:=m}
 |.exc σ=>.exc {σ with m:=m}
 |.stuck=>.stuck
noncomputable def inner(σ:St):St:={σ with m:=fun z0=>none}
noncomputable def compI(fi:St→R (List D))(t:AV→St→R Unit)(f:St→R AV):St→R (List D):=fun σ=>(fi σ).bind fun xs σ=>if xs.length≤big then R.backM σ.m (DN t f xs (inner σ)) else .stuck
noncomputable def KJ(env:Env):List (Str×NameKind)→List (Str×Addr)→List (Str×Addr)
 |[],acc=>acc
 |(n,k)::r,acc=>if k== .free then KJ env r ((n,(env.cells.lookup n).getD 0)::acc) else KJ env r acc
theorem Pk{env:Env}:∀(names:List (Str×NameKind)) (acc:List (Str×Addr)),(∀x∈names,x.2=.free→(env.cells.lookup x.1).isSome=true)→
  (forIn names acc fun(x:Str×NameKind) (cs:List (Str×Addr))=>match x with|(name,kind)=>if(kind==NameKind.free)=true then do let c ←cellOf env name;pure (ForInStep.yield ((name,c)::cs)) else pure (ForInStep.yield cs):Sem (List (Str×Addr)))=pure (KJ env names acc)
 |[],acc,_=>rfl
 |(n,k)::r,acc,h=>by
  rw[List.forIn_cons]
  unfold KJ
  have hr:∀x∈r,x.2=.free→(env.cells.lookup x.1).isSome=true:=fun x hx=>h x (.tail _ hx)
  by_cases q:(k==NameKind.free)=true
  ·dsimp only
   rw[if_pos q,if_pos q]
   obtain⟨c,hc⟩:=Option.isSome_iff_exists.mp (h (n,k) (.head _) (beq_iff_eq.mp q))
   have hc':env.cells.lookup n=some c:=hc
   have e:cellOf env n=pure c:=by unfold cellOf;rw[hc']
   rw[e,hc',pure_bind,pure_bind]
   exact Pk r _ hr
  ·dsimp only
   rw[if_neg q,if_neg q,pure_bind]
   exact Pk r _ hr
theorem OT{env:Env}{scope:Scope}(h:∀x∈scope.names,x.2=.free→(env.cells.lookup x.1).isSome=true):closureFor scope env=pure (KJ env scope.names []):=by
 unfold closureFor
 have:=Pk (env:=env) scope.names [] h
 rw[bind_pure]
 exact this
theorem G3{env:Env}{x:Str}:∀(names:List (Str×NameKind)) (acc:List (Str×Addr)),(x,NameKind.free)∈names∨(Aj (fun a=>env.cells.lookup x=some a) (fun a=>acc.lookup x=some a))→∀a,env.cells.lookup x=some a→(KJ env names acc).lookup x=some a
 |[],acc,h,a,e=>by
  rcases h with h|⟨b,h1,h2⟩
  ·cases h
  ·rw[h1] at e;cases e;exact h2
 |(n,k)::r,acc,h,a,e=>by
  unfold KJ
  by_cases q:(k==NameKind.free)=true
  ·rw[if_pos q]
   refine G3 r _ ?_ a e
   by_cases q2:x=n
   ·subst q2;exact .inr ⟨a,e,by rw[e];simp⟩
   ·rcases h with h|⟨b,h1,h2⟩
    ·rcases List.mem_cons.mp h with h|h
     ·exact absurd (Prod.mk.inj h).1 q2
     ·exact .inl h
    ·exact .inr ⟨b,h1,by rw[List.lookup_cons,show(x==n)=false from beq_eq_false_iff_ne.mpr q2];exact h2⟩
  ·rw[if_neg q]
   refine G3 r _ ?_ a e
   rcases h with h|h
   ·rcases List.mem_cons.mp h with h|h
    ·exact absurd (by rw[←(Prod.mk.inj h).2];rfl) q
    ·exact .inl h
   ·exact .inr h
noncomputable def Hy(scope sc:Scope):Scope:={scope with names:=scope.names.map fun(n,k)=>if(k== .free&&sc.kind== .function&&sc.names.lookup n==some .cell) then(n,.cell) else(n,k)}
structure UK(scope sc:Scope)(ba:List Str):Prop where
 kind:scope.kind=.function
 loc:∀x∈scope.names,x.2=.local→scope.names.lookup x.1=some .local
 cell:∀x∈scope.names,x.2≠.cell
 free:∀x∈scope.names,x.2=.free→sc.names.lookup x.1=some .cell∧x.1∈ba
theorem DK.adopt{P:Params}{g h:Heap}{φ:Nat→Addr}{cs:List AK}{aux:List (Addr×FI)}(I:DK P g φ cs aux h){a:Addr}(h1:g.get? a=none)(h2:∀i,i<cs.length→φ i≠a)(h3:a∉aux.map (·.1)){c:AK}(hc:EV P g (Dy φ cs.length a) (cs.length+1) h a c):
  DK P g (Dy φ cs.length a) (cs++[c]) aux h:=by
 have eq:∀i,i<cs.length→Dy φ cs.length a i=φ i:=fun i hi=>if_neg (Nat.ne_of_lt hi)
 have top:Dy φ cs.length a cs.length=a:=if_pos rfl
 have len:(cs++[c]).length=cs.length+1:=by simp
 have two:∀i,i<(cs++[c]).length→i<cs.length∨i=cs.length:=fun i hi=>by rw[len] at hi;lia
 refine⟨I.sub,fun i hi=>?_,fun i j hi hj=>?_,fun i c' e=>?_,fun q hq=>?_,fun q hq=>?_,I.nodup⟩
 ·rcases two i hi with q|q
  ·rw[eq i q];exact I.out i q
  ·rw[q,top];exact h1
 ·rcases two i hi with q|q<;>rcases two j hj with r|r
  ·rw[eq i q,eq j r];exact I.inj i j q r
  ·rw[eq i q,r,top];intro e;exact absurd e (h2 i q)
  ·rw[eq j r,q,top];intro e;exact absurd e.symm (h2 j r)
  ·intro _;rw[q,r]
 ·rw[len]
  by_cases q:i<cs.length
  ·rw[List.getElem?_append_left q] at e
   exact(I.cell i c' e).mono (fun z0 z0 e=>e) (Nat.le_succ _) eq fun o e=>by rw[eq i q];exact e
  ·have q':i=cs.length:=by have:=(List.getElem?_eq_some_iff.mp e).1;rw[len] at this;lia
   subst q'
   rw[List.getElem?_append_right (Nat.le_refl _),Nat.sub_self] at e
   cases e
   rw[top];exact hc
 ·rw[len];exact(I.fi q hq).mono (fun z0 z0 e=>e) (Nat.le_succ _) eq fun o e=>⟨o.slots,e⟩
 ·refine⟨(I.fiOut q hq).1,fun i hi=>?_⟩
  rcases two i hi with r|r
  ·rw[eq i r];exact(I.fiOut q hq).2 i r
  ·rw[r,top];exact fun z=>h3 (z▸List.mem_map_of_mem hq)
section
variable {Γ:BO} {sc:Scope} {g:Heap} {φ:Nat→Addr} {σ:St} {s:Shared}
noncomputable def BP(Γ:BO)(m:Str→Option AV)(scope:Scope)(C:Addr):BO:={Γ with env:=compEnvC scope (KJ Γ.env scope.names []) C Γ.env,L:=C,rest:=(Γ.L,.ns m)::Γ.rest}
theorem UL{m:Str→Option AV}{scope:Scope}{C:Addr}:(BP Γ m scope C).la=Γ.ba.map (·.2)++C::Γ.L::Γ.rest.map (·.1):=rfl
theorem Ca{m:Str→Option AV}{scope:Scope}{C b:Addr}:b∈(BP Γ m scope C).la↔b=C∨b∈Γ.la:=by
 rw[UL]
 unfold BO.la
 simp only[List.mem_append,List.mem_cons]
 constructor
 ·rintro(h|h|h|h)<;>simp[h]
 ·rintro(h|h|h|h)<;>simp[h]
set_option tactic.hygienic true in
theorem L0{names:List (Str×NameKind)}{x:Str}{k:NameKind}{sc:Scope}:(names.map fun(n,k)=>if(k==NameKind.free&&sc.kind== .function&&sc.names.lookup n==some .cell) then(n,NameKind.cell) else(n,k)).lookup x=some k→k=.cell∨k=.free→(∀y∈names,y.2≠.cell)→(x,NameKind.free)∈names:=by
 intro h hk hc
 induction names with
 |nil=>simp at h
 |cons y r ih=>
  obtain⟨n,k'⟩:=y
  rw[List.map_cons,List.lookup_cons] at h
  dsimp only at h
  by_cases q:(k'==NameKind.free&&sc.kind== .function&&sc.names.lookup n==some .cell)=true
  ·rw[if_pos q] at h
   dsimp only at h
   simp only[Bool.and_eq_true,beq_iff_eq] at q
   split at h
   ·rename_i e
    rw[beq_iff_eq.mp e,←q.1.1];exact .head _
   ·exact .tail _ (ih h fun y hy=>hc y (.tail _ hy))
  ·rw[if_neg q] at h
   dsimp only at h
   split at h
   ·rename_i e
    cases h
    rcases hk with rfl|rfl
    ·exact absurd rfl (hc (n,.cell) (.head _))
    ·rw[beq_iff_eq.mp e];exact .head _
   ·exact .tail _ (ih h fun y hy=>hc y (.tail _ hy))
theorem NK{ba:List Str}{scope:Scope}(hc:UK scope sc ba)(hba:∀x∈ba,(Γ.ba.lookup x).isSome=true)(X:OK Γ sc g)(m:Str→Option AV)(C:Addr):OK (BP Γ m scope C) (Hy scope sc) g:=by
 have er:relabel scope Γ.env=Hy scope sc:=by unfold relabel Hy Env.kindOf;rw[X.sce]
 obtain⟨e0,es,f1,f2,f3⟩:=X.fr
 refine{sce:=er,kind:=hc.kind,loc:=rfl,gl:=X.gl,bi:=X.bi,bx:=fun x a h e=>?_,bn:=X.bn,hnd:=X.hnd,fr:=⟨e0,es,f1,f2,fun e he=>?_⟩,depth:=X.depth,units:=X.units,wd:=X.wd,top:=X.top}
 ·have hx:(x,NameKind.free)∈scope.names:=by
   rcases h with h|h
   ·exact L0 h (.inl rfl) hc.cell
   ·exact L0 h (.inr rfl) hc.cell
  have h1:=hc.free _ hx rfl
  have h2:=X.bx x a (.inl h1.1) e
  exact G3 scope.names [] (.inl hx) a h2
 ·obtain⟨h1,L,h2,h3⟩:=f3 e he
  exact⟨h1,L,h2,Ca.mpr (.inr h3)⟩
theorem UM{scope:Scope}{C:Addr}{h h':Heap}(S:CF Γ g φ σ h)(k:∀b o,h.get? b=some o→h'.get? b=some o)(hC:h.get? C=none)(hn:h'.Ns C fun z0=>none):CF (BP Γ σ.m scope C) g φ (inner σ) h':=by
 have I:=S.inv.pushFI (f:=.ns fun z0=>none) k hC ⟨_,hn,fun x av e=>nomatch e⟩
 refine⟨DK.perm I ?_⟩
 unfold BO.aux BP inner
 exact List.perm_middle
theorem L1{scope:Scope}{C:Addr}{m:Str→Option AV}{h:Heap}(S:CF (BP Γ m scope C) g φ σ h):CF Γ g φ {σ with m:=m} h:=by
 refine⟨S.inv.sublist ?_⟩
 unfold BO.aux BP
 exact(List.Sublist.refl _).append ((List.Sublist.refl _).cons _)
theorem NL{scope:Scope}{C:Addr}{m:Str→Option AV}{h:Heap}(S:CF (BP Γ m scope C) g φ σ h):∃mm,h.Ns C mm:=let⟨mm,hn,_⟩:=S.ns;⟨mm,hn⟩
theorem CF.but{h h':Heap}{wr:List Addr}(S:CF Γ g φ σ h)(B:BS Γ g φ σ.cs.length wr)(k:Wu wr h h'):CF Γ g φ σ h':=by
 have e:=DT Γ σ.m σ.b
 refine⟨S.inv.beside fun b o e1 e2=>k b o (fun z=>?_) e1⟩
 rcases(id e2) with e2|⟨i,hi,e2⟩|e2
 ·rw[B.g b z] at e2;cases e2
 ·exact B.c b z i hi e2
 ·rw[e] at e2;exact B.l b z e2
theorem DH.but{g0:Heap}{φ0:Nat→Addr}{n0 n:Nat}{h0 h h':Heap}{wr la:List Addr}(x:DH la g0 φ0 n0 h0 g φ n h)(k:Wu wr h h')(hw:∀b∈wr,h0.get? b=none):DH la g0 φ0 n0 h0 g φ n h':=
 ⟨x.sub,x.len,x.eq,x.fresh,fun b o e=>let⟨o',e'⟩:=x.live b o e;⟨o',k b o' (fun z=>by rw[hw b z] at e;cases e) e'⟩,fun b o e n1 n2=>k b o (fun z=>by rw[hw b z] at e;cases e) (x.kept b o e n1 n2),x.gnew⟩
theorem BS.one{n:Nat}{wr:List Addr}(B:BS Γ g φ n wr){a:Addr}(h:a∈wr):BS Γ g φ n [a]:=⟨fun b hb=>by rw[List.mem_singleton.mp hb];exact B.g a h,fun b hb=>by rw[List.mem_singleton.mp hb];exact B.c a h,fun b hb=>by rw[List.mem_singleton.mp hb];exact B.l a h⟩
end
theorem DH.wide{la la':List Addr}{g g':Heap}{φ φ':Nat→Addr}{n n':Nat}{h h':Heap}(x:DH la g φ n h g' φ' n' h')(k:∀b∈la,b∈la'):DH la' g φ n h g' φ' n' h':=
 ⟨x.sub,x.len,x.eq,x.fresh,x.live,fun b o e n1 n2=>x.kept b o e n1 fun z=>n2 (k b z),x.gnew⟩
theorem UN(t:AV→St→R Unit)(f:St→R AV)(x:D)(xs:List D)(σ:St):DN t f (x::xs) σ=(t (.d x) σ).bind fun z0 σ=>(f σ).bind fun v σ=>match v with
   |.d d=>(DN t f xs σ).bind fun ds σ=>.ok (d::ds) σ
   |_=>.stuck:=rfl
section
variable {Γ:BO} {sc:Scope}
inductive Vl(Γ:BO)(r:R (List D))(g:Heap)(φ:Nat→Addr)(n:Nat)(s:Shared)(D C:Addr)(s':Shared):Prop
 |mk (ds:List Mine.Internal.D) (σ':St) (g':Heap) (φ':Nat→Addr) (ys:Array Value) (k:Nat) (m:Str→Option Value):r=.ok ds σ'→CF Γ g' φ' σ' s'.heap→DH Γ.la g φ n s.heap g' φ' σ'.cs.length s'.heap→Bn s s'→IsL s'.heap D ys k→C3 Γ.P g' ys.toList ds→BS Γ g' φ' σ'.cs.length [D,C]→s'.heap.Ns C m→Vl Γ r g φ n s D C s'
structure LJ(Γ:BO)(r:R (List D))(g:Heap)(φ:Nat→Addr)(n:Nat)(s:Shared)(D C:Addr)(s':Shared):Prop where
 ex:Vl Γ r g φ n s D C s'
 ne:D≠C
 d:s.heap.get? D=none
 c:s.heap.get? C=none
inductive KL(Γ:BO)(r:R (List D))(g:Heap)(φ:Nat→Addr)(n:Nat)(s:Shared)(D:Addr)(s':Shared):Prop
 |mk (ds:List Mine.Internal.D) (σ':St) (g':Heap) (φ':Nat→Addr) (ys:Array Value) (k:Nat):r=.ok ds σ'→CF Γ g' φ' σ' s'.heap→DH Γ.la g φ n s.heap g' φ' σ'.cs.length s'.heap→Bn s s'→IsL s'.heap D ys k→C3 Γ.P g' ys.toList ds→BS Γ g' φ' σ'.cs.length [D]→KL Γ r g φ n s D s'
inductive Vm(Γ:BO)(sc:Scope)(items:List D)(ft:AV→St→R Unit)(fe:St→R AV)(g0:Heap)(φ0:Nat→Addr)(n0:Nat)(s0:Shared)(g1:Heap)(wr:List Addr)(Da:Addr)(St':Nat→Heap→Prop)(r:R (List D))(k:Nat)(s':Shared):Prop
 |mk (i:Nat) (σ:St) (g:Heap) (φ:Nat→Addr) (ds:List D) (ys:Array Value) (kk:Nat):k+i=items.length→OK Γ sc g→CF Γ g φ σ s'.heap→DH Γ.la g0 φ0 n0 s0.heap g φ σ.cs.length s'.heap→Bn s0 s'→St' i s'.heap→BS Γ g φ σ.cs.length wr→BS Γ g φ σ.cs.length [Da]→(∀b o,g1.get? b=some o→g.get? b=some o)→
   IsL s'.heap Da ys kk→C3 Γ.P g ys.toList ds→ds.length=i→((DN ft fe (items.drop i) σ).bind fun r σ=>R.ok (ds++r) σ)=r→Vm Γ sc items ft fe g0 φ0 n0 s0 g1 wr Da St' r k s'
theorem Wy{elt tgt:Expr}{ft:AV→St→R Unit}{fe:St→R AV}{it:Value}{wr:List Addr}{items:List D}{St':Nat→Heap→Prop}{Da:Addr}{g0 g1:Heap}{φ0:Nat→Addr}{n0 k:Nat}{s0 s:Shared}{r:R (List D)}{N T:Shared→Prop}{E:Value→Shared→Prop}
  (htc:Hk Γ sc tgt ft)(hec:A1 Γ sc elt fe)(ns:r≠.stuck)(hz:items.length≤big)(It:Hw Γ g1 tgt it wr items St')(hDw:Da∉wr)(fr:∀b∈wr,s0.heap.get? b=none)(frD:s0.heap.get? Da=none)(I:Vm Γ sc items ft fe g0 φ0 n0 s0 g1 wr Da St' r k s)
  (note:∀e s',Et Γ r g0 φ0 n0 s0 e s'→E e s')(hN:∀s',KL Γ r g0 φ0 n0 s0 Da s'→N s')(hT:∀m s',m<k→Vm Γ sc items ft fe g0 φ0 n0 s0 g1 wr Da St' r m s'→T s'):
  wpAny Γ.M Γ.A (pyNext it) (fun r s1=>match r with
   |none=>N s1
   |some v=>wpAny Γ.M Γ.A (letOwnedTupleGo tgt it v) (fun z0 s2=>wpAny Γ.M Γ.A (assign tgt Γ.env v) (fun z0 s3=>wpAny Γ.M Γ.A (eval elt Γ.env) (fun x s4=>wpAny Γ.M Γ.A (call (.builtin "list.append") [.ref Da,x]) (fun z0 s5=>T s5) E s4) E s3) E s2) E s1) E s:=by
 obtain⟨i,σ,g,φ,ds,ys,kk,hki,X,S,Xt,sm,st,B,BD,g1g,hL,hds,hdl,er⟩:=I
 cases hx:items[i]? with
 |none=>
  obtain rfl:i=items.length:=by have:=List.getElem?_eq_none_iff.mp hx;lia
  refine wpAny_mono (It.done s _ st fun b o e=>S.inv.sub b o (g1g b o e)) ?_ fun z0 z0 x=>x
  rintro r s3 ⟨rfl,k3,sm3⟩
  rw[List.drop_length] at er
  exact hN s3 ⟨ds,σ,g,φ,ys,kk,er.symm.trans (congrArg (R.ok · σ) (List.append_nil ds)),S.but B k3,Xt.but k3 fr,sm.trans sm3,k3 _ _ hDw hL,hds,BD⟩
 |some x=>
  have hlt:=(List.getElem?_eq_some_iff.mp hx).1
  rw[show items.drop i=x::items.drop (i+1) by rw[List.drop_eq_getElem_cons hlt];congr 1;rw[List.getElem?_eq_getElem hlt] at hx;exact Option.some.inj hx,UN] at er
  generalize hr:items.drop (i+1)=rest at er
  have ns1:=R.bind_ns (er▸ns)
  refine wpAny_mono (It.item i x s _ hx st fun b o e=>S.inv.sub b o (g1g b o e)) ?_ fun z0 z0 x=>x
  rintro r s3 ⟨v,rfl,h3⟩
  refine wpAny_mono h3 ?_ fun z0 z0 x=>x
  rintro _ s4 ⟨k4,sm4,st4,rd4⟩
  have S4:=S.took B k4 (fun b=>s.heap.get? b=none∧b∉wr) fun b z=>z
  have gsub:∀b o,g.get? b=some o→s4.heap.get? b=some o:=fun b o e=>k4 b o (fun z=>by rw[B.g b z] at e;cases e) (S.inv.sub b o e)
  have Xt4:=Xt.took (q:=fun b=>s.heap.get? b=none∧b∉wr) gsub k4 fr fun b z=>z.1
  have gg4:=Bv (p:=fun b=>s.heap.get? b=none∧b∉wr) gsub
  have v4:=rd4 _ (fun b o e=>gg4 b o (g1g b o e)) fun b o h1 h2 h3=>DR ⟨h1,h2⟩ h3
  have B4:BS Γ (frz g s4.heap fun b=>s.heap.get? b=none∧b∉wr) φ σ.cs.length wr:=⟨fun b hb=>Ba (B.g b hb) fun z=>z.2 hb,B.c,B.l⟩
  have BD4:BS Γ (frz g s4.heap fun b=>s.heap.get? b=none∧b∉wr) φ σ.cs.length [Da]:=⟨fun b hb=>Ba (BD.g b hb) (fun z=>by rw[List.mem_singleton.mp hb,hL] at z;cases z.1),BD.c,BD.l⟩
  have hL4:=k4 _ _ hDw hL
  have sm4':=sm.trans sm4
  generalize frz g s4.heap (fun b=>s.heap.get? b=none∧b∉wr)=g4 at S4 Xt4 gg4 v4 B4 BD4
  have X4:=X.mono gg4
  clear S Xt B BD rd4 k4 gsub h3 sm sm4
  refine wpAny_mono (htc σ v (.d x) (R.bind_ns ns1) g4 φ s4 X4 S4 v4) ?_ fun e s' h=>note e s' ((h.cast fun σ' q=>(er.symm.trans (R.bind_exc (R.bind_exc q)))).trans Xt4 sm4')
  rintro _ s5 ⟨_,σ5,e5,g5,φ5,S5,X5,_,sm5⟩
  have ns5:=R.bind_ok ns1 e5
  rw[e5] at er
  refine wpAny_mono (hec σ5 (R.bind_ns ns5) g5 φ5 s5 (X4.mono X5.sub) S5) ?_ fun e s' h=>note e s' ((h.cast fun σ' q=>er.symm.trans ((show(((fe σ5).bind _).bind _)=_ from R.bind_exc (R.bind_exc q)))).trans (Xt4.trans X5) (sm4'.trans sm5))
  rintro w s6 ⟨a,σ6,e6,g6,φ6,S6,X6,v6,sm6⟩
  have ns6:=R.bind_ok ns5 e6
  have X46:=X5.trans X6
  have Xt6:=Xt4.trans X46
  have sm6':=(sm4'.trans sm5).trans sm6
  have X6':=X4.mono X46.sub
  cases a with
  |lst i=>exact absurd rfl ns6
  |obj c i=>exact absurd rfl ns6
  |d y=>
   have hL6:IsL s6.heap Da ys kk:=X46.kept _ _ hL4 (fun i hi=>BD4.c Da (.head _) i hi) (BD4.l Da (.head _))
   have g16:∀b o,g1.get? b=some o→g6.get? b=some o:=fun b o e=>X46.sub b o (gg4 b o (g1g b o e))
   have st6:=It.frame _ _ s6.heap st4 (fun b hb o e=>X46.kept b o e (fun i hi=>B4.c b hb i hi) (B4.l b hb)) fun b o e=>S6.inv.sub b o (g16 b o e)
   have B6:=B4.ext X46 (It.live _ _ st4)
   have BD6:=BD4.ext X46 fun b hb=>by rw[List.mem_singleton.mp hb];exact⟨_,hL4⟩
   have hds6:=C3.mono (fun b o e=>X46.sub b o (gg4 b o e)) hds
   have hys:ys.size=i:=by rw[←hdl,←hds.len];simp
   clear X5 X46 B4 BD4 hL4 st4 S5 X4 S4 Xt4 gg4 v4
   refine call_meets PySem.F.slot_list_append ⟨_,hL6,rfl⟩ PySem.F.entry_list_append (PySem.F.args_list_append_2 _ _) (list_append _ _ _ _ (by rw[hys];exact Bu (by lia))) ⟨hL6,?_⟩
   have kD:Wu [Da] s6.heap (s6.heap.update Da (Obj.mapSeq fun xs=>xs.push w)):=fun b o hb e=>by
    rw[Heap.get?_update_other _ _ (fun z=>hb (by rw[z];exact .head _))];exact e
   refine hT (k-1) _ (by lia) ⟨i+1,σ6,g6,φ6,ds++[y],ys.push w,_,by lia,X6',S6.but BD6 kD,Xt6.but kD (fun b hb=>by rw[List.mem_singleton.mp hb];exact frD),⟨sm6'.1,sm6'.2⟩,?_,B6,BD6,g16,IsL.update hL6 _,?_,by simp[hdl],?_⟩
   ·refine It.frame _ _ _ st6 (fun b hb o e=>kD b o (fun z=>hDw (List.mem_singleton.mp z▸hb)) e) fun b o e=>kD b o (fun z=>?_) (S6.inv.sub b o (g16 b o e))
    rw[List.mem_singleton.mp z] at e
    have:=BD6.g Da (.head _)
    rw[g16 _ o e] at this;cases this
   ·rw[Array.toList_push];exact Vb hds6 (.cons v6 .nil)
   ·rw[←er,hr]
    show _=((fe σ5).bind _).bind _
    rw[e6]
    show _=((DN ft fe rest σ6).bind _).bind _
    cases DN ft fe rest σ6 with
    |ok a σ=>exact congrArg (R.ok · σ) (List.append_assoc ds [y] a)
    |exc σ=>rfl
    |stuck=>rfl
theorem Wz{elt tgt iter:Expr}{scope:Scope}{p':Pos}{ft:AV→St→R Unit}{fe:St→R AV}{it:Value}{wr:List Addr}{items:List D}{St':Nat→Heap→Prop}{Da:Addr}{g0 g1:Heap}{φ0 φ1:Nat→Addr}{σ1:St}{n0:Nat}{s0 s1:Shared}
  (htc:Hk Γ sc tgt ft)(hec:A1 Γ sc elt fe)(ns:DN ft fe items σ1≠.stuck)(X0:OK Γ sc g0)(X1:OK Γ sc g1)(S1:CF Γ g1 φ1 σ1 s1.heap)(Xt1:DH Γ.la g0 φ0 n0 s0.heap g1 φ1 σ1.cs.length s1.heap)(sm1:Bn s0 s1)(hz:items.length≤big)
  (It:Hw Γ g1 tgt it wr items St')(st1:St' 0 s1.heap)(B1:BS Γ g1 φ1 σ1.cs.length wr)(BD1:BS Γ g1 φ1 σ1.cs.length [Da])(hDw:Da∉wr)(fr:∀b∈wr,s0.heap.get? b=none)(frD:s0.heap.get? Da=none)(hD1:IsL s1.heap Da #[] 0):
  codeAny Γ.M Γ.A (.compLoop (.ListComp elt [⟨tgt,iter,[],0⟩] scope p') 0 it (.ref Da) Γ.env) (fun r s'=>match r with
   |.ok _=>KL Γ (DN ft fe items σ1) g0 φ0 n0 s0 Da s'
   |.error e=>Et Γ (DN ft fe items σ1) g0 φ0 n0 s0 e s'∧Gh e s'.heap) s1:=by
 refine Yt (Vm Γ sc items ft fe g0 φ0 n0 s0 g1 wr Da St' (DN ft fe items σ1)) (fun k s I=>?_) items.length ⟨0,σ1,g1,φ1,[],#[],0,rfl,X1,S1,Xt1,sm1,st1,B1,BD1,fun z0 z0 e=>e,hD1,.nil,rfl,by
   rw[List.drop_zero];cases DN ft fe items σ1<;>rfl⟩
 exact Wy htc hec ns hz It hDw fr frD I (fun e s' h=>Et.note (r':=DN ft fe items σ1) X0 (fun z0 z0 e=>e) h fun s2 h2 h3=>⟨h2,h3⟩) (fun s' h=>h) fun m s' hm I=>⟨m,hm,I⟩
end
section
variable {Γ:BO} {sc:Scope}
structure Cy(Γ:BO)(sc scope:Scope)(elt tgt iter:Expr)(fi:St→R (List D))(ft:AV→St→R Unit)(fe:St→R AV):Prop where
 ok:UK scope sc (Γ.ba.map (·.1))
 i:LC Γ sc iter tgt fi
 t:∀Γ':BO,Γ'.room=Γ.room→Γ'.ba=Γ.ba→Hk Γ' (Hy scope sc) tgt ft
 e:∀Γ':BO,Γ'.room=Γ.room→Γ'.ba=Γ.ba→A1 Γ' (Hy scope sc) elt fe
 s:∀env x,foldedSetIterable iter env x=pure x
theorem Rk{m:Str→Option AV}{scope:Scope}{C:Addr}{g:Heap}{φ:Nat→Addr}{σ:St}{h:Heap}(S:CF (BP Γ m scope C) g φ σ h)(hC:C∉Γ.la):BS Γ g φ σ.cs.length [C]:=by
 have CL:(C,FI.ns σ.m)∈(BP Γ m scope C).aux σ.m σ.b:=List.mem_append_right _ (.head _)
 have Cl:=S.inv.fiOut _ CL
 exact⟨fun b hb=>by rw[List.mem_singleton.mp hb];exact Cl.1,fun b hb=>by rw[List.mem_singleton.mp hb];exact Cl.2,fun b hb=>by rw[List.mem_singleton.mp hb];exact hC⟩
theorem BS.two{g:Heap}{φ:Nat→Addr}{n:Nat}{a b:Addr}(x:BS Γ g φ n [a])(y:BS Γ g φ n [b]):BS Γ g φ n [a,b]:=⟨fun c hc=>by
  rcases List.mem_cons.mp hc with rfl|hc
  ·exact x.g _ (.head _)
  ·exact y.g c hc,fun c hc=>by
  rcases List.mem_cons.mp hc with rfl|hc
  ·exact x.c _ (.head _)
  ·exact y.c c hc,fun c hc=>by
  rcases List.mem_cons.mp hc with rfl|hc
  ·exact x.l _ (.head _)
  ·exact y.l c hc⟩
theorem bb{m:Str→Option AV}{scope:Scope}{C Da:Addr}{r r':R (List D)}{g0:Heap}{φ0:Nat→Addr}{n0:Nat}{s0 s':Shared}(F:KL (BP Γ m scope C) r' g0 φ0 n0 s0 Da s')(er:∀ds σ,r'=.ok ds σ→r=.ok ds {σ with m:=m})(hla:∀b∈(BP Γ m scope C).la,b∈Γ.la∨s0.heap.get? b=none)(hC:C∉Γ.la)(ne:Da≠C)(hD0:s0.heap.get? Da=none)(hC0:s0.heap.get? C=none):LJ Γ r g0 φ0 n0 s0 Da C s':=by
 obtain⟨ds,σ',g',φ',ys,k,e2,S',X',sm',hL,hds,BD⟩:=F
 obtain⟨mm,hmm⟩:=NL S'
 have BD':BS Γ g' φ' σ'.cs.length [Da]:=⟨BD.g,BD.c,fun b hb z=>BD.l b hb (Ca.mpr (.inr z))⟩
 exact⟨⟨ds,{σ' with m:=m},g',φ',ys,k,mm,er _ _ e2,L1 S',X'.frame (fun z0 z0 e=>e) hla,sm',hL,hds,BD'.two (Rk S' hC),hmm⟩,ne,hD0,hC0⟩
theorem Yu{m:Str→Option AV}{scope:Scope}{C:Addr}{r r':R (List D)}{g0:Heap}{φ0:Nat→Addr}{n0:Nat}{s0 s':Shared}{e:Value}(F:Et (BP Γ m scope C) r' g0 φ0 n0 s0 e s')(ht:Gh e s'.heap)(er:∀σ,r'=.exc σ→r=.exc {σ with m:=m})(hla:∀b∈(BP Γ m scope C).la,b∈Γ.la∨s0.heap.get? b=none)(hC:C∉Γ.la)(hC0:s0.heap.get? C=none):
  ∃mm,s'.heap.Ns C mm∧∀h',Heap.SameBut C s'.heap h'→Et Γ r g0 φ0 n0 s0 e {s' with heap:=h'}∧Gh e h':=by
 obtain⟨σ',e2,g',φ',S',X',F,sm'⟩:=F
 obtain⟨mm,hm⟩:=NL S'
 refine⟨mm,hm,fun h' hs'=>?_⟩
 have kC:Wu [C] s'.heap h':=fun b o hb e=>(hs'.2 b fun z=>hb (by rw[z];exact .head _)).trans e
 have BC:=Rk S' hC
 obtain⟨oC,esC,epC,hoC,hdC,_⟩:=hm
 have ndata:∀(a:Addr) (oe:Obj) (vs:Array Value),s'.heap.get? a=some oe→oe.data=.fields vs→h'.get? a=some oe:=fun a oe vs h1 h2=>kC a oe (fun z=>by
  rw[List.mem_singleton.mp z,hoC] at h1
  cases h1;rw[hdC] at h2;cases h2) h1
 refine⟨⟨{σ' with m:=m},er _ e2,g',φ',(L1 S').but BC kC,(X'.frame (fun z0 z0 e=>e) hla).but kC fun b hb=>by rw[List.mem_singleton.mp hb];exact hC0,F.keeps ndata,⟨sm'.1,sm'.2⟩⟩,?_⟩
 obtain⟨a,oe,vs,T,x1,x2,x3,x4⟩:=ht
 exact⟨a,oe,vs,T,x1,ndata a oe vs x2 x3,x3,x4⟩
theorem LK{use:Option (Value→Sem Unit)}{Q:Value→Shared→Prop}{E:Value→Shared→Prop}{scope:Scope}{elt tgt iter:Expr}{p p':Pos}{fi:St→R (List D)}{ft:AV→St→R Unit}{fe:St→R AV}{σ0:St}{g0:Heap}{φ0:Nat→Addr}{s0:Shared}
  (K:Cy Γ sc scope elt tgt iter fi ft fe)(ns:compI fi ft fe σ0≠.stuck)(X0:OK Γ sc g0)(S0:CF Γ g0 φ0 σ0 s0.heap)
  (hE:∀e s',Et Γ (compI fi ft fe σ0) g0 φ0 σ0.cs.length s0 e s'→E e s')
  (hQ:∀D C s',LJ Γ (compI fi ft fe σ0) g0 φ0 σ0.cs.length s0 D C s'→match use with
   |none=>∀h',Heap.SameBut C s'.heap h'→Q (.ref D) {s' with heap:=h'}
   |some u=>wpAny Γ.M Γ.A (u (.ref D)) (fun z0 s''=>∃m,s''.heap.Ns C m∧∀h',Heap.SameBut C s''.heap h'→Q .none {s'' with heap:=h'}) E s'):
  wpAny Γ.M Γ.A (comprehension (.ListComp elt [⟨tgt,iter,[],0⟩] scope p') scope Γ.env p (newList []) false (eval iter Γ.env) use) Q E s0:=by
 obtain⟨hc,hi,ht,he,hs⟩:=K
 have hba:∀x∈Γ.ba.map (·.1),(Γ.ba.lookup x).isSome=true:=fun x hx=>EA hx
 have hcl:closureFor scope Γ.env=pure (KJ Γ.env scope.names []):=OT fun x hx hf=>by
  obtain⟨h1,h2⟩:=hc.free x hx hf
  obtain⟨a,ha⟩:=Option.isSome_iff_exists.mp (hba _ h2)
  rw[X0.bx x.1 a (.inl h1) ha];rfl
 refine wpAny_comprehension_free rfl (hs _) hcl hc.kind hc.loc (wpAny_mono (hi σ0 (R.bind_ns ns) g0 φ0 s0 X0 S0) (fun x s1 h1=>wpAny_mono h1 (fun it s2 h2=>?_) fun e s h=>hE _ _ (h.cast fun σ q=>R.bind_exc q)) fun e s h=>hE _ _ (h.cast fun σ q=>R.bind_exc q))
 obtain⟨items,σ1,g1,φ1,wr,St',e1,S1,X1,sm1,It,st,B,fr⟩:=h2
 have ns1:=R.bind_ok ns e1
 have er:compI fi ft fe σ0=if items.length≤big then R.backM σ1.m (DN ft fe items (inner σ1)) else .stuck:=by unfold compI;rw[e1];rfl
 by_cases hz:items.length≤big
 rotate_left
 ·rw[if_neg hz] at ns1;exact absurd rfl ns1
 rw[if_pos hz] at er ns1
 have ns2:DN ft fe items (inner σ1)≠.stuck:=fun q=>ns1 (by rw[q];rfl)
 refine wpAny_newList ?_ (by simp)
 refine wpAny_newFunctionEnv hc.cell (by intro y hy;simp at hy) (fun h3 hn3 hs3=>?_) hc.kind
 dsimp only at hn3 hs3 ⊢
 have hD:s2.heap.get? s2.heap.objs.size=none:=A2 _
 generalize hH:s2.heap.push {cls:=.type "list",data:=.seq ([]:List Value).toArray}=H at hn3 hs3 ⊢
 have kH:∀b o,s2.heap.get? b=some o→H.get? b=some o:=fun b o e=>hH▸Heap.get?_push_of_some _ e
 have hHs:H.objs.size=s2.heap.objs.size+1:=by rw[←hH,Heap.size_push]
 have hDH:IsL H s2.heap.objs.size (#[]:Array Value) 0:=by rw[←hH];exact Heap.get?_push_size _ rfl
 have hDC:s2.heap.objs.size≠H.objs.size:=by rw[hHs];exact Nat.ne_of_lt (Nat.lt_succ_self _)
 have k3:∀b o,H.get? b=some o→h3.get? b=some o:=fun b o e=>hs3.extBut b o (Nat.ne_of_lt (Heap.lt_size e)) (Heap.get?_push_of_some _ e)
 have k23:∀b o,s2.heap.get? b=some o→h3.get? b=some o:=fun b o e=>k3 b o (kH b o e)
 have hC2:s2.heap.get? H.objs.size=none:=by
  cases q:s2.heap.get? H.objs.size with
  |none=>rfl
  |some o=>exact absurd (Heap.lt_size q) (by rw[hHs];exact Nat.not_lt.mpr (Nat.le_succ _))
 have hD3:IsL h3 s2.heap.objs.size (#[]:Array Value) 0:=k3 _ _ hDH
 have hn3':h3.Ns H.objs.size fun z0=>none:=hn3
 have Sc:CF (BP Γ σ1.m scope H.objs.size) g1 φ1 (inner σ1) h3:=UM S1 k23 hC2 hn3'
 have Xc:OK (BP Γ σ1.m scope H.objs.size) (Hy scope sc) g1:=NK hc hba (X0.mono X1.sub) _ _
 have Xc0:OK (BP Γ σ1.m scope H.objs.size) (Hy scope sc) g0:=NK hc hba X0 _ _
 have hla:∀b∈(BP Γ σ1.m scope H.objs.size).la,b∈Γ.la∨s0.heap.get? b=none:=fun b hb=>(Ca.mp hb).elim (fun z=>.inr (X1.dead _ (z▸hC2))) .inl
 have wlive:∀b∈wr,∃o,s2.heap.get? b=some o:=It.live 0 _ st
 have Bc:BS (BP Γ σ1.m scope H.objs.size) g1 φ1 (inner σ1).cs.length wr:=⟨B.g,B.c,fun b hb z=>by
  rcases Ca.mp z with z|z
  ·obtain⟨o,e⟩:=wlive b hb;rw[z,hC2] at e;cases e
  ·exact B.l b hb z⟩
 have BD:BS (BP Γ σ1.m scope H.objs.size) g1 φ1 (inner σ1).cs.length [s2.heap.objs.size]:=by
  have:=Dk S1 hD
  refine⟨this.g,this.c,fun b hb z=>?_⟩
  rcases Ca.mp z with z|z
  ·rw[List.mem_singleton.mp hb] at z;exact hDC z
  ·exact this.l b hb z
 have hDw:s2.heap.objs.size∉wr:=fun z=>by obtain⟨o,e⟩:=wlive _ z;rw[hD] at e;cases e
 have st3:St' 0 h3:=It.frame _ _ _ st (fun b z0 o e=>k23 b o e) fun b o e=>k23 b o (S1.inv.sub b o e)
 have Xt3:DH (BP Γ σ1.m scope H.objs.size).la g0 φ0 σ0.cs.length s0.heap g1 φ1 (inner σ1).cs.length h3:=(X1.trans (S1.inv.keepsExt _ k23)).wide fun b hb=>Ca.mpr (.inr hb)
 have hD0:s0.heap.get? s2.heap.objs.size=none:=X1.dead _ hD
 have hC0:s0.heap.get? H.objs.size=none:=X1.dead _ hC2
 have It':Hw (BP Γ σ1.m scope H.objs.size) g1 tgt it wr items St':=⟨It.live,It.frame,It.item,It.done,It.self⟩
 have loop:=Wz (Γ:=BP Γ σ1.m scope H.objs.size) (sc:=Hy scope sc) (iter:=iter) (scope:=scope) (p':=p') (s1:={s2 with heap:=h3,toks:=s2.toks+([]:List (Str×Value)).length})
  (ht (BP Γ σ1.m scope H.objs.size) rfl rfl) (he (BP Γ σ1.m scope H.objs.size) rfl rfl) ns2 Xc0 Xc Sc Xt3 ⟨sm1.1,sm1.2⟩ hz It' st3 Bc BD hDw fr hD0 hD3
 refine codeAny_mono (codeAny_compStart_list loop (It.self 0 _ _ _ st3 loop)) fun r s' h=>?_
 have hCl:H.objs.size∉Γ.la:=fun z=>by
  rw[←DT Γ σ1.m σ1.b] at z
  obtain⟨q,hq,e⟩:=List.mem_map.mp z
  obtain⟨o,e2,_⟩:=(S1.inv.fi q hq).there
  rw[e,hC2] at e2;cases e2
 clear loop st3 It' wlive Bc BD hDw Sc Xc Xc0 Xt3 hD3 hn3 hn3' hs3 k3 k23 kH hDH hH hHs It B S1 st fr
 unfold compPost
 cases r with
 |ok f=>
  have F:=bb h (r:=compI fi ft fe σ0) (fun ds σ e=>by rw[er,e];rfl) hla hCl hDC hD0 hC0
  have:=hQ _ _ _ F
  cases use with
  |none=>obtain⟨_,_,_,_,_,_,m,_,_,_,_,_,_,_,hm⟩:=F.ex;exact⟨m,hm,this⟩
  |some u=>exact this
 |error e=>
  obtain⟨m,hm,hk⟩:=Yu h.1 h.2 (r:=compI fi ft fe σ0) (fun σ e=>by rw[er,e];rfl) hla hCl hC0
  refine⟨m,hm,fun h' hs' cenv z0=>?_⟩
  obtain⟨hb1,a,oe,vs,T,rfl,z1,z2,z3⟩:=hk h' hs'
  unfold PySem.passOn
  refine wpAny_bind (wpAny_field (s:={s' with heap:=h'}) z1 z2 z3 ?_)
  rw[if_neg (show ¬((Value.ref T==Value.none)=true) from by simp)]
  exact wpAny_bind (Et.fly hb1 fun s3 h3 z0=>wpAny_throw (hE _ _ h3))
end
section
variable {Γ:BO} {sc:Scope}
theorem O2{la:List Addr}{g0 g:Heap}{φ0 φ:Nat→Addr}{n0 n:Nat}{h0 h:Heap}{q:Addr→Prop}(x:DH la g0 φ0 n0 h0 g φ n h)(sub:∀b o,g.get? b=some o→h.get? b=some o)(hq:∀b,q b→h0.get? b=none):DH la g0 φ0 n0 h0 (frz g h q) φ n h:=
 ⟨fun b o e=>Bv sub b o (x.sub b o e),x.len,x.eq,x.fresh,x.live,x.kept,fun b e l n1=>Ba (x.gnew b e l n1) fun z=>by obtain⟨o,eo⟩:=l;rw[hq b z] at eo;cases eo⟩
theorem LJ.frozen{r:R (List D)}{g:Heap}{φ:Nat→Addr}{n:Nat}{s s':Shared}{Da C:Addr}(F:LJ Γ r g φ n s Da C s'){h':Heap}(k:Heap.SameBut C s'.heap h'):GO Γ (VA Γ) (r.bind fun ds σ=>.ok (.d (.lst ds)) σ) g φ n s (.ref Da) {s' with heap:=h'}:=by
 obtain⟨⟨ds,σ',g',φ',ys,kk,m,rfl,S,X,sm,hL,hds,B,hm⟩,ne,hd,hc⟩:=F
 have kC:Wu [C] s'.heap h':=fun b o hb e=>(k.2 b fun z=>hb (by rw[z];exact .head _)).trans e
 have BC:=B.one (a:=C) (by simp)
 have S':=S.but BC kC
 have X':=X.but kC fun b hb=>by rw[List.mem_singleton.mp hb];exact hc
 have hL':IsL h' Da ys kk:=kC _ _ (fun z=>ne (List.mem_singleton.mp z)) hL
 have e:=DT Γ σ'.m σ'.b
 refine⟨_,σ',rfl,frz g' h' (· =Da),φ',⟨S'.inv.refrz _ fun b hb=>⟨hb▸B.c Da (.head _),by rw[e,hb];exact B.l Da (.head _)⟩⟩,O2 X' S'.inv.sub (fun b hb=>hb▸hd),?_,⟨sm.1,sm.2⟩⟩
 exact Rd.lst (vs:=ys.toList) (DR rfl hL') (C3.mono (Bv S'.inv.sub) hds)
set_option tactic.hygienic true in
theorem LJ.turned{r:R (List D)}{g:Heap}{φ:Nat→Addr}{n:Nat}{s s':Shared}{Da C:Addr}(F:LJ Γ r g φ n s Da C s'){h':Heap}(k:Heap.SameBut C s'.heap h'):GO Γ (VA Γ) (r.bind fun ds σ=>.ok (.lst σ.cs.length) {σ with cs:=σ.cs++[.lst (ds.map AV.d)]}) g φ n s (.ref Da) {s' with heap:=h'}:=by
 obtain⟨⟨ds,σ',g',φ',ys,kk,m,rfl,S,X,sm,hL,hds,B,hm⟩,ne,hd,hc⟩:=F
 have kC:Wu [C] s'.heap h':=fun b o hb e=>(k.2 b fun z=>hb (by rw[z];exact .head _)).trans e
 have BC:=B.one (a:=C) (by simp)
 have S':=S.but BC kC
 have X':=X.but kC fun b hb=>by rw[List.mem_singleton.mp hb];exact hc
 have hL':IsL h' Da ys kk:=kC _ _ (fun z=>ne (List.mem_singleton.mp z)) hL
 have e:=DT Γ σ'.m σ'.b
 have len:(σ'.cs++[AK.lst (ds.map AV.d)]).length=σ'.cs.length+1:=by simp
 refine⟨_,_,rfl,g',Dy φ' σ'.cs.length Da,⟨S'.inv.adopt (B.g Da (.head _)) (B.c Da (.head _)) (by rw[e];exact B.l Da (.head _)) ⟨ys.toList,kk,hL',F7 hds⟩⟩,?_,?_,⟨sm.1,sm.2⟩⟩
 ·show DH _ _ _ _ _ _ _ (σ'.cs++[AK.lst (ds.map AV.d)]).length _
  rw[len]
  refine⟨X'.sub,Nat.le_succ_of_le X'.len,fun i hi=>?_,fun j h1 h2=>?_,X'.live,X'.kept,X'.gnew⟩
  ·have:i≠σ'.cs.length:=by have:=X'.len;lia
   show(if _ then _ else _)=_
   rw[if_neg this];exact X'.eq i hi
  ·show _root_.PySem.Heap.get? _ (if _ then _ else _)=_
   split
   ·exact hd
   ·rename_i q;exact X'.fresh j h1 (by lia)
 ·refine⟨?_,?_⟩
  ·show _=Value.ref (if _ then _ else _)
   rw[if_pos rfl]
  ·show _<(σ'.cs++[AK.lst (ds.map AV.d)]).length
   rw[len];exact Nat.lt_succ_self _
noncomputable def Bg(fi:St→R (List D))(t:AV→St→R Unit)(f:St→R AV):St→R AV:=fun σ=>(compI fi t f σ).bind fun ds σ=>.ok (.d (.lst ds)) σ
noncomputable def Rl(fi:St→R (List D))(t:AV→St→R Unit)(f:St→R AV):St→R AV:=fun σ=>(compI fi t f σ).bind fun ds σ=>.ok (.lst σ.cs.length) {σ with cs:=σ.cs++[.lst (ds.map AV.d)]}
theorem Yv{scope:Scope}{elt tgt iter:Expr}{pos:Pos}{fi:St→R (List D)}{ft:AV→St→R Unit}{fe:St→R AV}(K:Cy Γ sc scope elt tgt iter fi ft fe):A1 Γ sc (.ListComp elt [⟨tgt,iter,[],0⟩] scope pos) (Bg fi ft fe):=fun σ ns g φ s X S=>by
 rw[eval_ListComp]
 exact LK (use:=none) K (R.bind_ns ns) X S (fun e s' h=>h.cast fun σ q=>R.bind_exc q) fun D C s' F h' k=>F.frozen k
theorem W0{scope:Scope}{elt tgt iter:Expr}{pos:Pos}{fi:St→R (List D)}{ft:AV→St→R Unit}{fe:St→R AV}(K:Cy Γ sc scope elt tgt iter fi ft fe):A1 Γ sc (.ListComp elt [⟨tgt,iter,[],0⟩] scope pos) (Rl fi ft fe):=fun σ ns g φ s X S=>by
 rw[eval_ListComp]
 exact LK (use:=none) K (R.bind_ns ns) X S (fun e s' h=>h.cast fun σ q=>R.bind_exc q) fun D C s' F h' k=>F.turned k
noncomputable def NM(f:St→R AV)(y:Str):St→R AF:=fun σ=>(f σ).bind fun v σ=>.ok .next (σ.setM y v)
theorem Yw{scope:Scope}{elt tgt iter:Expr}{pos spos py:Pos}{y:Str}{fi:St→R (List D)}{ft:AV→St→R Unit}{fe:St→R AV}(K:Cy Γ sc scope elt tgt iter fi ft fe)(hy:sc.names.lookup y=some .local)
  (hs:∀env:Env,env.scope=sc→swapsWith (.ListComp elt [⟨tgt,iter,[],0⟩] scope pos) (some (.Name y py)) spos.line env=pure true):JF Γ sc (.Assign [.Name y py] (.ListComp elt [⟨tgt,iter,[],0⟩] scope pos) spos) (NM (Bg fi ft fe) y):=fun σ ns g φ s X S=>by
 have er:NM (Bg fi ft fe) y σ=(compI fi ft fe σ).bind fun ds σ=>.ok .next (σ.setM y (.d (.lst ds))):=by
  unfold NM Bg;cases compI fi ft fe σ<;>rfl
 rw[er] at ns ⊢
 refine At.ofEq (exec_Assign_Name_used _ _ _ _ (hs _ X.sce)) (At.stand ?_)
 rw[arm_evalThenUse_ListComp]
 refine wpAny_bind (wpAny_bind (LK (use:=some (assign (.Name y py) Γ.env)) K (R.bind_ns ns) X S (fun e s' h=>h.cast fun σ q=>R.bind_exc q) fun Da C s' F=>?_))
 obtain⟨⟨ds,σ',g',φ',ys,kk,m,er2,S',X',sm,hL,hds,B,hm⟩,ne,hd,hc⟩:=F
 have e:=DT Γ σ'.m σ'.b
 have S2:CF Γ (frz g' s'.heap (· =Da)) φ' σ' s'.heap:=⟨S'.inv.refrz _ fun b hb=>⟨hb▸B.c Da (.head _),by rw[e,hb];exact B.l Da (.head _)⟩⟩
 have X2:DH Γ.la g φ σ.cs.length s.heap (frz g' s'.heap (· =Da)) φ' σ'.cs.length s'.heap:=O2 X' S'.inv.sub fun b hb=>hb▸hd
 have hv:CJ Γ.P (frz g' s'.heap (· =Da)) φ' σ'.cs.length (.ref Da) (.d (.lst ds)):=Rd.lst (vs:=ys.toList) (DR rfl hL) (C3.mono (Bv S'.inv.sub) hds)
 refine wpAny_mono (UD (UC hy) σ' (.ref Da) (.d (.lst ds)) (fun z=>by cases z) _ φ' s' (X.mono X2.sub) S2 hv) ?_ fun e s3 h=>?_
 ·rintro _ s3 ⟨b3,σ3,e3,g3,φ3,S3,X3,_,sm3⟩
  cases e3
  have BC:BS Γ (frz g' s'.heap (· =Da)) φ' σ'.cs.length [C]:=⟨fun b hb=>Ba (by rw[List.mem_singleton.mp hb];exact B.g C (by simp)) (fun z=>ne (by rw[←z,List.mem_singleton.mp hb])),fun b hb=>by rw[List.mem_singleton.mp hb];exact B.c C (by simp),fun b hb=>by rw[List.mem_singleton.mp hb];exact B.l C (by simp)⟩
  have hC:∃o,s'.heap.get? C=some o:=by obtain⟨o,_,_,ho,_⟩:=hm;exact⟨o,ho⟩
  have BC3:=BC.ext X3 fun b hb=>by rw[List.mem_singleton.mp hb];exact hC
  have hm3:∃m,s3.heap.Ns C m:=by
   obtain⟨o,es,ep,ho,r⟩:=hm
   exact⟨m,o,es,ep,X3.kept _ _ ho (BC.c C (.head _)) (BC.l C (.head _)),r⟩
  obtain⟨m3,hm3⟩:=hm3
  refine⟨m3,hm3,fun h' hk=>wpAny_pure (wpAny_pure ⟨.next,σ'.setM y (.d (.lst ds)),by rw[er2];rfl,g3,φ3,?_,?_,trivial,⟨(sm.trans sm3).1,(sm.trans sm3).2⟩⟩)⟩
  ·have kC:Wu [C] s3.heap h':=fun b o hb e=>(hk.2 b fun z=>hb (by rw[z];exact .head _)).trans e
   exact S3.but BC3 kC
  ·have kC:Wu [C] s3.heap h':=fun b o hb e=>(hk.2 b fun z=>hb (by rw[z];exact .head _)).trans e
   exact(X2.trans X3).but kC fun b hb=>by rw[List.mem_singleton.mp hb];exact hc
 ·obtain⟨σ3,e3,_⟩:=h;cases e3
end
noncomputable abbrev AU:=List AV→List AK→RC
noncomputable def ck(Γ:BO)(r:R AV)(g:Heap)(φ:Nat→Addr)(n:Nat)(s:Shared):Result→Shared→Prop:=fun x s'=>match x with
 |.ok (.ret v)=>GO Γ (VA Γ) r g φ n s v s'
 |.ok _=>False
 |.error e=>Et Γ r g φ n s e s'
noncomputable def LL(a:Addr)(n:Nat)(f:AU):Prop:=∀(Γ:BO) (sc:Scope) g φ σ s vs bs,n+1≤Γ.room→OK Γ sc g→CF Γ g φ σ s.heap→Al (CJ Γ.P g φ σ.cs.length) vs bs→f bs σ.cs≠.stuck→
 codeAny Γ.M Γ.A (.call (.ref a) ⟨vs,[]⟩) (ck Γ ((f bs σ.cs).on σ) g φ σ.cs.length s) s
theorem LL.mono{a:Addr}{n m:Nat}{f:AU}(h:LL a n f)(l:n≤m):LL a m f:=fun Γ sc g φ σ s vs bs hr=>h Γ sc g φ σ s vs bs (by lia)
noncomputable def Ar(F:Fn)(fz:Bool)(B:St→R AF):AU:=fun bs cs=>if bs.length=F.names.length then fin fz cs.length (B (Ct (BR F.s) F.names cs bs)) else .stuck
set_option tactic.hygienic true in
theorem bc{F:Fn}(K:Bb F){n:Nat}{B:St→R AF}(hB:Pj F n B)(fz:Bool):LL F.a n (Ar F fz B):=fun Γ sc g φ σ s vs bs hr X S hv ns=>by
 unfold Ar at ns ⊢
 split at ns
 ·rename_i hl
  rw[if_pos hl]
  exact OS K hB fz hr X S hv hl ns
 ·exact absurd rfl ns
theorem Yx{a:Addr}{fd:FuncData}{oc:Value}{od:Option Addr}{sl:Array (Option Value)}(h:∀P,List.lookup a (Kp pw P)=some ⟨oc,od,.func fd,sl⟩){M:Model}{w:World}{hp:Heap}(X:(KP w).In hp):F3 M hp (.ref a):=by
 obtain⟨k,hk,L⟩:=looks_keep (f:=.ref a) (M:=M) (by unfold keepIn;dsimp only;rw[show List.lookup a (KP w)=_ from h w.params]) X
 exact⟨k,hk.elim .inl fun z=>.inr (.inl z),L⟩
section
variable {Γ:BO} {sc:Scope}
theorem At.run{a:Addr}{n:Nat}{f:AU}(h:LL a n f){g:Heap}{φ:Nat→Addr}{σ:St}{s:Shared}{vs:List Value}{bs:List AV}(hr:n+1≤Γ.room)(X:OK Γ sc g)(S:CF Γ g φ σ s.heap)(hv:Al (CJ Γ.P g φ σ.cs.length) vs bs)(ns:(f bs σ.cs).on σ≠.stuck):At Γ (call (.ref a) vs) (VA Γ) ((f bs σ.cs).on σ) g φ σ.cs.length s:=by
 refine wpAny_call (codeAny_mono (h Γ sc g φ σ s vs bs hr X S hv fun e=>ns (by rw[e];rfl)) fun r s' h=>?_)
 cases r with
 |error e=>exact h
 |ok f=>cases f<;>first|exact h|exact h.elim
noncomputable def AN(f:AU)(fa:St→R (List AV)):St→R AV:=fun σ=>(fa σ).bind fun bs σ=>(f bs σ.cs).on σ
noncomputable def isRd(name:Str)(cs:List AK):AV→Bool
 |.obj c i=>c==405&&(match cs[i]? with|some (.dict fs)=>(fs.lookup name).isNone|_=>false)
 |_=>false
noncomputable def Ad(f:AU):AV→List AV→St→R AV:=fun a bs σ=>(f (a::bs) σ.cs).on σ
set_option tactic.hygienic true in
theorem Yy{name:Str}{a:Addr}{n:Nat}{f:AU}{fd:FuncData}(hf:LL a n f)(hr:n+1≤Γ.room)(hat:∀P,List.lookup a (Kp pw P)=some ⟨.type "function",none,.func fd,List.toArray []⟩)(hfi:∀P,findIn (Kp pw P) (.ref 405) name=some (some (.ref a))):
  Dh Γ sc name (isRd name) (Ad f):=fun av σ hc g φ s vo pl X S v=>by
 unfold isRd at hc
 split at hc
 ·rename_i c i
  rw[Bool.and_eq_true,beq_iff_eq] at hc
  obtain⟨rfl,hc⟩:=hc
  split at hc
  ·rename_i fs q
   refine⟨.ref a,[vo],fun Q E qq=>?_,fun σ' g' φ' s' vs bs X' S' Xt v' vb ns=>⟨Yx hat (X'.wd.keeps S'.inv.sub),?_⟩⟩
   ·obtain⟨x,rfl,hx,hi⟩:=v
    obtain⟨es,k,ho,r⟩:=S.inv.cell _ _ q
    have hl:=RN (x:=name) r (Option.isNone_iff_eq_none.mp hc)
    have XK:=X.wd.keeps S.inv.sub
    have I:=PX (S.inv.sub _ _ hx) ho
    refine method_fn XK I (plainGet_of (JW _)).1 (plainGet_of (JW _)).2 (hfi _) ?_ ?_ qq
    ·unfold typeIn;dsimp only;rw[show List.lookup a (KP Γ.w)=_ from hat Γ.P];rfl
    ·show(lookIn name (dictOf es k)).map _=_
     rw[lookIn_dict,hl];rfl
   ·exact At.run hf hr X' S' (.cons v' vb) ns
  ·cases hc
 ·cases hc
end
theorem Yz:∀P,makesIn (Kp pw P) 117=true:=fun P=>by kernel_rfl
theorem Y0:∀P,makesIn (Kp pw P) 405=true:=fun P=>by kernel_rfl
theorem Vn:∀P,keepIn (Kp pw P) (.ref 117)=true:=fun P=>by kernel_rfl
theorem bd:∀P,keepIn (Kp pw P) (.ref 405)=true:=fun P=>by kernel_rfl
theorem Rm(A:Around)(C:Addr)(rest:List Value):(A.under (.builtin "type.__call__" ⟨.ref C::rest,[]⟩)).depth≤A.depth+2∧(A.under (.builtin "type.__call__" ⟨.ref C::rest,[]⟩)).units≤A.units+10∧(A.under (.builtin "type.__call__" ⟨.ref C::rest,[]⟩)).frames=A.frames∧(A.under (.builtin "type.__call__" ⟨.ref C::rest,[]⟩)).handled=A.handled:=by
 refine⟨?_,?_,?_,rfl⟩
 ·show A.depth+Code.weight _≤A.depth+2
  exact Nat.add_le_add_left (by rw[show Code.weight (.builtin "type.__call__" ⟨.ref C::rest,[]⟩)=1 by kernel_rfl];decide) _
 ·show A.units+Code.cUnits _≤A.units+10
  exact Nat.add_le_add_left (by rw[show Code.cUnits (.builtin "type.__call__" ⟨.ref C::rest,[]⟩)=1 by kernel_rfl];decide) _
 ·show pushEnvs (Code.envs (.builtin "type.__call__" ⟨.ref C::rest,[]⟩)) A.frames=A.frames
  rw[show Code.envs (.builtin "type.__call__" ⟨.ref C::rest,[]⟩)=[] by kernel_rfl];rfl
noncomputable def be(C:Addr)(init:AU):AU:=fun bs cs=>match init (.obj C cs.length::bs) (cs++[.dict []]) with
 |.ok (.d .none) cs'=>.ok (.obj C cs.length) cs'
 |_=>.stuck
theorem Rn{C fI:Addr}{n:Nat}{f:AU}(hC:C=117∨C=405)(hf:LL fI n f)(hi:∀P,findIn (Kp pw P) (.ref C) "__init__"=some (some (.ref fI)))(ht:∀P,typeIn (Kp pw P) (.ref fI)=some (.type "function")):LL C (n+1) (be C f):=fun Γ sc g φ σ s vs bs hr X S hv ns=>by
 unfold be at ns ⊢
 generalize hr0:f (.obj C σ.cs.length::bs) (σ.cs++[.dict []])=r0 at ns ⊢
 have hr1:∃cs',r0=.ok (.d .none) cs':=by
  cases r0 with
  |ok v cs'=>
   cases v with
   |d x=>cases x<;>first|exact⟨cs',rfl⟩|exact absurd rfl ns
   |lst i=>exact absurd rfl ns
   |obj c i=>exact absurd rfl ns
  |exc cs'=>exact absurd rfl ns
  |stuck=>exact absurd rfl ns
 obtain⟨cs',rfl⟩:=hr1
 dsimp only
 have XK:=X.wd.keeps S.inv.sub
 have hm:makesIn (KP Γ.w) C=true:=by rcases hC with rfl|rfl;exact Yz _;exact Y0 _
 obtain⟨hp,ge,dr,tk,os⟩:=s
 obtain⟨u1,u2,u3,u4⟩:=Rm Γ.A C vs
 refine make_core (makes_of XK hm) (looks_findIn XK (hi _)) (fun self=>bind_fn XK self (ht _)) (.inl rfl) ?_
 generalize Γ.A.under (.builtin "type.__call__" ⟨.ref C::vs,[]⟩)=A' at*
 clear XK hm hi ht hC ns
 have k:∀b o,hp.get? b=some o→((hp.push emptyDict).push (instObj C hp.objs.size)).get? b=some o:=fun b o e=>Heap.get?_push_of_some _ (Heap.get?_push_of_some _ e)
 have hx:((hp.push emptyDict).push (instObj C hp.objs.size)).get? (hp.objs.size+1)=some (instObj C hp.objs.size):=by
  have:=Heap.get?_push_size (hp.push emptyDict) (o:=instObj C hp.objs.size) rfl
  rwa [Heap.size_push] at this
 have hd:((hp.push emptyDict).push (instObj C hp.objs.size)).get? hp.objs.size=some (dictOf [] 0):=Heap.get?_push_of_some _ (Heap.get?_push_size _ rfl)
 have hx0:hp.get? (hp.objs.size+1)=none:=by
  cases q:hp.get? (hp.objs.size+1) with
  |none=>rfl
  |some o=>exact absurd (Heap.lt_size q) (Nat.not_lt.mpr (Nat.le_succ _))
 generalize(hp.push emptyDict).push (instObj C hp.objs.size)=h2 at*
 have pf:∀b,b=hp.objs.size+1→hp.get? b=none∧b≠hp.objs.size:=fun b e=>e▸⟨hx0,Nat.succ_ne_self _⟩
 have I1:=S.inv.push (fun b=>b=hp.objs.size+1) pf k (A2 _) (c:=.dict []) ⟨[],0,hd,.nil⟩
 have E1:=S.inv.pushExt Γ.la (fun b=>b=hp.objs.size+1) (fun b e=>(pf b e).1) k (A2 hp)
 have len:(σ.cs++[AK.dict []]).length=σ.cs.length+1:=by simp
 have S1:CF {Γ with A:=A',room:=Γ.room-1} (frz g h2 fun b=>b=hp.objs.size+1) (Dy φ σ.cs.length hp.objs.size) {σ with cs:=σ.cs++[.dict []]} h2:=⟨I1⟩
 have X1:OK {Γ with A:=A',room:=Γ.room-1} sc (frz g h2 fun b=>b=hp.objs.size+1):=by
  have Y:=X.mono E1.sub
  refine{Y with hnd:=u4.trans Y.hnd,fr:=?_,depth:=?_,units:=?_}
  clear S hf I1 E1 S1
  ·obtain⟨e0,es,f1,f2,f3⟩:=Y.fr
   exact⟨e0,es,u3.trans f1,f2,f3⟩
  ·show A'.depth+2*(Γ.room-1)≤900
   have:=Y.depth;lia
  ·show A'.units+40*(Γ.room-1)≤9000
   have:=Y.units;lia
 have hself:CJ Γ.P (frz g h2 fun b=>b=hp.objs.size+1) (Dy φ σ.cs.length hp.objs.size) (σ.cs++[AK.dict []]).length (.ref (hp.objs.size+1)) (.obj C σ.cs.length):=by
  refine⟨hp.objs.size+1,rfl,DR rfl ?_,by rw[len];exact Nat.lt_succ_self _⟩
  rw[hx]
  show some (instObj C hp.objs.size)=some (instObj C (if _ then _ else _))
  rw[if_pos rfl]
 have hvs:Al (CJ Γ.P (frz g h2 fun b=>b=hp.objs.size+1) (Dy φ σ.cs.length hp.objs.size) (σ.cs++[AK.dict []]).length) (.ref (hp.objs.size+1)::vs) (.obj C σ.cs.length::bs):=by
  refine .cons hself ?_
  have:=Q7 hv E1
  rw[len];exact this
 clear hx hd k pf hx0
 generalize(frz g h2 fun b=>b=hp.objs.size+1)=G at*
 generalize Dy φ σ.cs.length hp.objs.size=φ1 at*
 have run:=hf {Γ with A:=A',room:=Γ.room-1} sc _ _ {σ with cs:=σ.cs++[.dict []]} ⟨h2,ge,dr,tk,os⟩ (.ref (hp.objs.size+1)::vs) (.obj C σ.cs.length::bs) (by show n+1≤Γ.room-1;lia) X1 S1 hvs (by rw[hr0];exact fun z=>by cases z)
 rw[hr0] at run
 refine codeAny_mono run fun r s' h=>?_
 unfold ck at h
 unfold InitBack
 rcases r with e|(v|_|_|v)
 ·obtain⟨_,z,_⟩:=h;cases z
 ·exact h
 ·exact h
 ·exact h
 ·obtain⟨b,σ',z,g',φ',S',X',v',sm'⟩:=h
  cases z
  cases v'
  have hlt:σ.cs.length<cs'.length:=by have:=X'.len;rw[len] at this;exact this
  refine⟨rfl,.obj C σ.cs.length,_,rfl,g',φ',⟨S'.inv⟩,?_,?_,⟨sm'.1,sm'.2⟩⟩
  ·refine E1.trans ?_
   rw[len] at X'
   exact X'
  ·exact hself.mono X'.sub X'.len X'.eq
noncomputable abbrev Ro:Str:="BadListing"
noncomputable abbrev UO:List Value:=[.type "Exception",.type "BaseException",.type "object"]
theorem LM:∀P,List.lookup 197 (Kp pw P)=some (excClassObj Ro Ro 197 196 [.type "Exception"] UO true [] [] false none none (some (.ref 181)) none (some (.str Ro 648)) (some (.str Ro 656)) (some (.bool true)) "Exception.__new__"):=fun P=>by kernel_rfl
noncomputable def UP(K:Frag)(a:Addr):Bool:=match K.lookup a with
 |some ⟨_,_,.dict es _,_⟩=>es.toList.all fun e=>match e.key with|.str _ _=>true|_=>false
 |_=>false
theorem Rp:∀P,UP (Kp pw P) 196=true:=fun P=>by kernel_rfl
set_option tactic.hygienic true in
theorem cn{K:Frag}{h:Heap}{a:Addr}(X:K.In h)(e:UP K a=true):EU (fun m=>h.Ns a m) (fun m=>(∀n v,nsIn K a n=some (some v)→m n=some v)) (fun m=>∀n,nsIn K a n=some none→m n=none):=by
 unfold UP at e
 split at e
 ·rename_i oc od es ep sl q
  refine⟨fun n=>nsFind es n,⟨_,es,ep,X _ _ q,rfl,fun en he=>?_,fun z0=>rfl⟩,fun n v e2=>?_,fun n e2=>?_⟩
  ·have:=List.all_eq_true.mp e en (by simpa using he)
   split at this
   ·rename_i n t hk;exact⟨n,t,hk⟩
   ·cases this
  ·unfold nsIn at e2
   rw[q] at e2
   dsimp only at e2
   split at e2
   ·rename_i en he
    cases e2
    unfold nsFind findBy
    dsimp only
    rw[←Array.find?_toList,he];rfl
   ·split at e2<;>cases e2
  ·unfold nsIn at e2
   rw[q] at e2
   dsimp only at e2
   split at e2
   ·cases e2
   ·rename_i he
    unfold nsFind findBy
    dsimp only
    rw[←Array.find?_toList,he];rfl
 ·cases e
theorem Y1:∀P,nsIn (Kp pw P) 196 "__init__"=some (some (.ref 194)):=fun P=>by kernel_rfl
theorem d7:∀P,nsIn (Kp pw P) 196 "__setattr__"=some none:=fun P=>by kernel_rfl
theorem bf:∀P,nsIn (Kp pw P) 196 "at"=some none:=fun P=>by kernel_rfl
theorem d8:typeLookup (.type "Exception") "at"=pure none:=by rw[typeLookup_type,builtinLookup_eq_fast];kernel_rfl
theorem Y2:∀P,findCls (Kp pw P) (.type "Exception") (.type "type") "__init__"=some (.val (.builtin "Exception.__init__")):=fun P=>by kernel_rfl
theorem Y3:typeOf (.type "Exception")=pure (.type "type"):=by kernel_rfl
theorem Y4:Manifest.isStub "Exception"=false:=by kernel_rfl
theorem Y5:∀P,nsIn (Kp pw P) mainGlobals "Exception"=some none:=fun P=>by kernel_rfl
noncomputable def badFn:Fn:=⟨194,"__init__","BadListing.__init__",Q5 pw 14 0,.str "js.listing" 644,193,[Str.ofString "self",Str.ofString "at"]⟩
theorem Y6:∀P,List.lookup 194 (Kp pw P)=some ⟨.type "function",none,.func badFn.fd,List.toArray []⟩:=fun P=>by kernel_rfl
theorem Y7:∀P,codeIn (Kp pw P) (.ref 193) badFn.q=true:=fun P=>by kernel_rfl
theorem Y8:∀v w:Value,bindArgs badFn.fd ⟨[v,w],[]⟩=pure [(Str.ofString "self",v),(Str.ofString "at",w)]:=fun v w=>by kernel_rfl
section
variable {w:World} {A:Around} {E:Value→Shared→Prop}
structure Ml(s:Shared)(e:Addr)(s':Shared):Prop where
 keep:∀b o,s.heap.get? b=some o→s'.heap.get? b=some o
 new:s.heap.get? e=none
 at_:au (fun oe vs=>s'.heap.get? e=some oe) (fun oe vs=>oe.cls=.ref 197) (fun oe vs=>oe.data=.fields vs) (fun oe vs=>1<vs.size) (fun oe vs=>vs[1]? =some .none)
 same:Bn s s'
noncomputable def W1(h:Heap)(L:Nat):Heap:=⟨h.objs.extract 0 L,h.life⟩
set_option tactic.hygienic true in
theorem Rq{h:Heap}{L b:Nat}{o:Obj}:(W1 h L).get? b=some o↔b<L∧h.get? b=some o:=by
 rw[Heap.get?_some_iff,Heap.get?_some_iff]
 unfold W1
 simp only[Array.getElem?_extract]
 constructor
 ·rintro⟨h1,h2⟩
  split at h1
  ·rename_i q
   refine⟨by lia,by simpa using h1,h2⟩
  ·cases h1
 ·rintro⟨h1,h2,h3⟩
  have:=(Array.getElem?_eq_some_iff.mp h2).1
  refine⟨?_,h3⟩
  rw[if_pos (by lia)]
  simpa using h2
theorem W2(h:Heap)(L:Nat):(W1 h L).objs.size≤L:=by simp[W1];lia
theorem Y9{L:Addr}{m:Str→Option Value}{e:Addr}{t:Addr}{v:Value}{s s1:Shared}{mg mb:Str→Option Value}(X:(KP w).In s.heap)(T:TopRead (qv pw) (looseW (qv pw) loose) mg mb s.heap)(hk:∀b o,s.heap.get? b=some o→s1.heap.get? b=some o)(sm:Bn s s1)(hL:∀b o,s.heap.get? b=some o→b<L)
  (hn:s1.heap.Ns L m)(hs:m (Str.ofString "self")=some (.ref e))(ha:m (Str.ofString "at")=some v)(he0:s.heap.get? e=none)(hLe:L≠e)
  (he:s1.heap.get? e=some {cls:=.ref 197,data:=.fields #[.ref t,.none,.none,.none,.bool false,.none]}){Q:Flow→Shared→Prop}(q:∀s',Ml s e s'→Q .next s'):
  wpAny (model pw w) A (execs (JH badFn.s) (callEnv badFn.fd L 194)) Q E s1:=by
 have T1:=T.keeps hk
 have X1:=X.keeps hk
 have kind:(callEnv badFn.fd L 194).scope.kind=.function:=by kernel_rfl
 refine wpAny_execs_cons (wpAny_Expr ?_ (by kernel_rfl) (by kernel_rfl))
 rw[arm_eval_Call]
 show wpAny _ _ (eval (.Name (Str.ofString "Exception") _) (callEnv badFn.fd L 194)>>=_) _ _ _
 have hb:mb (Str.ofString "Exception")=some (.type "Exception"):=(T1.builtins _ (by decide)).trans (by decide)
 refine wpAny_bind (Name_function_global kind (by kernel_rfl) (loadGlobal_builtin T1.g (mg_none_of X1 T1.g (Y5 _)) T1.b hb ?_))
 refine wpAny_bind (wpAny_standAt ?_)
 generalize hS2:(fun(v:Value) (s':Shared)=>_)=Q2
 unfold methodCall
 have F1:Fr (W1 s1.heap L) L s1.heap m:=⟨hn,fun b o q=>(Rq.mp q).2,W2 _ _⟩
 have Xc:(KP w).In (W1 s1.heap L):=fun b o q=>Rq.mpr ⟨hL b o (X b o q),X1 b o q⟩
 refine wpAny_bind (wpAny_holding ?_)
 refine method_type (K:=KP w) F1 Xc Y3 Y4 (Y2 _) rfl ?_
 refine wpAny_bind (wpAny_of_eq (a:={line:=68,col:=8,endLine:=68,endCol:=49}) (by unfold methodCallPos;rfl) ?_)
 refine callWith_builtin rfl (evalArgs_plain (spliced_cons (wpAny_Name (wpAny_loadName_local kind (by kernel_rfl) hn hs ?_) (by decide))))
 refine spliced_cons ?_
 show wpAny _ _ (eval (.Constant (.str (Str.ofString "not a listing")) 0 {line:=68,col:=33,endLine:=68,endCol:=48}) (callEnv badFn.fd L 194)) _ _ _
 refine Constant_str (spliced_nil ?_)
 have FE:=PySem.F.excBase_Exception
 have hC:s1.heap.get? 197=some _:=X1 _ _ (LM _)
 subst hS2
 dsimp only
 obtain⟨hp,ge,dr,tk,os⟩:=s1
 dsimp only at hC he hn hk T1 X1 F1 ⊢
 refine wpAny_call (codeAny_call_builtin FE.init.plain FE.initEntry (wpAny_check_init_sub FE hC he rfl ?_))
 show wpAny _ _ (newTuple [_]>>=fun v=>Builtin.BaseException.bexcPut (.ref e) 0 v>>=fun z0=>ret .none) _ _ _
 refine wpAny_bind (wpAny_newTuple ?_ (by rw[sizeLine_eq];exact Nat.le_trans (m:=1) (by simp) (by decide)))
 unfold Builtin.BaseException.bexcPut
 have he1:=Heap.get?_push_of_some {cls:=.type "tuple",data:=.seq [Value.str (Str.ofString "not a listing") (tk+1)].toArray} he
 refine wpAny_bind (wpAny_bind (wpAny_field he1 rfl (x:=.ref t) rfl (wpAny_bind (wpAny_setField he1 rfl (by simp) ?_))))
 refine wpAny_letGo (wpAny_pure ?_)
 dsimp only
 have hTe:e≠hp.objs.size:=Nat.ne_of_lt (Heap.lt_size he)
 generalize hH:(hp.push {cls:=.type "tuple",data:=.seq [Value.str (Str.ofString "not a listing") (tk+1)].toArray})=H1 at he1
 have k1:∀b o,hp.get? b=some o→H1.get? b=some o:=fun b o q=>hH▸Heap.get?_push_of_some _ q
 have he2:=Heap.get?_update_self (Obj.mapFields (·.setIfInBounds 0 (Value.ref hp.objs.size))) he1 rfl
 have k2:∀b o,b≠e→hp.get? b=some o→(H1.update e (Obj.mapFields (·.setIfInBounds 0 (Value.ref hp.objs.size)))).get? b=some o:=fun b o nb q=>(Heap.get?_update_other _ _ (Ne.symm nb)).trans (k1 b o q)
 generalize H1.update e (Obj.mapFields (·.setIfInBounds 0 (Value.ref hp.objs.size)))=H2 at he2 k2 ⊢
 have k02:∀b o,s.heap.get? b=some o→H2.get? b=some o:=fun b o q=>k2 b o (fun z=>by rw[z,he0] at q;cases q) (hk b o q)
 have hn2:H2.Ns L m:=by
  obtain⟨o,es,ep,q1,q2⟩:=hn
  exact⟨o,es,ep,k2 _ _ hLe q1,q2⟩
 have hC2:=k02 _ _ (X _ _ (LM _))
 obtain⟨mN,hN,hN1,hN2⟩:=cn (fun b o q=>k02 b o (X b o q)) (Rp w.params)
 refine wpAny_execs_cons ?_
 rw[arm_exec_Assign]
 refine wpAny_bind (wpAny_standAt ?_)
 refine wpAny_bind (wpAny_of_eq (a:=false) (by kernel_rfl) ?_)
 rw[if_neg Bool.false_ne_true]
 refine wpAny_bind (wpAny_Name (wpAny_loadName_local kind (by kernel_rfl) hn2 ha ?_) (by decide))
 refine wpAny_bind (wpAny_of_eq (a:=none) (by kernel_rfl) ?_)
 show wpAny _ _ (assign _ _ _>>=fun z0=>pure Flow.next) _ _ _
 rw[arm_assign_Attribute]
 refine wpAny_bind (wpAny_bind (wpAny_holding (wpAny_Name (wpAny_loadName_local kind (by kernel_rfl) hn2 hs ?_) (by decide))))
 refine wpAny_bind (wpAny_standAt (wpAny_bind (wpAny_holding ?_)))
 refine store_attr (mA:=fun z0=>none) (ns:=[]) PySem.F.store_Exception hC2 hN (hN2 _ (d7 _)) (hN2 _ (bf _)) d8 (fun z=>by rw[z] at he0;rw[X _ _ (LM _)] at he0;cases he0) ⟨_,he2,rfl,fun c z=>(by cases z),.inl ⟨rfl,fun z0=>rfl⟩⟩ (fun h' tk' I' hk' hsame=>?_)
 refine wpAny_release (wpAny_pure (wpAny_execs_nil (q _ ?_)))
 obtain⟨o1,z1,z2,z3,z4,z5⟩:=hsame _ he2
 refine⟨fun b o qq=>hk' b o (fun z=>by rw[z,he0] at qq;cases qq) (fun o0 dx q1 q2=>?_) (k02 b o qq),he0,⟨o1,_,z1,z2,z3,by simp,rfl⟩,⟨sm.1,sm.2⟩⟩
 rw[he2] at q1;cases q1;cases q2
theorem ZA{v:Value}{s:Shared}{mg mb:Str→Option Value}(X:(KP w).In s.heap)(T:TopRead (qv pw) (looseW (qv pw) loose) mg mb s.heap)(hd:A.depth+4<1000){Q:Value→Shared→Prop}(q:∀e s',Ml s e s'→Q (.ref e) s'):wpAny (model pw w) A (call (.ref 197) [v]) Q E s:=by
 obtain⟨mN,hN,hN1,hN2⟩:=cn X (Rp w.params)
 obtain⟨hp,ge,dr,tk,os⟩:=s
 have hC:=X _ _ (LM _)
 obtain⟨u1,u2,u3,u4⟩:=Rm A 197 [v]
 refine wpAny_call_exc_init (A:=A) PySem.F.excBase_Exception hC hN (hN1 _ _ (Y1 _)) (X _ _ (Y6 _)) rfl (fun h' e hm=>?_) (by rw[sizeLine_eq];exact Nat.le_trans (m:=1) (by simp) (by decide))
 obtain⟨kp,nw,t,h1,h2,h3⟩:=hm
 have X':(KP w).In h':=X.keeps kp
 have T':=T.keeps kp
 refine wpAny_call (codeAny_call_plain (fd:=badFn.fd) (body:=JH badFn.s) (binds:=[(Str.ofString "self",.ref e),(Str.ofString "at",v)]) (by unfold recursionLimit;lia) (X' _ _ (Y6 _)) rfl T'.nolimit (codeRec_of X' (Y7 _)) rfl (Y8 _ _) (by decide+kernel) (fun x hx=>?_) (fun h0 hn hk=>?_) rfl rfl (by kernel_rfl))
 ·rcases List.mem_cons.mp hx with rfl|hx
  ·show(BR badFn.s).names.lookup (Str.ofString "self")=_
   decide+kernel
  ·rw[List.mem_singleton.mp hx]
   show(BR badFn.s).names.lookup (Str.ofString "at")=_
   decide+kernel
 refine Y9 (s:=⟨hp,ge,dr,tk,os⟩) (s1:=⟨h0,ge,dr,_,os⟩) X T (fun b o q=>hk b o (kp b o q)) ⟨rfl,rfl⟩ (fun b o q=>Heap.lt_size (kp b o q)) hn (by rfl) (by rfl) nw (fun z=>by rw[←z] at h1;exact absurd (Heap.lt_size h1) (Nat.lt_irrefl _)) (hk _ _ h1) fun s' hs'=>?_
 exact⟨rfl,q e s' hs'⟩
end
section
variable {Γ:BO} {sc:Scope}
theorem Rr:∀P,nsIn (Kp pw P) mainGlobals "BadListing"=some (some (.ref 197)):=fun P=>by kernel_rfl
theorem bg:∀P,keepIn (Kp pw P) (.ref 197)=true:=fun P=>by kernel_rfl
theorem Ml.flight{g:Heap}{φ:Nat→Addr}{σ:St}{s s':Shared}{e:Addr}(B:Ml s e s')(S:CF Γ g φ σ s.heap):CF Γ g φ σ s'.heap∧DH Γ.la g φ σ.cs.length s.heap g φ σ.cs.length s'.heap∧Dg g φ σ.cs.length s.heap (.ref e) s'.heap:=by
 obtain⟨oe,vs,h1,h2,h3,h4,h5⟩:=B.at_
 refine⟨⟨S.inv.keeps B.keep⟩,S.inv.keepsExt _ B.keep,e,oe,vs,rfl,h1,h2,h3,h4,B.new,?_,fun i hi z=>?_,.inl h5⟩
 ·cases q:g.get? e with
  |none=>rfl
  |some o=>have:=S.inv.sub _ _ q;rw[B.new] at this;cases this
 ·obtain⟨o,q⟩:=S.inv.there hi;rw[z,B.new] at q;cases q
theorem W3{A:Around}{E:Value→Shared→Prop}{w:World}{s:Shared}{env:Env}{x:Sem Value}{Q:Flow→Shared→Prop}(hh:A.handled=none)
  (h:wpAny (model pw w) A x (fun v s1=>gI (fun e oe vs=>v=.ref e) (fun e oe vs=>s1.heap.get? 197=some (excClassObj Ro Ro 197 196 [.type "Exception"] UO true [] [] false none none (some (.ref 181)) none (some (.str Ro 648)) (some (.str Ro 656)) (some (.bool true)) "Exception.__new__")) (fun e oe vs=>s1.heap.get? e=some oe) (fun e oe vs=>oe.cls=.ref 197) (fun e oe vs=>oe.data=.fields vs) (fun e oe vs=>vs[1]? =some .none) (fun e oe vs=>E (.ref e) s1)) E s):wpAny (model pw w) A (raiseStmt env (some x) none) Q E s:=by
 have hcB:(Value.ref 197::UO).contains (.type "BaseException")=true:=by decide
 unfold raiseStmt
 refine wpAny_bind (wpAny_mono h (fun v s₁ h₁=>?_) fun z0 z0 x=>x)
 obtain⟨e,oe,vs,rfl,hC,he,hcls,hd,h1,hE⟩:=h₁
 obtain⟨hp,g,d,tk,os⟩:=s₁
 repeat(first|(with_reducible refine wpAny_loadPart_at he ?_;first|rw[hd]|rw[hcls])|with_reducible refine wpAny_loadPart_at hC ?_|(with_reducible refine wpAny_isSubtype_exc hC ?_;rw[hcB])|wp_step)
 rw[hd]
 refine wpAny_pure ?_
 rw[h1]
 refine wpAny_pure ?_
 rw[if_neg (by decide)]
 exact wpAny_pure (wpAny_raiseNew_none hh hE)
noncomputable def DU(fa:St→R (List AV)):St→R AF:=fun σ=>(fa σ).bind fun vs σ=>match vs with|[_]=>.exc σ|_=>.stuck
set_option tactic.hygienic true in
theorem W4{p cpos pos:Pos}{args:List Expr}{fa:St→R (List AV)}(ha:Em Γ sc cpos args fa)(hl:sc.names.lookup (Str.ofString "BadListing")=some .globalImplicit)(h1:args.length=1):JF Γ sc (.Raise (some (.Call (.Name (Str.ofString "BadListing") p) args [] cpos)) none pos) (DU fa):=fun σ ns g φ s X S=>by
 refine At.ofEq (arm_exec_Raise ..) (At.stand ?_)
 refine W3 X.hnd ?_
 show wpAny _ _ (eval _ Γ.env>>=fun v=>standAt pos>>=fun z0=>pure v) _ _ _
 rw[arm_eval_Call_Name']
 refine wpAny_bind (wpAny_bind (Ht hl Rr (by decide) g X s _ _ S.inv.sub ?_))
 refine Lz ha.1 (ha.2 σ (R.bind_ns ns) g φ s X S) (fun e s' h=>h.cast fun σ q=>R.bind_exc q) fun vs bs σ1 g1 φ1 s1 e1 S1 X1 v1 sm1=>⟨?_,?_⟩
 ·obtain⟨k,hk,L⟩:=looks_keep (M:=Γ.M) (bg Γ.P) ((X.mono X1.sub).wd.keeps S1.inv.sub)
  exact⟨k,hk.elim .inl fun z=>.inr (.inl z),L⟩
 ·have ns1:=R.bind_ok ns e1
  split at ns1
  ·rename_i b
   have er:DU fa σ=.exc σ1:=by unfold DU;rw[e1];rfl
   cases v1 with|cons hv hn=>
   cases hn
   have X1':=X.mono X1.sub
   obtain⟨mg,mb,T⟩:=X1'.top
   refine ZA (X1'.wd.keeps S1.inv.sub) (T.keeps S1.inv.sub) (by have:=X1'.depth;lia) fun e s2 B=>wpAny_bind (wpAny_standAt (wpAny_pure ?_))
   obtain⟨oe,vs,z1,z2,z3,z4,z5⟩:=B.at_
   obtain⟨S2,X2,F⟩:=B.flight S1
   refine⟨e,oe,vs,rfl,B.keep _ _ (S1.inv.sub _ _ (X1'.wd _ _ (LM _))),z1,z2,z3,z5,σ1,er,g1,φ1,S2,X1.trans X2,F.weaken (Nat.le_refl _) X1.dead fun z0 z0=>rfl,sm1.trans B.same⟩
  ·exact absurd rfl ns1
noncomputable def NN(b:St→R AF):St→R AF:=fun σ=>match b σ with
 |.ok a σ=>.ok a σ
 |.exc σ=>.ok (.ret (.d (.bool true))) σ
 |.stuck=>.stuck
theorem bh{b:List Stmt}{fb:St→R AF}{np hp rp cp pos:Pos}{k:Nat}(hb:FB Γ sc b fb)(hl:sc.names.lookup (Str.ofString "BadListing")=some .globalImplicit):JF Γ sc (.Try b [.ExceptHandler (some (.Name (Str.ofString "BadListing") np)) none [.Return (some (.Constant (.bool true) k cp)) rp] hp] [] [] pos) (NN fb):=fun σ ns g φ s X S=>by
 refine At.ofEq (arm_exec_Try ..) (At.stand ?_)
 have nsb:fb σ≠.stuck:=fun e=>ns (by unfold NN;rw[e])
 refine wpAny_tryStmt_except (wpAny_mono (hb σ nsb g φ s X S) ?_ ?_)
 ·rintro f s1 ⟨a,σ1,e1,g1,φ1,S1,X1,v1,sm1⟩
  have er:NN fb σ=.ok a σ1:=by unfold NN;rw[e1]
  cases f<;>cases a<;>try exact v1.elim
  ·exact wpAny_execs_nil ⟨_,_,er,g1,φ1,S1,X1,trivial,sm1⟩
  ·exact⟨_,_,er,g1,φ1,S1,X1,trivial,sm1⟩
  ·exact⟨_,_,er,g1,φ1,S1,X1,trivial,sm1⟩
  ·exact⟨_,_,er,g1,φ1,S1,X1,v1,sm1⟩
 ·intro e s1 h
  refine Et.note (r':=fb σ) X (fun z0 z0 e=>e) h fun s2 h2 z0=>Et.fly h2 fun s3 h3 z0=>?_
  obtain⟨σ1,e1,g1,φ1,S1,X1,F,sm1⟩:=id h3
  have er:NN fb σ=.ok (.ret (.d (.bool true))) σ1:=by unfold NN;rw[e1]
  obtain⟨a,oe,vs,rfl,he,hc,_⟩:=id F
  have X1':=X.mono X1.sub
  refine wpAny_handleBy_cons ?_ (by intro z;cases z)
  refine codeAny_handlers_test ?_
  obtain⟨mg,mb,T⟩:=X1'.top
  have T':=T.keeps S1.inv.sub
  have XK:=X1'.wd.keeps S1.inv.sub
  refine Name_function_global (by rw[X.sce];exact X.kind) (by show Γ.env.scope.names.lookup _=_;rw[X.sce];exact hl) (loadGlobal_global (env:=Γ.env) (by rw[X.gl];exact T'.g) (mg_of XK T'.g (Rr _)) ?_) (by decide)
  obtain⟨hp3,ge,dr,tk,os⟩:=s3
  refine wpAny_excMatches_sub_self (XK _ _ (LM _)) he hc (by decide) ?_
  show codeAny _ _ _ _ _
  refine codeAny_handlers_suite (Et.fly h3 fun s4 h4 z0=>?_)
  obtain⟨σ4,e4,g4,φ4,S4,X4,F4,sm4⟩:=h4
  rw[e1] at e4;cases e4
  refine wpAny_execs_cons (wpAny_Return_some ?_)
  show wpAny _ _ (Pure.pure (Value.bool true)) _ _ _
  exact wpAny_pure ⟨_,_,er,g4,φ4,S4,X4,Rd.bool _,sm4⟩
end
section
variable {Γ:BO} {sc:Scope}
noncomputable def gd:AV→St→R AV
 |.d (.int i),σ=>.ok (.d (.int (-i))) σ
 |_,_=>.stuck
noncomputable def UQ(f:St→R AV):St→R AV:=fun σ=>(f σ).bind gd
theorem jE{e:Expr}{p:Pos}{f:St→R AV}(h:A1 Γ sc e f):A1 Γ sc (.UnaryOp .USub e p) (UQ f):=fun σ ns g φ s X S=>by
 refine At.ofEq (arm_eval_UnaryOp ..) ?_
 refine At.bind (h σ (R.bind_ns ns) g φ s X S) fun va a σ1 g1 φ1 s1 e1 S1 X1 v1=>At.stand (At.hold ?_)
 have ns1:=R.bind_ok ns e1
 unfold gd at ns1 ⊢
 split at ns1
 ·cases v1 with|int i t=>exact At.still S1 (PyProof.Rows.neg_int ⟨rfl,⟨rfl,rfl⟩,.int _ _⟩)
 ·exact absurd rfl ns1
noncomputable def Rs(f:AU):AU:=fun bs cs=>match f bs cs with
 |.ok v cs'=>(match Tl cs.length cs' v with
   |some d=>if clo cs.length (cs'.take cs.length) then .ok (.d d) (cs'.take cs.length) else .stuck
   |none=>.stuck)
 |.exc cs'=>.exc cs'
 |.stuck=>.stuck
set_option tactic.hygienic true in
theorem ZB{a:Addr}{n:Nat}{f:AU}(h:LL a n f):LL a n (Rs f):=fun Γ sc g φ σ s vs bs hr X S hv ns=>by
 unfold Rs at ns ⊢
 have ns0:f bs σ.cs≠.stuck:=fun e=>by rw[e] at ns;exact ns rfl
 refine codeAny_mono (h Γ sc g φ σ s vs bs hr X S hv ns0) fun r s' q=>?_
 cases e:f bs σ.cs with
 |stuck=>exact absurd e ns0
 |exc cs'=>rw[e] at q;exact q
 |ok v cs'=>
  rw[e] at q ns
  dsimp only at ns ⊢
  rcases r with er|(_|_|_|w)
  ·obtain⟨_,z,_⟩:=q;cases z
  ·exact q
  ·exact q
  ·exact q
  ·obtain⟨b,σ',z,g',φ',S',X',v',sm'⟩:=q
   cases z
   split at ns
   ·rename_i d ed
    split at ns
    ·rename_i hc
     rw[if_pos hc]
     have len:(cs'.take σ.cs.length).length=σ.cs.length:=by rw[List.length_take];exact Nat.min_eq_left X'.len
     refine⟨_,_,rfl,_,φ',⟨S'.inv.freeze X'.len hc (LI S)⟩,?_,Xr S'.inv v' ed,sm'⟩
     show DH _ _ _ _ _ _ _ (cs'.take σ.cs.length).length _
     rw[len];exact X'.frz S'.inv
    ·exact absurd rfl ns
   ·exact absurd rfl ns
theorem js{n m:Nat}(hr:Γ.room=n)(h:Nat.ble (m+1) n=true):m+1≤Γ.room:=by rw[hr];exact Nat.le_of_ble_eq_true h
noncomputable abbrev Cb(Γ:BO)(l:List Str):Prop:=∀x∈l,(Γ.ba.lookup x).isSome=true
theorem sC{l:List Str}{x:Str}{p:Pos}(hb:Cb Γ l)(hl:sc.names.lookup x=some .cell)(hm:l.elem x=true)(hd:(x==("__debug__" :Str))=false):A1 Γ sc (.Name x p) (Aq x):=Xv hl (hb x (List.elem_iff.mp hm)) hd
theorem sV{x:Str}{p:Pos}(hl:sc.names.lookup x=some .local)(hd:(x==("__debug__" :Str))=false):A1 Γ sc (.Name x p) (AB x):=a5 hl hd
theorem tL{x:Str}{p:Pos}(hl:sc.names.lookup x=some .local):Hk Γ sc (.Name x p) (Az x):=UD (UC hl)
theorem tB{l:List Str}{x:Str}{p:Pos}(hb:Cb Γ l)(hl:sc.names.lookup x=some .cell)(hm:l.elem x=true):Hk Γ sc (.Name x p) (dv x):=UD (dw hl (hb x (List.elem_iff.mp hm)))
theorem sF{x:Str}{p pos:Pos}{args:List Expr}{a:Addr}{n m:Nat}{f:AU}{fa:St→R (List AV)}(hf:LL a m f)(hr:Γ.room=n)(ha:Em Γ sc pos args fa)(hn:Nat.ble (m+1) n=true)
  (hl:sc.names.lookup x=some .globalImplicit)(hk:∀P,nsIn (Kp pw P) mainGlobals x=some (some (.ref a)))(hat:∀P,keepIn (Kp pw P) (.ref a)=true)(hd:(x==("__debug__" :Str))=false):
  A1 Γ sc (.Call (.Name x p) args [] pos) (AN f fa):=
 Oq ha (Ht hl hk hd) fun σ g φ s vs bs X S v ns=>⟨by
  obtain⟨k,hk,L⟩:=looks_keep (M:=Γ.M) (hat Γ.P) (X.wd.keeps S.inv.sub)
  exact⟨k,hk.elim .inl fun z=>.inr (.inl z),L⟩,At.run hf (js hr hn) X S v ns⟩
theorem sB{x:Str}{p pos:Pos}{args:List Expr}{f:Value}{F:List AV→St→R AV}{fa:St→R (List AV)}(hK:∀M h,F3 M h f)(hc:JS Γ sc (fun vs=>call f vs) F)(ha:Em Γ sc pos args fa)
  (hl:sc.names.lookup x=some .globalImplicit)(hk:∀P,nsIn (Kp pw P) mainGlobals x=some none)(hv:bootBuiltins x=some f)(hn:x≠"__name__")(hd:(x==("__debug__" :Str))=false):
  A1 Γ sc (.Call (.Name x p) args [] pos) (BK F fa):=Wm ha hl hk hv hn hd hK hc
theorem sM{o:Expr}{name:Str}{apos pos:Pos}{args:List Expr}{a:Addr}{n m:Nat}{f:AU}{fd:FuncData}{fo:St→R AV}{fa:St→R (List AV)}(hf:LL a m f)(hr:Γ.room=n)(ho:A1 Γ sc o fo)(ha:Em Γ sc pos args fa)(hn:Nat.ble (m+1) n=true)
  (hat:∀P,List.lookup a (Kp pw P)=some ⟨.type "function",none,.func fd,List.toArray []⟩)(hfi:∀P,findIn (Kp pw P) (.ref 405) name=some (some (.ref a)))(hb:∀env whole,attributeBase o name env whole=whole)(hfew:∀env,methodCallForm args.length (backTo pos (starEach args env)) []=true)(hline:(apos.endLine==pos.line)=true):
  A1 Γ sc (.Call (.Attribute o name apos) args [] pos) (AO (isRd name) (Ad f) fo fa):=RQ ho ha (Yy hf (js hr hn) hat hfi) hb (hfew _) hline
theorem sD{o:Expr}{name:Str}{apos pos:Pos}{args:List Expr}{chk:List AK→AV→Bool}{F:AV→List AV→St→R AV}{fo:St→R AV}{fa:St→R (List AV)}(hm:Dh Γ sc name chk F)(ho:A1 Γ sc o fo)(ha:Em Γ sc pos args fa)
  (hb:∀env whole,attributeBase o name env whole=whole)(hfew:∀env,methodCallForm args.length (backTo pos (starEach args env)) []=true)(hline:(apos.endLine==pos.line)=true):
  A1 Γ sc (.Call (.Attribute o name apos) args [] pos) (AO chk F fo fa):=RQ ho ha hm hb (hfew _) hline
noncomputable abbrev Rv(Γ:BO)(sc:Scope):List Expr→List (St→R AV)→Prop:=Al (fun e f=>A1 Γ sc e f∧∀rest env,starEach (e::rest) env=(false,eval e env)::starEach rest env)
theorem e0:Rv Γ sc [] []:=.nil
theorem e1{e:Expr}{f:St→R AV}{es:List Expr}{fs:List (St→R AV)}(h:A1 Γ sc e f)(r:Rv Γ sc es fs)(hs:∀rest env,starEach (e::rest) env=(false,eval e env)::starEach rest env:=by intro _ _;rfl):Rv Γ sc (e::es) (f::fs):=.cons ⟨h,hs⟩ r
theorem t0:Gi Γ sc [] []:=.nil
theorem t1{e:Expr}{f:AV→St→R Unit}{es:List Expr}{fs:List (AV→St→R Unit)}(h:Hk Γ sc e f)(r:Gi Γ sc es fs)(hs:∀rest env,assignEach (e::rest) env=(false,assign e env)::assignEach rest env:=by intro _ _;rfl):Gi Γ sc (e::es) (f::fs):=.cons ⟨h,hs⟩ r
noncomputable def KM(scope sc:Scope)(ba:List Str):Bool:=scope.kind== .function&&scope.names.all fun x=>match x.2 with
 |.local=>scope.names.lookup x.1==some .local
 |.cell=>false
 |.free=>sc.names.lookup x.1==some .cell&&ba.elem x.1
 |_=>true
theorem L2{α:Type}{x:Str}:∀{l:List (Str×α)},x∉l.map (·.1)→l.lookup x=none
 |[],_=>rfl
 |(y,b)::l,h=>by
  rw[List.lookup_cons]
  have:x≠y:=fun e=>h (by rw[e];exact .head _)
  rw[show(x==y)=false from beq_eq_false_iff_ne.mpr this]
  exact L2 fun z=>h (.tail _ z)
theorem W5{scope:Scope}{l:List Str}(h:KM scope sc l=true)(hb:Cb Γ l):UK scope sc (Γ.ba.map (·.1)):=by
 unfold KM at h
 rw[Bool.and_eq_true,beq_iff_eq] at h
 refine⟨h.1,fun x hx e=>?_,fun x hx e=>?_,fun x hx e=>?_⟩<;>have q:=List.all_eq_true.mp h.2 x hx<;>rw[e] at q
 ·exact beq_iff_eq.mp q
 ·cases q
 ·simp only[Bool.and_eq_true,beq_iff_eq] at q
  refine⟨q.1,?_⟩
  have:=hb x.1 (List.elem_iff.mp q.2)
  by_cases z:x.1∈Γ.ba.map (·.1)
  ·exact z
  ·rw[L2 z] at this;cases this
theorem cP{l:List Str}{n:Nat}{scope:Scope}{elt tgt iter:Expr}{fi:St→R (List D)}{ft:AV→St→R Unit}{fe:St→R AV}(hr:Γ.room=n)(hb:Cb Γ l)(i:LC Γ sc iter tgt fi)
  (t:∀Γ:BO,Γ.room=n→Cb Γ l→Hk Γ (Hy scope sc) tgt ft)(e:∀Γ:BO,Γ.room=n→Cb Γ l→A1 Γ (Hy scope sc) elt fe)(ok:KM scope sc l=true)(s:∀env x,foldedSetIterable iter env x=pure x):Cy Γ sc scope elt tgt iter fi ft fe:=
 ⟨W5 ok hb,i,fun Γ' h1 h2=>t Γ' (h1.trans hr) (by unfold Cb;rw[h2];exact hb),fun Γ' h1 h2=>e Γ' (h1.trans hr) (by unfold Cb;rw[h2];exact hb),s⟩
theorem iN{e:Expr}{x:Str}{p:Pos}{f:St→R AV}(h:A1 Γ sc e f):LC Γ sc e (.Name x p) (A7 f):=Oy h (.inl fun z0 z0=>rfl)
noncomputable def Ex(f:St→R AV):St→R AV:=fun σ=>(f σ).bind fun v σ=>match v with|.d (.lst xs)=>.ok (.d (.lst xs)) σ|_=>.stuck
theorem jF{e:Expr}{f:St→R AV}(h:A1 Γ sc e f):A1 Γ sc e (Ex f):=fun σ ns g φ s X S=>by
 unfold Ex at ns ⊢
 refine At.ofEq (bind_pure (eval e Γ.env)).symm ?_
 refine At.bind (h σ (R.bind_ns ns) g φ s X S) fun va a σ1 g1 φ1 s1 e1 S1 X1 v1=>?_
 have ns1:=R.bind_ok ns e1
 split at ns1
 ·exact At.pure S1 v1
 ·exact absurd rfl ns1
theorem iT{e:Expr}{elts:List Expr}{k:Nat}{p:Pos}{f:St→R AV}(h:A1 Γ sc e f):LC Γ sc e (.Tuple elts k p) (A7 (Ex f)):=Oy (jF h) (.inr ⟨⟨_,_,_,rfl⟩,fun σ x σ' e=>by
 unfold Ex at e
 cases q:f σ with
 |exc=>rw[q] at e;cases e
 |stuck=>rw[q] at e;cases e
 |ok v τ=>
  rw[q] at e
  simp only[R.bind] at e
  split at e
  ·cases e;exact⟨_,rfl⟩
  ·cases e⟩)
theorem jG{p:Pos}(hl:sc.names.lookup (Str.ofString "HEX")=some .globalImplicit):A1 Γ sc (.Name (Str.ofString "HEX") p) (cF (.str DM)):=Ov (v:=.str (so DM) 646) hl (fun P=>by kernel_rfl) (fun P g X=>.str _ _) (by decide)
theorem jH{p:Pos}(hl:sc.names.lookup (Str.ofString "OPERATIONS")=some .globalImplicit):A1 Γ sc (.Name (Str.ofString "OPERATIONS") p) (cF (.lst ML)):=Ov hl YW (fun P g X=>dn X) (by decide)
theorem jJ{p:Pos}(hl:sc.names.lookup (Str.ofString "str")=some .globalImplicit)(hk:∀P,nsIn (Kp pw P) mainGlobals (Str.ofString "str")=some none):A1 Γ sc (.Name (Str.ofString "str") p) (cF (.ty "str")):=Wp (v:=.type "str") hl hk (by decide) (by decide) (fun P g=>.ty _) (by decide)
end
theorem jK{P:List Value→Prop}(h:P [])(vals:List Value)(e:vals.length=0):P vals:=by
 cases vals with
 |nil=>exact h
 |cons=>cases e
theorem ofS{P:List Value→Prop}{n:Nat}(h:∀a (r:List Value),r.length=n→P (a::r))(vals:List Value)(e:vals.length=n+1):P vals:=by
 cases vals with
 |nil=>cases e
 |cons a r=>exact h a r (Nat.succ.inj e)
theorem KN{P:List Value→Prop}(h:∀a,P [a]):∀vals:List Value,vals.length=1→P vals:=ofS fun a=>jK (P:=fun r=>P (a::r)) (h a)
theorem O3{P:List Value→Prop}(h:∀a b,P [a,b]):∀vals:List Value,vals.length=2→P vals:=ofS fun a=>KN (P:=fun r=>P (a::r)) (h a)
theorem io{P:List Value→Prop}(h:∀a b c,P [a,b,c]):∀vals:List Value,vals.length=3→P vals:=ofS fun a=>O3 (P:=fun r=>P (a::r)) (h a)
theorem j5{P:List Value→Prop}(h:∀a b c d,P [a,b,c,d]):∀vals:List Value,vals.length=4→P vals:=ofS fun a=>io (P:=fun r=>P (a::r)) (h a)
structure W(p:Prop):Prop where
 h:p
section
variable {Γ:BO} {sc:Scope}
noncomputable abbrev WE(Γ:BO)(sc:Scope)(e:Expr)(f:St→R AV):Prop:=W (A1 Γ sc e f)
noncomputable abbrev WB(Γ:BO)(sc:Scope)(e:Expr)(f:St→R Bool):Prop:=W (Gw Γ sc e f)
noncomputable abbrev Xk(Γ:BO)(sc:Scope)(p:Pos)(e:List Expr)(f:St→R (List AV)):Prop:=W (Em Γ sc p e f)
noncomputable abbrev WT(Γ:BO)(sc:Scope)(e:Expr)(f:AV→St→R Unit):Prop:=W (Hk Γ sc e f)
noncomputable abbrev WS(Γ:BO)(sc:Scope)(e:Stmt)(f:St→R AF):Prop:=W (JF Γ sc e f)
noncomputable abbrev WR(a:Addr)(n:Nat)(f:AU):Prop:=W (LL a n f)
noncomputable abbrev Xl(Γ:BO)(sc:Scope)(e:List Stmt)(f:St→R AF):Prop:=W (FB Γ sc e f)
variable {e e' e'' o i l m r t:Expr} {es ts:List Expr} {p p' p1 p2 pos:Pos} {k k':Nat} {f f' f'':St→R AV} {fs:List (St→R AV)} {fa:St→R (List AV)} {ft:AV→St→R Unit} {fts:List (AV→St→R Unit)} {fb:St→R Bool} {F G:AV→AV→St→R AV} {x:Str}
theorem wC{l:List Str}(hb:Cb Γ l)(hl:sc.names.lookup x=some .cell)(hm:l.elem x=true)(hd:(x==("__debug__" :Str))=false):WE Γ sc (.Name x p) (Aq x):=⟨sC hb hl hm hd⟩
theorem wV(hl:sc.names.lookup x=some .local)(hd:(x==("__debug__" :Str))=false):WE Γ sc (.Name x p) (AB x):=⟨sV hl hd⟩
theorem jL(hl:sc.names.lookup (Str.ofString "HEX")=some .globalImplicit):WE Γ sc (.Name (Str.ofString "HEX") p) (cF (.str DM)):=⟨jG hl⟩
theorem jM(hl:sc.names.lookup (Str.ofString "OPERATIONS")=some .globalImplicit):WE Γ sc (.Name (Str.ofString "OPERATIONS") p) (cF (.lst ML)):=⟨jH hl⟩
theorem jN(hl:sc.names.lookup (Str.ofString "str")=some .globalImplicit)(hk:∀P,nsIn (Kp pw P) mainGlobals (Str.ofString "str")=some none):WE Γ sc (.Name (Str.ofString "str") p) (cF (.ty "str")):=⟨jJ hl hk⟩
theorem jO(hl:sc.names.lookup x=some .local):WT Γ sc (.Name x p) (Az x):=⟨tL hl⟩
theorem jP{l:List Str}(hb:Cb Γ l)(hl:sc.names.lookup x=some .cell)(hm:l.elem x=true):WT Γ sc (.Name x p) (dv x):=⟨tB hb hl hm⟩
theorem jQ(T:Tk x)(ho:WE Γ sc o f):WT Γ sc (.Attribute o x p) (EE x f):=⟨dy T ho.h⟩
theorem jR(ho:WE Γ sc o f)(hi:WE Γ sc i f'):WT Γ sc (.Subscript o i p) (ci f f'):=⟨d0 ho.h hi.h⟩
theorem jS:W (Gi Γ sc [] []):=⟨t0⟩
theorem jT(h:WT Γ sc e ft)(r:W (Gi Γ sc es fts))(hs:∀rest env,assignEach (e::rest) env=(false,assign e env)::assignEach rest env:=by intro _ _;rfl):W (Gi Γ sc (e::es) (ft::fts)):=⟨t1 h.h r.h hs⟩
theorem d9(h:W (Gi Γ sc ts fts)):WT Γ sc (.Tuple ts k p) (Gj fts):=⟨Yc h.h⟩
theorem jU:W (Rv Γ sc [] []):=⟨e0⟩
theorem jV(h:WE Γ sc e f)(r:W (Rv Γ sc es fs))(hs:∀rest env,starEach (e::rest) env=(false,eval e env)::starEach rest env:=by intro _ _;rfl):W (Rv Γ sc (e::es) (f::fs)):=⟨e1 h.h r.h hs⟩
theorem FD(h:W (Rv Γ sc es fs)):Xk Γ sc p es (AD fs):=⟨YB h.h⟩
theorem eF{k}:WE Γ sc (.Constant .none k p) (cF .none):=⟨Xs⟩
theorem eG{b k}:WE Γ sc (.Constant (.bool b) k p) (cF (.bool b)):=⟨Xu⟩
theorem gf{i k}:WE Γ sc (.Constant (.int i) k p) (cF (.int i)):=⟨az⟩
theorem gg{op:Operator}(hl:WE Γ sc l f)(hr:WE Γ sc r f')(ho:Hc Γ sc (binaryOp op) F):WE Γ sc (.BinOp l op r p) (AG F f f'):=⟨a7 hl.h hr.h ho⟩
theorem jW(h:WE Γ sc e f):WE Γ sc (.UnaryOp .USub e p) (UQ f):=⟨jE h.h⟩
theorem gh{op:CmpOp}(hl:WE Γ sc l f)(hr:WE Γ sc r f')(ho:Hc Γ sc (compareOp op) F)(hm:behindInMarks op r=false):WE Γ sc (.Compare l [op] [r] p) (AG F f f'):=⟨a9 hl.h hr.h ho hm⟩
theorem bj{op op':CmpOp}(hl:WE Γ sc l f)(hk:WE Γ sc m f')(hr:WE Γ sc r f'')(ho:Hc Γ sc (compareOp op) F)(ho':Hc Γ sc (compareOp op') G)(hm:behindInMarks op' r=false):WE Γ sc (.Compare l [op,op'] [m,r] p) (M7 F G f f' f''):=⟨WZ hl.h hk.h hr.h ho ho' hm⟩
theorem eH{op:CmpOp}(hl:WE Γ sc l f)(hr:WE Γ sc r f')(ho:Hc Γ sc (compareOp op) F)(hm:behindInMarks op r=false):WB Γ sc (.Compare l [op] [r] p) (BQ (AG F f f')):=⟨X9 hl.h hr.h ho hm⟩
theorem ZC{op op':CmpOp}(hl:WE Γ sc l f)(hk:WE Γ sc m f')(hr:WE Γ sc r f'')(ho:Hc Γ sc (compareOp op) F)(ho':Hc Γ sc (compareOp op') G)(hm:behindInMarks op' r=false):WB Γ sc (.Compare l [op,op'] [m,r] p) (JT F G f f' f''):=⟨To hl.h hk.h hr.h ho ho' hm⟩
theorem jX:W (Al (A1 Γ sc) [] []):=⟨.nil⟩
theorem jY(h:WE Γ sc e f)(r:W (Al (A1 Γ sc) es fs)):W (Al (A1 Γ sc) (e::es) (f::fs)):=⟨.cons h.h r.h⟩
theorem jZ:W (Al (Gw Γ sc) [] []):=⟨.nil⟩
theorem ja{fbs:List (St→R Bool)}(h:WB Γ sc e fb)(r:W (Al (Gw Γ sc) es fbs)):W (Al (Gw Γ sc) (e::es) (fb::fbs)):=⟨.cons h.h r.h⟩
theorem bk{op:BoolOp}(h:W (Al (A1 Γ sc) es fs)):WE Γ sc (.BoolOp op es p) (FA (Eu op) fs):=⟨Wc h.h⟩
theorem bm{op:BoolOp}{fbs:List (St→R Bool)}(h:W (Al (Gw Γ sc) es fbs)):WB Γ sc (.BoolOp op es p) (DL (Eu op) fbs):=⟨Wa h.h⟩
theorem eI(h:WB Γ sc e fb):WB Γ sc (.UnaryOp .Not e p) (K9 fb):=⟨X8 h.h⟩
theorem eJ(h:WE Γ sc e f)(he:∀env whole,isTrue e env whole=(do let v ←whole;standAt e.pos;holding [v] (truthy v)):=by intro _ _;rfl):WB Γ sc e (BQ f):=⟨X7 h.h he⟩
theorem gi(ht:WB Γ sc t fb)(hb:WE Γ sc e f)(ho:WE Γ sc e' f'):WE Γ sc (.IfExp t e e' p) (CG fb f f'):=⟨bE ht.h hb.h ho.h⟩
theorem eK(hv:WE Γ sc e f)(F:Ts x)(hb:∀env whole,attributeBase e x env whole=whole:=by intro _ _;rfl):WE Γ sc (.Attribute e x p) (AQ x f):=⟨YH hv.h F hb⟩
theorem jb:W (MK Γ sc none none):=⟨.none⟩
theorem jc(h:WE Γ sc e f):W (MK Γ sc (some e) (some f)):=⟨.some h.h⟩
theorem gj{lo hi:Option Expr}{fl fh:Option (St→R AV)}(hv:WE Γ sc e f)(hl:W (MK Γ sc lo fl))(hh:W (MK Γ sc hi fh)):WE Γ sc (.Subscript e (.Slice lo hi none p') p) (CD f fl fh):=⟨bM hv.h hl.h hh.h⟩
theorem gm(hv:WE Γ sc e f)(hi:WE Γ sc i f')(hs:∀o x,subscripted i false o x=operate [o,x] (getItem o x):=by intro _ _;rfl):WE Γ sc (.Subscript e i p) (AG Af f f'):=⟨bI hv.h hi.h hs⟩
theorem gp(h:Xk Γ sc p es fa):WE Γ sc (.Tuple es k p) (CU fa):=⟨bF h.h⟩
theorem gq(h:Xk Γ sc p es fa):WE Γ sc (.List es p) (Bi fa):=⟨bG h.h⟩
theorem eM(h:Xk Γ sc p es fa):WE Γ sc (.List es p) (KE fa):=⟨YC h.h⟩
theorem eO{pt:Pos}{elts:List Expr}(ha:Xk Γ sc pos es fa)(hl:sc.names.lookup (Str.ofString "enumerate")=some .globalImplicit)(hk:∀P,nsIn (Kp pw P) mainGlobals "enumerate"=some none):W (LC Γ sc (.Call (.Name "enumerate" p) es [] pos) (.Tuple elts k pt) (Hx fa)):=⟨Yr ha.h hl hk⟩
theorem jd(h:WE Γ sc e f):W (LC Γ sc e (.Name x p) (A7 f)):=⟨iN h.h⟩
theorem je{elts:List Expr}(h:WE Γ sc e f):W (LC Γ sc e (.Tuple elts k p) (A7 (Ex f))):=⟨iT h.h⟩
theorem jf{l:List Str}{n:Nat}{scope:Scope}{elt tgt iter:Expr}{fi:St→R (List D)}{fe:St→R AV}(hr:Γ.room=n)(hb:Cb Γ l)(i:W (LC Γ sc iter tgt fi))
  (t:∀Γ:BO,Γ.room=n→Cb Γ l→WT Γ (Hy scope sc) tgt ft)(e:∀Γ:BO,Γ.room=n→Cb Γ l→WE Γ (Hy scope sc) elt fe)(ok:KM scope sc l=true)(s:∀env x,foldedSetIterable iter env x=pure x):W (Cy Γ sc scope elt tgt iter fi ft fe):=
 ⟨cP hr hb i.h (fun Γ a b=>(t Γ a b).h) (fun Γ a b=>(e Γ a b).h) ok s⟩
section
variable {scope:Scope} {elt tgt iter:Expr} {fi:St→R (List D)} {fe:St→R AV}
theorem eP(K:W (Cy Γ sc scope elt tgt iter fi ft fe)):WE Γ sc (.ListComp elt [⟨tgt,iter,[],0⟩] scope pos) (Bg fi ft fe):=⟨Yv K.h⟩
theorem bp(K:W (Cy Γ sc scope elt tgt iter fi ft fe)):WE Γ sc (.ListComp elt [⟨tgt,iter,[],0⟩] scope pos) (Rl fi ft fe):=⟨W0 K.h⟩
theorem eQ{spos py:Pos}{y:Str}(K:W (Cy Γ sc scope elt tgt iter fi ft fe))(hy:sc.names.lookup y=some .local)(hs:∀env:Env,env.scope=sc→swapsWith (.ListComp elt [⟨tgt,iter,[],0⟩] scope pos) (some (.Name y py)) spos.line env=pure true):WS Γ sc (.Assign [.Name y py] (.ListComp elt [⟨tgt,iter,[],0⟩] scope pos) spos) (NM (Bg fi ft fe) y):=⟨Yw K.h hy hs⟩
end
theorem wF{a:Addr}{n m:Nat}{f:AU}(hf:WR a m f)(hr:Γ.room=n)(ha:Xk Γ sc pos es fa)(hn:Nat.ble (m+1) n=true)
  (hl:sc.names.lookup x=some .globalImplicit)(hk:∀P,nsIn (Kp pw P) mainGlobals x=some (some (.ref a)))(hat:∀P,keepIn (Kp pw P) (.ref a)=true)(hd:(x==("__debug__" :Str))=false):
  WE Γ sc (.Call (.Name x p) es [] pos) (AN f fa):=⟨sF hf.h hr ha.h hn hl hk hat hd⟩
theorem j6{f:Value}{F:List AV→St→R AV}(hK:∀M h,F3 M h f)(hc:JS Γ sc (fun vs=>call f vs) F)(ha:Xk Γ sc pos es fa)
  (hl:sc.names.lookup x=some .globalImplicit)(hk:∀P,nsIn (Kp pw P) mainGlobals x=some none)(hv:bootBuiltins x=some f)(hn:x≠"__name__")(hd:(x==("__debug__" :Str))=false):
  WE Γ sc (.Call (.Name x p) es [] pos) (BK F fa):=⟨sB hK hc ha.h hl hk hv hn hd⟩
theorem wM{apos:Pos}{a:Addr}{n m:Nat}{f:AU}{fd:FuncData}{fo:St→R AV}(hf:WR a m f)(hr:Γ.room=n)(ho:WE Γ sc o fo)(ha:Xk Γ sc pos es fa)(hn:Nat.ble (m+1) n=true)
  (hat:∀P,List.lookup a (Kp pw P)=some ⟨.type "function",none,.func fd,List.toArray []⟩)(hfi:∀P,findIn (Kp pw P) (.ref 405) x=some (some (.ref a)))(hb:∀env whole,attributeBase o x env whole=whole)(hfew:∀env,methodCallForm es.length (backTo pos (starEach es env)) []=true)(hline:(apos.endLine==pos.line)=true):
  WE Γ sc (.Call (.Attribute o x apos) es [] pos) (AO (isRd x) (Ad f) fo fa):=⟨sM hf.h hr ho.h ha.h hn hat hfi hb hfew hline⟩
theorem wD{apos:Pos}{chk:List AK→AV→Bool}{F:AV→List AV→St→R AV}{fo:St→R AV}(hm:Dh Γ sc x chk F)(ho:WE Γ sc o fo)(ha:Xk Γ sc pos es fa)
  (hb:∀env whole,attributeBase o x env whole=whole)(hfew:∀env,methodCallForm es.length (backTo pos (starEach es env)) []=true)(hline:(apos.endLine==pos.line)=true):
  WE Γ sc (.Call (.Attribute o x apos) es [] pos) (AO chk F fo fa):=⟨sD hm ho.h ha.h hb hfew hline⟩
variable {st:Stmt} {b b' rest:List Stmt} {g g':St→R AF}
theorem gr:Xl Γ sc [] BX:=⟨bT⟩
theorem gu(h:WS Γ sc st g):Xl Γ sc [st] g:=⟨bU h.h⟩
theorem eR(hf:WS Γ sc st g)(hh:Xl Γ sc rest g'):Xl Γ sc (st::rest) (AP g g'):=⟨Yd hf.h hh.h⟩
theorem eS(h:WE Γ sc e f)(hs:∀env,swapsWith e none p.line env=pure false:=by intro _;rfl):WS Γ sc (.Expr e p) (A0 f):=⟨Ye h.h hs⟩
theorem gv(h:WE Γ sc e f):WS Γ sc (.Return (some e) p) (A3 f):=⟨bV h.h⟩
theorem jg(ht:WB Γ sc t fb)(hb:Xl Γ sc b g)(ho:Xl Γ sc b' g'):WS Γ sc (.If t b b' p) (CG fb g g'):=⟨d3 ht.h hb.h ho.h⟩
theorem bq(ht:WB Γ sc t fb)(hb:Xl Γ sc b g):WS Γ sc (.While t b [] p) (CV fb g big):=⟨Wt ht.h hb.h⟩
theorem gw{fi:St→R (List D)}(hi:W (LC Γ sc e t fi))(ht:WT Γ sc t ft)(hb:Xl Γ sc b g)(hs:∀env x,foldedSetIterable e env x=pure x:=by intro _ _;rfl):WS Γ sc (.For t e b [] p) (EF fi ft g):=⟨bX hi.h ht.h hb.h hs⟩
theorem eT{x:Str}{pp:Pos}(h:WE Γ sc e f)(ht:WT Γ sc (.Name x pp) ft)(hb:Xl Γ sc b g)(hs:∀env x,foldedSetIterable e env x=pure x:=by intro _ _;rfl):WS Γ sc (.For (.Name x pp) e b [] p) (UH f ft g):=⟨Yq h.h ht.h hb.h hs⟩
theorem br{cpos:Pos}(ha:Xk Γ sc cpos es fa)(hl:sc.names.lookup (Str.ofString "BadListing")=some .globalImplicit)(h1:es.length=1):WS Γ sc (.Raise (some (.Call (.Name (Str.ofString "BadListing") p) es [] cpos)) none pos) (DU fa):=⟨W4 ha.h hl h1⟩
theorem gy{np hp rp cp:Pos}(hb:Xl Γ sc b g)(hl:sc.names.lookup (Str.ofString "BadListing")=some .globalImplicit):WS Γ sc (.Try b [.ExceptHandler (some (.Name (Str.ofString "BadListing") np)) none [.Return (some (.Constant (.bool true) k cp)) rp] hp] [] [] pos) (NN g):=⟨bh hb.h hl⟩
theorem gz(h:WE Γ sc e f)(ht:WT Γ sc t ft)(hs:NI t e p.line sc)(hst:∀env,assignEach [t] env=[(false,assign t env)]:=by intro _;rfl):WS Γ sc (.Assign [t] e p) (Ag f ft):=⟨bW h.h ht.h hs hst⟩
theorem eU(h:Xk Γ sc p2 es fa)(ht:W (Gi Γ sc ts fts))(hs:NI (.Tuple ts k p1) (.Tuple es k' p2) p.line sc):WS Γ sc (.Assign [.Tuple ts k p1] (.Tuple es k' p2) p) (F9 fa fts):=⟨Yg h.h ht.h hs⟩
theorem jh:W (Al (NH Γ sc) [] []):=⟨.nil⟩
theorem ji{xs:List Str}(hl:sc.names.lookup x=some .local)(r:W (Al (NH Γ sc) xs fts)):W (Al (NH Γ sc) (x::xs) (Az x::fts)):=⟨.cons (UC hl) r.h⟩
theorem eV{names:List Str}(h:Xk Γ sc p2 es fa)(ht:W (Al (NH Γ sc) names.reverse fts))(hs:∀env:Env,env.scope=sc→swapsWith (.Tuple es k' p2) (some t) p.line env=pure false∧swappedStores [t] (.Tuple es k' p2) env=pure (some names)):WS Γ sc (.Assign [t] (.Tuple es k' p2) p) (KH fa fts):=⟨Yh h.h ht.h hs⟩
structure AR(F:Fn)(n:Nat)(B:St→R AF):Prop where
 h:∀Γ:BO,Γ.room=n→(∀x∈Hf (BR F.s).names [],(Γ.ba.lookup x).isSome=true)→Xl Γ (BR F.s) (JH F.s) B
theorem AR.run{F:Fn}(K:Bb F){n:Nat}{B:St→R AF}(h:AR F n B)(fz:Bool):WR F.a n (Ar F fz B):=⟨bc K (fun Γ a b=>(h.h Γ a b).h) fz⟩
theorem W.mono{a:Addr}{n m:Nat}{f:AU}(h:WR a n f)(l:n≤m):WR a m f:=⟨h.h.mono l⟩
theorem Rx{a n:Nat}:WR a n (fun z0 z0=>.stuck):=⟨fun Γ sc g φ σ s vs bs hr X S hv ns=>absurd rfl ns⟩
theorem eW{a n:Nat}{f:AU}(h:WR a n f):WR a n (Rs f):=⟨ZB h.h⟩
end
noncomputable def Ok{α:Type}(P:α→Prop)(o:Option α):Prop:=∀a,o=some a→P a
section
variable {α β:Type} {P:α→Prop} {Q:β→Prop}
theorem Ok.bind{o:Option α}{k:α→Option β}(h:Ok P o)(q:∀a,P a→Ok Q (k a)):Ok Q (o.bind k):=fun b e=>by
 cases o with
 |none=>cases e
 |some a=>exact q a (h a rfl) b e
theorem Ok.some{a:α}(h:P a):Ok P (some a):=fun b e=>by cases e;exact h
theorem Ok.none:Ok P none:=fun b e=>nomatch e
theorem Ry{c:Bool}{o o':Option α}(h:c=true→Ok P o)(h':c=false→Ok P o'):Ok P (cond c o o'):=by
 cases c
 ·exact h' rfl
 ·exact h rfl
theorem Rz{c:Bool}{o:Option α}(h:c=true→Ok P o):Ok P (cond c o none):=Ry h fun z0=>Ok.none
theorem cq{c:Bool}{o:Option α}(h:c=false→Ok P o):Ok P (cond c none o):=Ry (fun z0=>Ok.none) h
noncomputable def bw(a b:Option α):Option α:=match a with|some x=>some x|none=>b
theorem Ok.or{o o':Option α}(h:Ok P o)(h':Ok P o'):Ok P (bw o o'):=by
 cases o with
 |none=>exact h'
 |some a=>exact h
inductive FT(P:Str→α→Prop):List (Str×α)→Prop
 |nil:FT P []
 |cons {x:Str} {a:α} {l:List (Str×α)}:P x a→FT P l→FT P ((x,a)::l)
theorem FT.get{P:Str→α→Prop}{l:List (Str×α)}(h:FT P l)(x:Str):Ok (P x) (l.lookup x):=by
 induction h with
 |nil=>exact Ok.none
 |@cons y a l h _ ih=>
  intro b e
  rw[List.lookup_cons] at e
  cases q:x==y with
  |true=>rw[q] at e;cases e;rw[beq_iff_eq.mp q];exact h
  |false=>rw[q] at e;exact ih b e
end
structure DE where
 l:List Str
 fn:List (Str×AU)
 mt:List (Str×AU)
 mu:List (Nat×Nat)
 sp:Bool
 fm:Bool
noncomputable abbrev ZD(sc:Scope)(x:Str)(k:NameKind):Bool:=decide (sc.names.lookup x=some k)
noncomputable abbrev jt(x:Str):Bool:=x==("__debug__" :Str)
inductive GD(n:Nat)(x:Str)(f:AU):Prop
 |mk (a:Addr) (m:Nat):WR a m f→Nat.ble (m+1) n=true→(∀P,nsIn (Kp pw P) mainGlobals x=some (some (.ref a)))→(∀P,keepIn (Kp pw P) (.ref a)=true)→GD n x f
inductive Pm(n:Nat)(x:Str)(f:AU):Prop
 |mk (a:Addr) (m:Nat) (fd:FuncData):WR a m f→Nat.ble (m+1) n=true→(∀P,List.lookup a (Kp pw P)=some ⟨.type "function",none,.func fd,List.toArray []⟩)→(∀P,findIn (Kp pw P) (.ref 405) x=some (some (.ref a)))→Pm n x f
inductive jj(x:Str)(F:List AV→St→R AV):Prop
 |mk (f:Value):(∀M h,F3 M h f)→(∀Γ sc,JS Γ sc (fun vs=>call f vs) F)→(∀P,nsIn (Kp pw P) mainGlobals x=some none)→bootBuiltins x=some f→x≠"__name__" →jj x F
noncomputable abbrev j7(x:Str)(p:(List AK→AV→Bool)×(AV→List AV→St→R AV)):Prop:=∀Γ sc,Dh Γ sc x p.1 p.2
noncomputable def bt:List (Str×(List AV→St→R AV)):=[("len",BA),("ord",Pc),("chr",Wn),("str",Ew),("abs",bP),("int",bQ),("hex",YM),("isinstance",F8),("all",Wr),("range",Bw)]
theorem g7:FT jj bt:=
 have k {x:Str} {f F} (a:∀M h,F3 M h f) (b:∀Γ sc,JS Γ sc (fun vs=>call f vs) F) (c:∀P,nsIn (Kp pw P) mainGlobals x=some none) (d:bootBuiltins x=some f) (e:x≠"__name__"):jj x F:=⟨f,a,b,c,d,e⟩
 .cons (k (fun z0 z0=>BZ) (fun z0 z0=>de) (fun P=>by kernel_rfl) (by kernel_rfl) (by decide))<|
 .cons (k (fun z0 z0=>BZ) (fun z0 z0=>df) (fun P=>by kernel_rfl) (by kernel_rfl) (by decide))<|
 .cons (k (fun z0 z0=>BZ) (fun z0 z0=>dg) (fun P=>by kernel_rfl) (by kernel_rfl) (by decide))<|
 .cons (k (fun z0 z0=>G0) (fun z0 z0=>dh) (fun P=>by kernel_rfl) (by kernel_rfl) (by decide))<|
 .cons (k (fun z0 z0=>BZ) (fun z0 z0=>di) (fun P=>by kernel_rfl) (by kernel_rfl) (by decide))<|
 .cons (k (fun z0 z0=>G0) (fun z0 z0=>dj) (fun P=>by kernel_rfl) (by kernel_rfl) (by decide))<|
 .cons (k (fun z0 z0=>BZ) (fun z0 z0=>dk) (fun P=>by kernel_rfl) (by kernel_rfl) (by decide))<|
 .cons (k (fun z0 z0=>BZ) (fun z0 z0=>Wo) (fun P=>by kernel_rfl) (by kernel_rfl) (by decide))<|
 .cons (k (fun z0 z0=>BZ) (fun z0 z0=>dp) (fun P=>by kernel_rfl) (by kernel_rfl) (by decide))<|
 .cons (k (fun z0 z0=>G0) (fun z0 z0=>YX) (fun P=>by kernel_rfl) (by kernel_rfl) (by decide)) .nil
noncomputable def ju:Operator→Option (AV→AV→St→R AV)
 |.Add=>some As|.Sub=>some (Ay K8)|.Mult=>some (Ay JD)|.FloorDiv=>some (Ay M6)|.Mod=>some (Ay Ge)|.Pow=>some (Ay PV)
 |_=>none
theorem eX(op:Operator):Ok (fun F=>∀Γ sc,Hc Γ sc (binaryOp op) F) (ju op):=by
 cases op
 case Add=>exact .some fun z0 z0=>dZ
 case Sub=>exact .some fun z0 z0=>dT
 case Mult=>exact .some fun z0 z0=>dW
 case FloorDiv=>exact .some fun z0 z0=>dX
 case Mod=>exact .some fun z0 z0=>dU
 case Pow=>exact .some fun z0 z0=>dY
 all_goals exact .none
noncomputable def Tj{α:Type}(e:Expr)(nm:Str→Pos→Option α:=fun z0 z0=>none)(ct:Const→Nat→Pos→Option α:=fun z0 z0 z0=>none)(bi:Expr→Operator→Expr→Pos→Option α:=fun z0 z0 z0 z0=>none)(un:UnaryOp→Expr→Pos→Option α:=fun z0 z0 z0=>none)(cm:Expr→List CmpOp→List Expr→Pos→Option α:=fun z0 z0 z0 z0=>none)(bo:BoolOp→List Expr→Pos→Option α:=fun z0 z0 z0=>none)(ie:Expr→Expr→Expr→Pos→Option α:=fun z0 z0 z0 z0=>none)(ar:Expr→Str→Pos→Option α:=fun z0 z0 z0=>none)(sb:Expr→Expr→Pos→Option α:=fun z0 z0 z0=>none)(tu:List Expr→Nat→Pos→Option α:=fun z0 z0 z0=>none)(li:List Expr→Pos→Option α:=fun z0 z0=>none)(lc:Expr→List Comprehension→Scope→Pos→Option α:=fun z0 z0 z0 z0=>none)(ca:Expr→List Expr→List Keyword→Pos→Option α:=fun z0 z0 z0 z0=>none)(sl:Option Expr→Option Expr→Option Expr→Pos→Option α:=fun z0 z0 z0 z0=>none):Option α:=
 @Expr.casesOn (fun z0=>Option α) e bo (fun z0 z0 z0=>none) bi un (fun z0 z0 z0 z0=>none) ie (fun z0 z0 z0=>none) (fun z0 z0 z0=>none) lc (fun z0 z0 z0 z0=>none) (fun z0 z0 z0 z0 z0=>none) (fun z0 z0 z0 z0=>none) (fun z0 z0=>none) (fun z0 z0=>none) (fun z0 z0=>none) cm ca (fun z0 z0 z0 z0=>none) (fun z0 z0=>none) ct ar sb (fun z0 z0=>none) nm li tu sl
theorem FG{α:Type}{Q:Expr→α→Prop}{e:Expr}{nm:Str→Pos→Option α}{ct:Const→Nat→Pos→Option α}{bi:Expr→Operator→Expr→Pos→Option α}{un:UnaryOp→Expr→Pos→Option α}{cm:Expr→List CmpOp→List Expr→Pos→Option α}{bo:BoolOp→List Expr→Pos→Option α}{ie:Expr→Expr→Expr→Pos→Option α}{ar:Expr→Str→Pos→Option α}{sb:Expr→Expr→Pos→Option α}{tu:List Expr→Nat→Pos→Option α}{li:List Expr→Pos→Option α}{lc:Expr→List Comprehension→Scope→Pos→Option α}{ca:Expr→List Expr→List Keyword→Pos→Option α}{sl:Option Expr→Option Expr→Option Expr→Pos→Option α}(hnm:∀a b,Ok (Q (.Name a b)) (nm a b))(hct:∀a b d,Ok (Q (.Constant a b d)) (ct a b d))(hbi:∀a b d f,Ok (Q (.BinOp a b d f)) (bi a b d f))(hun:∀a b d,Ok (Q (.UnaryOp a b d)) (un a b d))(hcm:∀a b d f,Ok (Q (.Compare a b d f)) (cm a b d f))(hbo:∀a b d,Ok (Q (.BoolOp a b d)) (bo a b d))(hie:∀a b d f,Ok (Q (.IfExp a b d f)) (ie a b d f))(har:∀a b d,Ok (Q (.Attribute a b d)) (ar a b d))(hsb:∀a b d,Ok (Q (.Subscript a b d)) (sb a b d))(htu:∀a b d,Ok (Q (.Tuple a b d)) (tu a b d))(hli:∀a b,Ok (Q (.List a b)) (li a b))(hlc:∀a b d f,Ok (Q (.ListComp a b d f)) (lc a b d f))(hca:∀a b d f,Ok (Q (.Call a b d f)) (ca a b d f))(hsl:∀a b d f,Ok (Q (.Slice a b d f)) (sl a b d f)):Ok (Q e) (Tj e nm ct bi un cm bo ie ar sb tu li lc ca sl):=
 @Expr.casesOn (fun e=>Ok (Q e) (Tj e nm ct bi un cm bo ie ar sb tu li lc ca sl)) e hbo (fun z0 z0 z0=>.none) hbi hun (fun z0 z0 z0 z0=>.none) hie (fun z0 z0 z0=>.none) (fun z0 z0 z0=>.none) hlc (fun z0 z0 z0 z0=>.none) (fun z0 z0 z0 z0 z0=>.none) (fun z0 z0 z0 z0=>.none) (fun z0 z0=>.none) (fun z0 z0=>.none) (fun z0 z0=>.none) hcm hca (fun z0 z0 z0 z0=>.none) (fun z0 z0=>.none) hct har hsb (fun z0 z0=>.none) hnm hli htu hsl
noncomputable def OU{α β:Type}(l:List α)(o:Option β):Option β:=match l with|[]=>o|_=>none
theorem Hz{α β:Type}{l:List α}{o:Option β}{P:β→Prop}(h:l=[]→Ok P o):Ok P (OU l o):=by
 cases l with
 |nil=>exact h rfl
 |cons=>exact .none
noncomputable def g8(e:Expr):Bool:=(Tj e (li:=fun es z0=>OU es (some ()))).isSome
noncomputable def eY(op:CmpOp)(nil:Bool):AV→AV→St→R AV:=match op with
 |.Eq=>C5|.NotEq=>cond nil JY Iq|.Lt=>CC fun a b=>decide (a<b)|.LtE=>CC fun a b=>decide (a≤b)|.Gt=>CC fun a b=>decide (a>b)|.GtE=>CC fun a b=>decide (b≤a)
 |.Is=>bD|.IsNot=>Tn|.In=>Ot|.NotIn=>JX
theorem LN{Γ:BO}{sc:Scope}(op:CmpOp)(nil:Bool):Hc Γ sc (compareOp op) (eY op nil):=by
 cases op
 ·exact gR
 ·cases nil
  ·exact gS
  ·exact YT
 ·exact gN
 ·exact gP
 ·exact gO
 ·exact gQ
 ·exact gT
 ·exact Xz
 ·exact gY
 ·exact YS
noncomputable def kd(e:Expr):Nat:=(Tj e (ca:=fun z0 z0 z0 z0=>some 1) (lc:=fun z0 z0 z0 z0=>some 2) (tu:=fun z0 z0 z0=>some 3) (cm:=fun z0 z0 z0 z0=>some 4) (bo:=fun z0 z0 z0=>some 4) (ie:=fun z0 z0 z0 z0=>some 4) (un:=fun z0 z0 z0=>some 4)).getD 0
structure gD(e:Expr):Prop where
 st:∀rest env,starEach (e::rest) env=(false,eval e env)::starEach rest env
 fs:∀env x,foldedSetIterable e env x=pure x
 sb:∀o x,subscripted e false o x=operate [o,x] (getItem o x)
 ab:Nat.beq (kd e) 1=false→∀x env whole,attributeBase e x env whole=whole
 sw:Nat.beq (kd e) 2=false→∀t line env,swapsWith e t line env=pure false
 ss:Nat.beq (kd e) 3=false→∀ts k p env,swappedStores [.Tuple ts k p] e env=pure none
 tv:Nat.beq (kd e) 4=false→∀env whole,isTrue e env whole=(do let v ←whole;standAt e.pos;holding [v] (truthy v))
structure GE(l:List Str)(n:Nat)(sc:Scope)(e:Expr)(f:St→R AV):Prop where
 p:gD e
 w:∀Γ:BO,Γ.room=n→Cb Γ l→WE Γ sc e f
noncomputable def KO(e:Expr):Option (Str×Pos):=Tj e (nm:=fun x p=>some (x,p))
noncomputable def UR(e:Expr):Option (List Expr×Nat×Pos):=Tj e (tu:=fun es k p=>some (es,k,p))
noncomputable def Vo(e:Expr):Option (Expr×List Comprehension×Scope×Pos):=Tj e (lc:=fun e g s p=>some (e,g,s,p))
noncomputable def ZE(e:Expr):Option (Expr×List Expr×List Keyword×Pos):=Tj e (ca:=fun f es k p=>some (f,es,k,p))
theorem Gk(e:Expr):Ok (fun q=>e=.Name q.1 q.2) (KO e):=FG (Q:=fun e (q:Str×Pos)=>e=.Name q.1 q.2) (fun z0 z0=>.some rfl) (fun z0 z0 z0=>.none) (fun z0 z0 z0 z0=>.none) (fun z0 z0 z0=>.none) (fun z0 z0 z0 z0=>.none) (fun z0 z0 z0=>.none) (fun z0 z0 z0 z0=>.none) (fun z0 z0 z0=>.none) (fun z0 z0 z0=>.none) (fun z0 z0 z0=>.none) (fun z0 z0=>.none) (fun z0 z0 z0 z0=>.none) (fun z0 z0 z0 z0=>.none) (fun z0 z0 z0 z0=>.none)
theorem Mm(e:Expr):Ok (fun q=>e=.Tuple q.1 q.2.1 q.2.2) (UR e):=FG (Q:=fun e (q:List Expr×Nat×Pos)=>e=.Tuple q.1 q.2.1 q.2.2) (fun z0 z0=>.none) (fun z0 z0 z0=>.none) (fun z0 z0 z0 z0=>.none) (fun z0 z0 z0=>.none) (fun z0 z0 z0 z0=>.none) (fun z0 z0 z0=>.none) (fun z0 z0 z0 z0=>.none) (fun z0 z0 z0=>.none) (fun z0 z0 z0=>.none) (fun z0 z0 z0=>.some rfl) (fun z0 z0=>.none) (fun z0 z0 z0 z0=>.none) (fun z0 z0 z0 z0=>.none) (fun z0 z0 z0 z0=>.none)
theorem R0(e:Expr):Ok (fun q=>e=.ListComp q.1 q.2.1 q.2.2.1 q.2.2.2) (Vo e):=FG (Q:=fun e (q:Expr×List Comprehension×Scope×Pos)=>e=.ListComp q.1 q.2.1 q.2.2.1 q.2.2.2) (fun z0 z0=>.none) (fun z0 z0 z0=>.none) (fun z0 z0 z0 z0=>.none) (fun z0 z0 z0=>.none) (fun z0 z0 z0 z0=>.none) (fun z0 z0 z0=>.none) (fun z0 z0 z0 z0=>.none) (fun z0 z0 z0=>.none) (fun z0 z0 z0=>.none) (fun z0 z0 z0=>.none) (fun z0 z0=>.none) (fun z0 z0 z0 z0=>.some rfl) (fun z0 z0 z0 z0=>.none) (fun z0 z0 z0 z0=>.none)
theorem R1(e:Expr):Ok (fun q=>e=.Call q.1 q.2.1 q.2.2.1 q.2.2.2) (ZE e):=FG (Q:=fun e (q:Expr×List Expr×List Keyword×Pos)=>e=.Call q.1 q.2.1 q.2.2.1 q.2.2.2) (fun z0 z0=>.none) (fun z0 z0 z0=>.none) (fun z0 z0 z0 z0=>.none) (fun z0 z0 z0=>.none) (fun z0 z0 z0 z0=>.none) (fun z0 z0 z0=>.none) (fun z0 z0 z0 z0=>.none) (fun z0 z0 z0=>.none) (fun z0 z0 z0=>.none) (fun z0 z0 z0=>.none) (fun z0 z0=>.none) (fun z0 z0 z0 z0=>.none) (fun z0 z0 z0 z0=>.some rfl) (fun z0 z0 z0 z0=>.none)
structure j8(t:Expr):Prop where
 st:∀rest env,assignEach (t::rest) env=(false,assign t env)::assignEach rest env
 ss:UR t=none→∀v env,swappedStores [t] v env=pure none
 sl:KO t=none→∀e g s p line env,swapsWith (.ListComp e g s p) (some t) line env=pure false
structure GT(l:List Str)(n:Nat)(sc:Scope)(t:Expr)(f:AV→St→R Unit):Prop where
 p:j8 t
 w:∀Γ:BO,Γ.room=n→Cb Γ l→WT Γ sc t f
noncomputable abbrev GB(l:List Str)(n:Nat)(sc:Scope)(e:Expr)(f:St→R Bool):Prop:=∀Γ:BO,Γ.room=n→Cb Γ l→WB Γ sc e f
structure jv(l:List Str)(n:Nat)(sc:Scope)(es:List Expr)(fs:List (St→R AV)):Prop where
 st:∀p env,(backTo p (starEach es env)).all (!·.1)=true
 w:∀Γ:BO,Γ.room=n→Cb Γ l→W (Rv Γ sc es fs)
 v:∀Γ:BO,Γ.room=n→Cb Γ l→W (Al (A1 Γ sc) es fs)
noncomputable def JG{α β:Type}(r:α→Option β):List α→Option (List β)
 |[]=>some []
 |e::es=>(r e).bind fun a=>(JG r es).bind fun as=>some (a::as)
theorem KQ{α β:Type}{r:α→Option β}{P:α→β→Prop}{Q:List α→List β→Prop}(h:∀a,Ok (P a) (r a))(q0:Q [] [])(q1:∀a b as bs,P a b→Q as bs→Q (a::as) (b::bs)):∀as,Ok (Q as) (JG r as)
 |[]=>.some q0
 |a::as=>.bind (h a) fun b hb=>.bind (KQ h q0 q1 as) fun bs hbs=>.some (q1 a b as bs hb hbs)
section
variable {l:List Str} {n:Nat} {sc:Scope}
theorem G4{r:Expr→Option (St→R AV)}(h:∀e,Ok (GE l n sc e) (r e))(es:List Expr):Ok (jv l n sc es) (JG r es):=
 KQ h ⟨fun z0 z0=>rfl,fun z0 z0 z0=>jU,fun z0 z0 z0=>jX⟩ (fun e f es fs he hs=>⟨fun p env=>by rw[he.p.st];exact hs.st p env,fun Γ a b=>jV (he.w Γ a b) (hs.w Γ a b) he.p.st,fun Γ a b=>jY (he.w Γ a b) (hs.v Γ a b)⟩) es
theorem ZF{r:Expr→Option (St→R Bool)}(h:∀e,Ok (GB l n sc e) (r e))(es:List Expr):Ok (fun fs=>∀Γ:BO,Γ.room=n→Cb Γ l→W (Al (Gw Γ sc) es fs)) (JG r es):=
 KQ (Q:=fun es fs=>∀Γ:BO,Γ.room=n→Cb Γ l→W (Al (Gw Γ sc) es fs)) h (fun z0 z0 z0=>jZ) (fun e f es fs he hs Γ a b=>ja (he Γ a b) (hs Γ a b)) es
theorem NO{r:Expr→Option (AV→St→R Unit)}(h:∀e,Ok (GT l n sc e) (r e))(es:List Expr):Ok (fun fs=>∀Γ:BO,Γ.room=n→Cb Γ l→W (Gi Γ sc es fs)) (JG r es):=
 KQ (Q:=fun es fs=>∀Γ:BO,Γ.room=n→Cb Γ l→W (Gi Γ sc es fs)) h (fun z0 z0 z0=>jS) (fun e f es fs he hs Γ a b=>jT (he.w Γ a b) (hs Γ a b) he.p.st) es
end
theorem eZ{Γ:BO}{sc:Scope}{s:Str}{k p}:WE Γ sc (.Constant (.str s) k p) (cF (.str s.cps.toList)):=⟨fun σ z0 g φ s' X S=>At.still S (Constant_str ⟨rfl,⟨rfl,rfl⟩,by
  have e:s=so s.cps.toList:=by cases s;simp
  have:Rd Γ.P g (.str (so s.cps.toList) s'.toks) (.str s.cps.toList):=Rd.str _ _
  rw[←e] at this;exact this⟩)⟩
noncomputable def g9:List Str:=["name","params","code","consts","units","handlers","lines","local_count","cell_count","captures","is_strict","uses_arguments","self_slot","arguments_place","param_places","at"]
noncomputable def ip:List Str:=g9
theorem ZG(a:Addr)(h:a=117∨a=405)(P:Params):g9.map (takerIn (Kp pw P) a)=g9.map fun z0=>some none:=by
 rcases h with rfl|rfl<;>kernel_rfl
theorem ZH(a:Addr)(h:a=117∨a=405)(P:Params):ip.map (findIn (Kp pw P) (.ref a))=ip.map fun z0=>some none:=by
 rcases h with rfl|rfl<;>kernel_rfl
theorem hO{x:Str}(h:g9.elem x=true):Tk x:=fun P=>⟨List.map_inj_left.mp (ZG 117 (.inl rfl) P) x (List.elem_iff.mp h),List.map_inj_left.mp (ZG 405 (.inr rfl) P) x (List.elem_iff.mp h)⟩
theorem hW{x:Str}(h:ip.elem x=true):Ts x:=fun P=>⟨List.map_inj_left.mp (ZH 117 (.inl rfl) P) x (List.elem_iff.mp h),List.map_inj_left.mp (ZH 405 (.inr rfl) P) x (List.elem_iff.mp h)⟩
noncomputable def j9(x:Str):Option (St→R AV):=cond (x=="HEX") (some (cF (.str DM))) (cond (x=="OPERATIONS") (some (cF (.lst ML))) (cond (x=="str") (some (cF (.ty "str"))) none))
noncomputable def cr(l:List Str)(sc:Scope)(x:Str):Option (St→R AV):=cond (jt x) none (cond (ZD sc x .local) (some (AB x)) (cond (ZD sc x .cell&&l.elem x) (some (Aq x)) (cond (ZD sc x .globalImplicit) (j9 x) none)))
section
variable {l:List Str} {n:Nat} {sc:Scope}
theorem NP{x p}:gD (.Name x p):=⟨fun z0 z0=>rfl,fun z0 z0=>rfl,fun z0 z0=>rfl,fun z0 z0 z0 z0=>rfl,fun z0 z0 z0 z0=>rfl,fun z0 z0 z0 z0 z0=>rfl,fun z0 z0 z0=>rfl⟩
theorem Fw{a b:Bool}(h:(a&&b)=true):a=true∧b=true:=Bool.and_eq_true_iff.mp h
theorem bz(x:Str)(p:Pos):Ok (GE l n sc (.Name x p)) (cr l sc x):=
 cq fun hd=>Ry (fun h=>.some ⟨NP,fun Γ a b=>wV (of_decide_eq_true h) hd⟩) fun z0=>
 Ry (fun h=>.some ⟨NP,fun Γ a b=>wC b (of_decide_eq_true (Fw h).1) (Fw h).2 hd⟩) fun z0=>Rz fun h=>
 Ry (fun e=>by rw[beq_iff_eq.mp e] at h ⊢;exact .some ⟨NP,fun Γ a b=>jL (of_decide_eq_true h)⟩) fun z0=>
 Ry (fun e=>by rw[beq_iff_eq.mp e] at h ⊢;exact .some ⟨NP,fun Γ a b=>jM (of_decide_eq_true h)⟩) fun z0=>
 Rz (fun e=>by rw[beq_iff_eq.mp e] at h ⊢;exact .some ⟨NP,fun Γ a b=>jN (of_decide_eq_true h) fun P=>by kernel_rfl⟩)
end
noncomputable def R2{α β:Type}(l:Option α)(o:α→Option β):Option β:=match l with|some a=>o a|none=>none
theorem Mn{α β:Type}{l:Option α}{o:α→Option β}{P:β→Prop}(h:∀a,l=some a→Ok P (o a)):Ok P (R2 l o):=by
 cases l with
 |some a=>exact h a rfl
 |none=>exact .none
noncomputable def US{α β:Type}(l:List α)(o:α→Option β):Option β:=match l with|[a]=>o a|_=>none
theorem LO{α β:Type}{l:List α}{o:α→Option β}{P:β→Prop}(h:∀a,l=[a]→Ok P (o a)):Ok P (US l o):=by
 match l with
 |[a]=>exact h a rfl
 |[]=>exact .none
 |_::_::_=>exact .none
noncomputable def fA{α β:Type}(l:List α)(o:α→α→Option β):Option β:=match l with|[a,b]=>o a b|_=>none
theorem ZI{α β:Type}{l:List α}{o:α→α→Option β}{P:β→Prop}(h:∀a b,l=[a,b]→Ok P (o a b)):Ok P (fA l o):=by
 match l with
 |[a,b]=>exact h a b rfl
 |[]=>exact .none
 |[_]=>exact .none
 |_::_::_::_=>exact .none
section
variable (l:List Str) (sc:Scope) (r:Expr→Option (St→R AV))
noncomputable def b4(inner:Expr→Option (AV→St→R Unit))(e:Expr):Option (AV→St→R Unit):=Tj e (nm:=fun x z0=>cond (ZD sc x .local) (some (Az x)) (cond (ZD sc x .cell&&l.elem x) (some (dv x)) none)) (ar:=fun o x z0=>cond (g9.elem x) ((r o).bind fun f=>some (EE x f)) none) (sb:=fun o i z0=>(r o).bind fun f=>(r i).bind fun g=>some (ci f g)) (tu:=fun es z0 z0=>(JG inner es).bind fun fs=>some (Gj fs))
noncomputable def ZJ:Expr→Option (AV→St→R Unit):=b4 l sc r (b4 l sc r (b4 l sc r fun z0=>none))
end
section
variable {l:List Str} {n:Nat} {sc:Scope} {r:Expr→Option (St→R AV)}
theorem Pn{inner:Expr→Option (AV→St→R Unit)}(hr:∀e,Ok (GE l n sc e) (r e))(hi:∀e,Ok (GT l n sc e) (inner e))(e:Expr):Ok (GT l n sc e) (b4 l sc r inner e):=FG (Q:=GT l n sc) (fun x p=>Ry (fun h=>.some ⟨⟨fun z0 z0=>rfl,fun z0 z0 z0=>rfl,fun h=>nomatch h⟩,fun Γ a b=>jO (of_decide_eq_true h)⟩) fun z0=>Rz fun h=>.some ⟨⟨fun z0 z0=>rfl,fun z0 z0 z0=>rfl,fun h=>nomatch h⟩,fun Γ a b=>jP b (of_decide_eq_true (Fw h).1) (Fw h).2⟩) (fun z0 z0 z0=>.none) (fun z0 z0 z0 z0=>.none) (fun z0 z0 z0=>.none) (fun z0 z0 z0 z0=>.none) (fun z0 z0 z0=>.none) (fun z0 z0 z0 z0=>.none) (fun o x p=>Rz fun h=>.bind (hr o) fun f hf=>.some ⟨⟨fun z0 z0=>rfl,fun z0 z0 z0=>rfl,fun z0 z0 z0 z0 z0 z0 z0=>rfl⟩,fun Γ a b=>jQ (hO h) (hf.w Γ a b)⟩) (fun o i p=>.bind (hr o) fun f hf=>.bind (hr i) fun g hg=>.some ⟨⟨fun z0 z0=>rfl,fun z0 z0 z0=>rfl,fun z0 z0 z0 z0 z0 z0 z0=>rfl⟩,fun Γ a b=>jR (hf.w Γ a b) (hg.w Γ a b)⟩) (fun es k p=>.bind (NO hi es) fun fs hfs=>.some ⟨⟨fun z0 z0=>rfl,fun h=>(nomatch h),fun z0 z0 z0 z0 z0 z0 z0=>rfl⟩,fun Γ a b=>d9 (hfs Γ a b)⟩) (fun z0 z0=>.none) (fun z0 z0 z0 z0=>.none) (fun z0 z0 z0 z0=>.none) (fun z0 z0 z0 z0=>.none)
theorem Po(hr:∀e,Ok (GE l n sc e) (r e))(e:Expr):Ok (GT l n sc e) (ZJ l sc r e):=Pn hr (Pn hr (Pn hr fun z0=>.none)) e
end
noncomputable def Vp{α β:Type}(l:Option α)(o:Option β):Option β:=match l with|none=>o|some _=>none
theorem Pp{α β:Type}{l:Option α}{o:Option β}{P:β→Prop}(h:l=none→Ok P o):Ok P (Vp l o):=by
 cases l with
 |none=>exact h rfl
 |some a=>exact .none
structure GI(l:List Str)(n:Nat)(sc:Scope)(e t:Expr)(f:St→R (List D)):Prop where
 p:∀env x,foldedSetIterable e env x=pure x
 w:∀Γ:BO,Γ.room=n→Cb Γ l→W (LC Γ sc e t f)
inductive GC(l:List Str)(n:Nat)(sc scope:Scope)(elt:Expr)(gs:List Comprehension)(q:(St→R (List D))×(AV→St→R Unit)×(St→R AV)):Prop
 |mk (tgt iter:Expr):gs=[⟨tgt,iter,[],0⟩]→(∀Γ:BO,Γ.room=n→Cb Γ l→W (Cy Γ sc scope elt tgt iter q.1 q.2.1 q.2.2))→GC l n sc scope elt gs q
noncomputable abbrev RE:=Scope→Expr→Option (St→R AV)
noncomputable abbrev RB:=Scope→Expr→Option (St→R Bool)
section
variable (Δ:DE) (r:RE) (rb:RB) (sc:Scope)
noncomputable def hY(t:Expr)(f:St→R AV):Option (St→R (List D)):=Tj t (nm:=fun z0 z0=>some (A7 f)) (tu:=fun z0 z0 z0=>some (A7 (Ex f)))
noncomputable def ZK(t e:Expr):Option (St→R (List D)):=
 bw ((ZE e).bind fun q=>(KO q.1).bind fun x=>(UR t).bind fun z0=>OU q.2.2.1 (cond (x.1=="enumerate" &&ZD sc x.1 .globalImplicit) ((JG (r sc) q.2.1).bind fun fs=>some (Hx (AD fs))) none))
  ((r sc e).bind (hY t))
noncomputable def UT(elt:Expr)(gs:List Comprehension)(scope:Scope):Option ((St→R (List D))×(AV→St→R Unit)×(St→R AV)):=
 US gs fun g=>match g with
  |⟨t,i,ifs,as⟩=>OU ifs (cond (as==0&&KM scope sc Δ.l) ((ZK r sc t i).bind fun fi=>(ZJ Δ.l (Hy scope sc) (r (Hy scope sc)) t).bind fun ft=>(r (Hy scope sc) elt).bind fun fe=>some (fi,ft,fe)) none)
noncomputable def fB(e:Expr)(ops:List CmpOp)(es:List Expr):Option ((St→R AV)×(St→R Bool)):=
 bw (US ops fun o=>US es fun m=>cond (behindInMarks o m) none ((r sc e).bind fun f=>(r sc m).bind fun g=>some (AG (eY o (g8 m)) f g,BQ (AG (eY o (g8 m)) f g))))
  (fA ops fun o o'=>fA es fun m k=>cond (behindInMarks o' k) none ((r sc e).bind fun f=>(r sc m).bind fun g=>(r sc k).bind fun h=>some (M7 (eY o false) (eY o' false) f g h,JT (eY o false) (eY o' false) f g h)))
noncomputable def cu(e:Expr):Bool:=(Tj e (nm:=fun x z0=>cond (x=="HEX") (some ()) none)).isSome
noncomputable def dm(hex:Bool):List (Str×(List AK→AV→Bool)×(AV→List AV→St→R AV)):=
 [("append",Fv,En Au),("extend",Fv,En KG),("pop",Fv,En RW),("join",JE,Gy Dd),("count",PZ,NC ND),("split",JE,cond Δ.sp (Gy NF) (Gy Gz)),("index",cond hex (JE,Gy Iu) (PZ,NC NE))]
noncomputable def hZ(x:Str)(fa:St→R (List AV)):Option (St→R AV):=
 cond (jt x) none (cond (ZD sc x .globalImplicit) (bw ((Δ.fn.lookup x).bind fun f=>some (AN f fa)) ((bt.lookup x).bind fun F=>some (BK F fa))) none)
noncomputable def h9(o:Expr)(x:Str)(fo:St→R AV)(fa:St→R (List AV)):Option (St→R AV):=
 bw ((Δ.mt.lookup x).bind fun f=>some (AO (isRd x) (Ad f) fo fa)) (((dm Δ (cu o)).lookup x).bind fun p=>some (AO p.1 p.2 fo fa))
noncomputable def cw(f:Expr)(es:List Expr)(ks:List Keyword)(pos:Pos):Option (St→R AV):=
 OU ks ((JG (r sc) es).bind fun fs=>Tj f (nm:=fun x z0=>hZ Δ sc x (AD fs)) (ar:=fun o x p=>cond (Nat.beq (kd o) 1) none (cond (p.endLine==pos.line&&Nat.blt es.length 30) ((r sc o).bind fun fo=>h9 Δ o x fo (AD fs)) none)))
noncomputable def fC(o:Option Expr):Option (Option (St→R AV)):=match o with
 |some e=>(r sc e).bind fun f=>some (some f)
 |none=>some none
noncomputable def iA(e i:Expr):Option (St→R AV):=
 bw (Tj i (sl:=fun lo hi st z0=>Vp st ((r sc e).bind fun f=>(fC r sc lo).bind fun a=>(fC r sc hi).bind fun b=>some (CD f a b)))) ((r sc e).bind fun f=>(r sc i).bind fun g=>some (AG Af f g))
noncomputable def mu(p:Pos):Bool:=Δ.mu.any fun q=>q.1==p.line&&q.2==p.col
noncomputable def fD(c:Const):Option (St→R AV):=match c with
 |.none=>some (cF .none)
 |.bool b=>some (cF (.bool b))
 |.int i=>some (cF (.int i))
 |.str s=>some (cF (.str s.cps.toList))
 |_=>none
noncomputable def cx(e:Expr):Option (St→R AV):=Tj e (nm:=fun x z0=>cr Δ.l sc x) (ct:=fun c z0 z0=>fD c) (bi:=fun a o b z0=>(r sc a).bind fun f=>(r sc b).bind fun g=>(ju o).bind fun F=>some (AG F f g)) (un:=fun o e z0=>cond (decide (o=.USub)) ((r sc e).bind fun f=>some (UQ f)) none) (cm:=fun e ops es z0=>(fB r sc e ops es).bind fun q=>some q.1) (bo:=fun o es z0=>(JG (r sc) es).bind fun fs=>some (FA (Eu o) fs)) (ie:=fun t a b z0=>(rb sc t).bind fun c=>(r sc a).bind fun f=>(r sc b).bind fun g=>some (CG c f g)) (ar:=fun e x z0=>cond (Nat.beq (kd e) 1) none (cond (ip.elem x) ((r sc e).bind fun f=>some (AQ x f)) none)) (sb:=fun e i z0=>iA r sc e i) (tu:=fun es z0 z0=>(JG (r sc) es).bind fun fs=>some (CU (AD fs))) (li:=fun es p=>(JG (r sc) es).bind fun fs=>some (cond (mu Δ p) (KE (AD fs)) (Bi (AD fs)))) (lc:=fun e gs s p=>(UT Δ r sc e gs s).bind fun q=>some (cond (mu Δ p) (Rl q.1 q.2.1 q.2.2) (Bg q.1 q.2.1 q.2.2))) (ca:=fun f es ks p=>cw Δ r sc f es ks p)
noncomputable def cy(e:Expr):Option (St→R Bool):=bw (Tj e (cm:=fun e ops es z0=>(fB r sc e ops es).bind fun q=>some q.2) (bo:=fun o es z0=>(JG (rb sc) es).bind fun fs=>some (DL (Eu o) fs)) (un:=fun o e z0=>cond (decide (o=.Not)) ((rb sc e).bind fun f=>some (K9 f)) none)) (cond (Nat.beq (kd e) 4) none ((r sc e).bind fun f=>some (BQ f)))
end
section
variable {l:List Str} {n:Nat} {Δ:DE} {r:RE} {rb:RB} (hr:∀sc e,Ok (GE Δ.l n sc e) (r sc e)) (hb:∀sc e,Ok (GB Δ.l n sc e) (rb sc e)) (hF:FT (GD n) Δ.fn) (hM:FT (Pm n) Δ.mt)
theorem cz{e i p}:gD (.Subscript e i p):=⟨fun z0 z0=>rfl,fun z0 z0=>rfl,fun z0 z0=>rfl,fun z0 z0 z0 z0=>rfl,fun z0 z0 z0 z0=>rfl,fun z0 z0 z0 z0 z0=>rfl,fun z0 z0 z0=>rfl⟩
include hr
theorem Vq(sc:Scope)(t e:Expr):Ok (GI Δ.l n sc e t) (ZK r sc t e):=
 .or (.bind (R1 e) fun q hq=>.bind (Gk q.1) fun x hx=>.bind (Mm t) fun u hu=>Hz fun hk=>Rz fun h=>.bind (G4 (hr sc) q.2.1) fun fs hfs=>.some (by
   rw[hq,hx,hk,hu]
   have h1:=beq_iff_eq.mp (Fw h).1
   have h2:=of_decide_eq_true (Fw h).2
   rw[h1] at h2 ⊢
   exact⟨fun z0 z0=>rfl,fun Γ a b=>eO (FD (hfs.w Γ a b)) h2 fun P=>by kernel_rfl⟩))
  (.bind (hr sc e) fun f hf=>FG (Q:=GI Δ.l n sc e) (fun x p=>.some ⟨hf.p.fs,fun Γ a b=>jd (hf.w Γ a b)⟩) (fun z0 z0 z0=>.none) (fun z0 z0 z0 z0=>.none) (fun z0 z0 z0=>.none) (fun z0 z0 z0 z0=>.none) (fun z0 z0 z0=>.none) (fun z0 z0 z0 z0=>.none) (fun z0 z0 z0=>.none) (fun z0 z0 z0=>.none) (fun es k p=>.some ⟨hf.p.fs,fun Γ a b=>je (hf.w Γ a b)⟩) (fun z0 z0=>.none) (fun z0 z0 z0 z0=>.none) (fun z0 z0 z0 z0=>.none) (fun z0 z0 z0 z0=>.none))
theorem R3(sc:Scope)(elt:Expr)(gs:List Comprehension)(scope:Scope):Ok (GC Δ.l n sc scope elt gs) (UT Δ r sc elt gs scope):=
 LO fun g hg=>by
  obtain⟨t,i,ifs,as⟩:=g
  refine Hz fun hi=>Rz fun h=>.bind (Vq hr sc t i) fun fi hfi=>.bind (Po (hr (Hy scope sc)) t) fun ft hft=>.bind (hr (Hy scope sc) elt) fun fe hfe=>.some ?_
  rw[hg,hi,beq_iff_eq.mp (Fw h).1]
  exact⟨t,i,rfl,fun Γ a b=>jf a b (hfi.w Γ a b) hft.w hfe.w (Fw h).2 hfi.p⟩
theorem ZL(sc:Scope)(e:Expr)(ops:List CmpOp)(es:List Expr)(p:Pos):Ok (fun q=>GE Δ.l n sc (.Compare e ops es p) q.1∧GB Δ.l n sc (.Compare e ops es p) q.2) (fB r sc e ops es):=
 have pl {ops es}:gD (.Compare e ops es p):=⟨fun z0 z0=>rfl,fun z0 z0=>rfl,fun z0 z0=>rfl,fun z0 z0 z0 z0=>rfl,fun z0 z0 z0 z0=>rfl,fun z0 z0 z0 z0 z0=>rfl,fun h=>Bool.noConfusion (h:true=false)⟩
 .or (LO fun o ho=>LO fun m hm=>cq fun h=>.bind (hr sc e) fun f hf=>.bind (hr sc m) fun g hg=>.some (by
   rw[ho,hm]
   exact⟨⟨pl,fun Γ a b=>gh (hf.w Γ a b) (hg.w Γ a b) (LN o _) h⟩,fun Γ a b=>eH (hf.w Γ a b) (hg.w Γ a b) (LN o _) h⟩))
  (ZI fun o o' ho=>ZI fun m k hm=>cq fun h=>.bind (hr sc e) fun f hf=>.bind (hr sc m) fun g hg=>.bind (hr sc k) fun q hq=>.some (by
   rw[ho,hm]
   exact⟨⟨pl,fun Γ a b=>bj (hf.w Γ a b) (hg.w Γ a b) (hq.w Γ a b) (LN o _) (LN o' _) h⟩,fun Γ a b=>ZC (hf.w Γ a b) (hg.w Γ a b) (hq.w Γ a b) (LN o _) (LN o' _) h⟩))
omit hr
theorem iB(hex:Bool):FT (fun x p=>j7 x p) (dm Δ hex):=
 .cons (fun z0 z0=>RU)<|.cons (fun z0 z0=>RV)<|.cons (fun z0 z0=>YK)<|.cons (fun z0 z0=>Wl)<|.cons (fun z0 z0=>Tu)<|
 .cons (fun z0 z0=>by cases Δ.sp;exact Tw;exact RX)<|.cons (fun z0 z0=>by cases hex;exact Tv;exact OR) .nil
theorem ZM{es:List Expr}{fs:List (St→R AV)}{sc:Scope}(h:jv Δ.l n sc es fs)(hl:Nat.blt es.length 30=true)(pos:Pos)(env:Env):methodCallForm es.length (backTo pos (starEach es env)) []=true:=by
 unfold methodCallForm
 rw[h.st pos env]
 exact decide_eq_true (Nat.le_of_ble_eq_true hl)
theorem Pq{f es k p}:gD (.Call f es k p):=⟨fun z0 z0=>rfl,fun z0 z0=>rfl,fun z0 z0=>rfl,fun h=>Bool.noConfusion (h:true=false),fun z0 z0 z0 z0=>rfl,fun z0 z0 z0 z0 z0=>rfl,fun z0 z0 z0=>rfl⟩
include hr hF hM
theorem b5(sc:Scope)(f:Expr)(es:List Expr)(ks:List Keyword)(pos:Pos):Ok (GE Δ.l n sc (.Call f es ks pos)) (cw Δ r sc f es ks pos):=
 Hz fun hk=>.bind (G4 (hr sc) es) fun fs hfs=>by
  rw[hk]
  exact FG (Q:=fun f=>GE Δ.l n sc (.Call f es [] pos)) (fun x p=>cq fun hd=>Rz fun h=>.or (.bind (hF.get x) fun f hf=>by
     obtain⟨a,m,h1,h2,h3,h4⟩:=hf
     exact .some ⟨Pq,fun Γ a b=>wF h1 a (FD (hfs.w Γ a b)) h2 (of_decide_eq_true h) h3 h4 hd⟩)
    (.bind (g7.get x) fun f hf=>by
     obtain⟨v,h1,h2,h3,h4,h5⟩:=hf
     exact .some ⟨Pq,fun Γ a b=>j6 h1 (h2 _ _) (FD (hfs.w Γ a b)) (of_decide_eq_true h) h3 h4 h5 hd⟩)) (fun z0 z0 z0=>.none) (fun z0 z0 z0 z0=>.none) (fun z0 z0 z0=>.none) (fun z0 z0 z0 z0=>.none) (fun z0 z0 z0=>.none) (fun z0 z0 z0 z0=>.none) (fun o x p=>cq fun hc=>Rz fun h=>.bind (hr sc o) fun fo ho=>.or (.bind (hM.get x) fun f hf=>by
     obtain⟨a,m,fd,h1,h2,h3,h4⟩:=hf
     exact .some ⟨Pq,fun Γ a b=>wM h1 a (ho.w Γ a b) (FD (hfs.w Γ a b)) h2 h3 h4 (ho.p.ab hc x) (ZM hfs (Fw h).2 pos) (Fw h).1⟩)
    (.bind ((iB (cu o)).get x) fun q hq=>.some ⟨Pq,fun Γ a b=>wD (hq _ _) (ho.w Γ a b) (FD (hfs.w Γ a b)) (ho.p.ab hc x) (ZM hfs (Fw h).2 pos) (Fw h).1⟩)) (fun z0 z0 z0=>.none) (fun z0 z0 z0=>.none) (fun z0 z0=>.none) (fun z0 z0 z0 z0=>.none) (fun z0 z0 z0 z0=>.none) (fun z0 z0 z0 z0=>.none)
omit hF hM
theorem ZN(sc:Scope)(o:Option Expr):Ok (fun f=>∀Γ:BO,Γ.room=n→Cb Γ Δ.l→W (MK Γ sc o f)) (fC r sc o):=by
 cases o with
 |none=>exact .some fun z0 z0 z0=>jb
 |some e=>exact .bind (hr sc e) fun f hf=>.some fun Γ a b=>jc (hf.w Γ a b)
theorem fE(sc:Scope)(e i:Expr)(p:Pos):Ok (GE Δ.l n sc (.Subscript e i p)) (iA r sc e i):=
 .or (FG (Q:=fun i=>GE Δ.l n sc (.Subscript e i p)) (fun z0 z0=>.none) (fun z0 z0 z0=>.none) (fun z0 z0 z0 z0=>.none) (fun z0 z0 z0=>.none) (fun z0 z0 z0 z0=>.none) (fun z0 z0 z0=>.none) (fun z0 z0 z0 z0=>.none) (fun z0 z0 z0=>.none) (fun z0 z0 z0=>.none) (fun z0 z0 z0=>.none) (fun z0 z0=>.none) (fun z0 z0 z0 z0=>.none) (fun z0 z0 z0 z0=>.none) (fun lo hi st q=>Pp fun hs=>.bind (hr sc e) fun f hf=>.bind (ZN hr sc lo) fun a ha=>.bind (ZN hr sc hi) fun b hb=>.some (by rw[hs];exact⟨cz,fun Γ x y=>gj (hf.w Γ x y) (ha Γ x y) (hb Γ x y)⟩)))
  (.bind (hr sc e) fun f hf=>.bind (hr sc i) fun g hg=>.some ⟨cz,fun Γ a b=>gm (hf.w Γ a b) (hg.w Γ a b) hg.p.sb⟩)
include hb hF hM
theorem ZO(sc:Scope)(e:Expr):Ok (GE Δ.l n sc e) (cx Δ r rb sc e):=FG (Q:=GE Δ.l n sc) (bz) (fun c k p=>by
  have pl:gD (.Constant c k p):=⟨fun z0 z0=>rfl,fun z0 z0=>rfl,fun z0 z0=>rfl,fun z0 z0 z0 z0=>rfl,fun z0 z0 z0 z0=>rfl,fun z0 z0 z0 z0 z0=>rfl,fun z0 z0 z0=>rfl⟩
  cases c with
  |none=>exact .some ⟨pl,fun z0 z0 z0=>eF⟩
  |bool b=>exact .some ⟨pl,fun z0 z0 z0=>eG⟩
  |int i=>exact .some ⟨pl,fun z0 z0 z0=>gf⟩
  |str s=>exact .some ⟨pl,fun z0 z0 z0=>eZ⟩
  |_=>exact .none) (fun x o y p=>.bind (hr sc x) fun f hf=>.bind (hr sc y) fun g hg=>.bind (eX o) fun F h=>.some ⟨⟨fun z0 z0=>rfl,fun z0 z0=>rfl,fun z0 z0=>rfl,fun z0 z0 z0 z0=>rfl,fun z0 z0 z0 z0=>rfl,fun z0 z0 z0 z0 z0=>rfl,fun z0 z0 z0=>rfl⟩,fun Γ a b=>gg (hf.w Γ a b) (hg.w Γ a b) (h _ _)⟩) (fun o x p=>Rz fun h=>.bind (hr sc x) fun f hf=>.some (by rw[of_decide_eq_true h];exact⟨⟨fun z0 z0=>rfl,fun z0 z0=>rfl,fun z0 z0=>rfl,fun z0 z0 z0 z0=>rfl,fun z0 z0 z0 z0=>rfl,fun z0 z0 z0 z0 z0=>rfl,fun h=>Bool.noConfusion (h:true=false)⟩,fun Γ a b=>jW (hf.w Γ a b)⟩)) (fun x ops es p=>.bind (ZL hr sc x ops es p) fun q hq=>.some hq.1) (fun o es p=>.bind (G4 (hr sc) es) fun fs hfs=>.some ⟨⟨fun z0 z0=>rfl,fun z0 z0=>rfl,fun z0 z0=>rfl,fun z0 z0 z0 z0=>rfl,fun z0 z0 z0 z0=>rfl,fun z0 z0 z0 z0 z0=>rfl,fun h=>Bool.noConfusion (h:true=false)⟩,fun Γ a b=>bk (hfs.v Γ a b)⟩) (fun t x y p=>.bind (hb sc t) fun c hc=>.bind (hr sc x) fun f hf=>.bind (hr sc y) fun g hg=>.some ⟨⟨fun z0 z0=>rfl,fun z0 z0=>rfl,fun z0 z0=>rfl,fun z0 z0 z0 z0=>rfl,fun z0 z0 z0 z0=>rfl,fun z0 z0 z0 z0 z0=>rfl,fun h=>Bool.noConfusion (h:true=false)⟩,fun Γ a b=>gi (hc Γ a b) (hf.w Γ a b) (hg.w Γ a b)⟩) (fun x m p=>cq fun hk=>Rz fun h=>.bind (hr sc x) fun f hf=>.some ⟨⟨fun z0 z0=>rfl,fun z0 z0=>rfl,fun z0 z0=>rfl,fun z0 z0 z0 z0=>rfl,fun z0 z0 z0 z0=>rfl,fun z0 z0 z0 z0 z0=>rfl,fun z0 z0 z0=>rfl⟩,fun Γ a b=>eK (hf.w Γ a b) (hW h) (hf.p.ab hk m)⟩) (fE hr sc) (fun es k p=>.bind (G4 (hr sc) es) fun fs hfs=>.some ⟨⟨fun z0 z0=>rfl,fun z0 z0=>rfl,fun z0 z0=>rfl,fun z0 z0 z0 z0=>rfl,fun z0 z0 z0 z0=>rfl,fun h=>Bool.noConfusion (h:true=false),fun z0 z0 z0=>rfl⟩,fun Γ a b=>gp (FD (hfs.w Γ a b))⟩) (fun es p=>.bind (G4 (hr sc) es) fun fs hfs=>.some ⟨⟨fun z0 z0=>rfl,fun z0 z0=>rfl,fun z0 z0=>rfl,fun z0 z0 z0 z0=>rfl,fun z0 z0 z0 z0=>rfl,fun z0 z0 z0 z0 z0=>rfl,fun z0 z0 z0=>rfl⟩,fun Γ a b=>by
  cases mu Δ p
  ·exact gq (FD (hfs.w Γ a b))
  ·exact eM (FD (hfs.w Γ a b))⟩) (fun x gs s p=>.bind (R3 hr sc x gs s) fun q hq=>by
  obtain⟨t,i,e,h⟩:=hq
  rw[e]
  exact .some ⟨⟨fun z0 z0=>rfl,fun z0 z0=>rfl,fun z0 z0=>rfl,fun z0 z0 z0 z0=>rfl,fun h=>Bool.noConfusion (h:true=false),fun z0 z0 z0 z0 z0=>rfl,fun z0 z0 z0=>rfl⟩,fun Γ a b=>by
   cases mu Δ p
   ·exact eP (h Γ a b)
   ·exact bp (h Γ a b)⟩) (b5 hr hF hM sc) (fun z0 z0 z0 z0=>.none)
omit hF hM
theorem ZP(sc:Scope)(e:Expr):Ok (GB Δ.l n sc e) (cy r rb sc e):=
 .or (FG (Q:=GB Δ.l n sc) (fun z0 z0=>.none) (fun z0 z0 z0=>.none) (fun z0 z0 z0 z0=>.none) (fun o x p=>Rz fun h=>.bind (hb sc x) fun f hf=>.some (by rw[of_decide_eq_true h];exact fun Γ a b=>eI (hf Γ a b))) (fun x ops es p=>.bind (ZL hr sc x ops es p) fun q hq=>.some hq.2) (fun o es p=>.bind (ZF (hb sc) es) fun fs hfs=>.some fun Γ a b=>bm (hfs Γ a b)) (fun z0 z0 z0 z0=>.none) (fun z0 z0 z0=>.none) (fun z0 z0 z0=>.none) (fun z0 z0 z0=>.none) (fun z0 z0=>.none) (fun z0 z0 z0 z0=>.none) (fun z0 z0 z0 z0=>.none) (fun z0 z0 z0 z0=>.none))
  (cq fun h=>.bind (hr sc e) fun f hf=>.some fun Γ a b=>eJ (hf.w Γ a b) (hf.p.tv h))
end
noncomputable def iq{α:Type}(s:Stmt)(ex:Expr→Pos→Option α:=fun z0 z0=>none)(rt:Option Expr→Pos→Option α:=fun z0 z0=>none)(iff:Expr→List Stmt→List Stmt→Pos→Option α:=fun z0 z0 z0 z0=>none)(wh:Expr→List Stmt→List Stmt→Pos→Option α:=fun z0 z0 z0 z0=>none)(fo:Expr→Expr→List Stmt→List Stmt→Pos→Option α:=fun z0 z0 z0 z0 z0=>none)(ra:Option Expr→Option Expr→Pos→Option α:=fun z0 z0 z0=>none)(tr:List Stmt→List ExceptHandler→List Stmt→List Stmt→Pos→Option α:=fun z0 z0 z0 z0 z0=>none)(sg:List Expr→Expr→Pos→Option α:=fun z0 z0 z0=>none):Option α:=
 @Stmt.casesOn (fun z0=>Option α) s (fun z0 z0 z0 z0 z0 z0 z0 z0 z0 z0=>none) (fun z0 z0 z0 z0 z0 z0 z0 z0 z0 z0=>none) (fun z0 z0 z0 z0 z0 z0 z0 z0 z0 z0 z0=>none) rt (fun z0 z0=>none) sg (fun z0 z0 z0 z0 z0 z0 z0=>none) (fun z0 z0 z0 z0=>none) (fun z0 z0 z0 z0 z0=>none) fo (fun z0 z0 z0 z0 z0=>none) wh iff (fun z0 z0 z0=>none) (fun z0 z0 z0=>none) (fun z0 z0 z0=>none) ra tr (fun z0 z0 z0 z0 z0=>none) (fun z0 z0 z0=>none) (fun z0 z0=>none) (fun z0 z0 z0 z0=>none) (fun z0 z0=>none) (fun z0 z0=>none) ex (fun z0=>none) (fun z0=>none) (fun z0=>none)
theorem ZQ{α:Type}{Q:Stmt→α→Prop}{s:Stmt}{ex:Expr→Pos→Option α}{rt:Option Expr→Pos→Option α}{iff:Expr→List Stmt→List Stmt→Pos→Option α}{wh:Expr→List Stmt→List Stmt→Pos→Option α}{fo:Expr→Expr→List Stmt→List Stmt→Pos→Option α}{ra:Option Expr→Option Expr→Pos→Option α}{tr:List Stmt→List ExceptHandler→List Stmt→List Stmt→Pos→Option α}{sg:List Expr→Expr→Pos→Option α}(hex:∀a b,Ok (Q (.Expr a b)) (ex a b))(hrt:∀a b,Ok (Q (.Return a b)) (rt a b))(hiff:∀a b d f,Ok (Q (.If a b d f)) (iff a b d f))(hwh:∀a b d f,Ok (Q (.While a b d f)) (wh a b d f))(hfo:∀a b d f g,Ok (Q (.For a b d f g)) (fo a b d f g))(hra:∀a b d,Ok (Q (.Raise a b d)) (ra a b d))(htr:∀a b d f g,Ok (Q (.Try a b d f g)) (tr a b d f g))(hsg:∀a b d,Ok (Q (.Assign a b d)) (sg a b d)):Ok (Q s) (iq s ex rt iff wh fo ra tr sg):=
 @Stmt.casesOn (fun s=>Ok (Q s) (iq s ex rt iff wh fo ra tr sg)) s (fun z0 z0 z0 z0 z0 z0 z0 z0 z0 z0=>.none) (fun z0 z0 z0 z0 z0 z0 z0 z0 z0 z0=>.none) (fun z0 z0 z0 z0 z0 z0 z0 z0 z0 z0 z0=>.none) hrt (fun z0 z0=>.none) hsg (fun z0 z0 z0 z0 z0 z0 z0=>.none) (fun z0 z0 z0 z0=>.none) (fun z0 z0 z0 z0 z0=>.none) hfo (fun z0 z0 z0 z0 z0=>.none) hwh hiff (fun z0 z0 z0=>.none) (fun z0 z0 z0=>.none) (fun z0 z0 z0=>.none) hra htr (fun z0 z0 z0 z0 z0=>.none) (fun z0 z0 z0=>.none) (fun z0 z0=>.none) (fun z0 z0 z0 z0=>.none) (fun z0 z0=>.none) (fun z0 z0=>.none) hex (fun z0=>.none) (fun z0=>.none) (fun z0=>.none)
noncomputable def jw(s:Stmt):Option (Option Expr×Pos):=iq s (rt:=fun e p=>some (e,p))
theorem fF(s:Stmt):Ok (fun q=>s=.Return q.1 q.2) (jw s):=ZQ (Q:=fun s (q:Option Expr×Pos)=>s=.Return q.1 q.2) (fun z0 z0=>.none) (fun z0 z0=>.some rfl) (fun z0 z0 z0 z0=>.none) (fun z0 z0 z0 z0=>.none) (fun z0 z0 z0 z0 z0=>.none) (fun z0 z0 z0=>.none) (fun z0 z0 z0 z0 z0=>.none) (fun z0 z0 z0=>.none)
noncomputable def jx(c:Const):Bool:=match c with
 |.bool b=>b
 |_=>false
theorem fG{c:Const}(h:jx c=true):c=.bool true:=by
 cases c with
 |bool b=>rw[show b=true from h]
 |_=>exact Bool.noConfusion (show false=true from h)
noncomputable def c7(e:Expr):Option (Nat×Pos):=Tj e (ct:=fun c k p=>cond (jx c) (some (k,p)) none)
theorem ZR(e:Expr):Ok (fun q=>e=.Constant (.bool true) q.1 q.2) (c7 e):=FG (Q:=fun e (q:Nat×Pos)=>e=.Constant (.bool true) q.1 q.2) (fun z0 z0=>.none) (fun c k p=>Rz fun h=>.some (by rw[fG h])) (fun z0 z0 z0 z0=>.none) (fun z0 z0 z0=>.none) (fun z0 z0 z0 z0=>.none) (fun z0 z0 z0=>.none) (fun z0 z0 z0 z0=>.none) (fun z0 z0 z0=>.none) (fun z0 z0 z0=>.none) (fun z0 z0 z0=>.none) (fun z0 z0=>.none) (fun z0 z0 z0 z0=>.none) (fun z0 z0 z0 z0=>.none) (fun z0 z0 z0 z0=>.none)
noncomputable def kB(sc:Scope):ScopeKind:=if sc.kind.isAnnotationScope then .function else sc.kind
noncomputable def iC(sc:Scope)(y:Str)(py:Pos)(scope:Scope)(pos:Pos):Bool:=
 kB sc== .function&&sc.names.lookup y==some .local&&py.line==pos.line&& !(scope.names.any fun x=>x.1==y&&(x.2== .local||x.2== .cell))
theorem jy{env:Env}{sc:Scope}(he:env.scope=sc){elt gs scope pos y py line}:swapsWith (.ListComp elt gs scope pos) (some (.Name y py)) line env=pure (iC sc y py scope pos):=by
 subst he
 rfl
noncomputable def ir(sc:Scope)(ts:List Expr):List Str:=ts.filterMap fun x=>swappedStores.match_8 (fun z0=>Option Str) x
 (fun id pos=>if sc.names.lookup id==some .local&&pos.line==(ts.head?.map (·.pos.line)).getD 0 then some id else none) fun z0=>none
noncomputable def jz(sc:Scope)(ts vs:List Expr):Option (Option (List Str)):=
 if !(ts.length==2||ts.length==3)||vs.length !=ts.length||kB sc != .function then some none
 else if vs.any fun x=>swappedStores.match_5 (fun z0=>Bool) x (fun z0 z0=>true) fun z0=>false then some none
 else if(ir sc ts).length !=ts.length||(ir sc ts).eraseDups.length !=(ir sc ts).length then some none
 else if vs.all (foldedForSure 8) then some none
 else if vs.all (constantsAlone 8) then none
 else some (some (ir sc ts))
theorem iu{c:Prop} [Decidable c]{Y:Sem (Option (List Str))}{S:Option (Option (List Str))}(h:Ok (fun o=>Y=pure o) S):Ok (fun o=>(if c then pure none else Y)=pure o) (if c then some none else S):=by
 by_cases z:c
 ·rw[if_pos z,if_pos z];exact .some rfl
 ·rw[if_neg z,if_neg z];exact h
theorem kA{c:Prop} [Decidable c]{X Y:Sem (Option (List Str))}{o:Option (List Str)}(h:Y=pure o):Ok (fun o=>(if c then X else Y)=pure o) (if c then none else some o):=by
 by_cases z:c
 ·rw[if_pos z,if_pos z];exact .none
 ·rw[if_neg z,if_neg z];exact .some h
theorem fH{env:Env}{ts vs k p k' p'}:Ok (fun o=>swappedStores [.Tuple ts k p] (.Tuple vs k' p') env=pure o) (jz env.scope ts vs):=
 iu (iu (iu (iu (kA rfl))))
section
variable (Δ:DE) (r:RE) (rb:RB) (sc:Scope)
noncomputable def nsB(t v:Expr):Bool:=
 (match UR t with|none=>true|some _=>!Nat.beq (kd v) 3)&&(!Nat.beq (kd v) 2||(match Vo v with
  |some q=>(match KO t with|some y=>!iC sc y.1 y.2 q.2.2.1 q.2.2.2|none=>true)
  |none=>false))
noncomputable def iD(x:Str):Option (AV→St→R Unit):=cond (ZD sc x .local) (some (Az x)) none
noncomputable def c9(ts vs:List Expr):Option (St→R AF):=(JG (r sc) vs).bind fun fs=>(jz sc ts vs).bind fun o=>match o with
 |none=>(JG (ZJ Δ.l sc (r sc)) ts).bind fun fts=>some (F9 (AD fs) fts)
 |some ns=>(JG (iD sc) ns.reverse).bind fun fts=>some (KH (AD fs) fts)
noncomputable def iE(t v:Expr):Option (St→R AF):=
 bw ((UR t).bind fun a=>(UR v).bind fun b=>c9 Δ r sc a.1 b.1)
  (bw ((KO t).bind fun y=>(Vo v).bind fun q=>cond (ZD sc y.1 .local&&iC sc y.1 y.2 q.2.2.1 q.2.2.2) ((UT Δ r sc q.1 q.2.1 q.2.2.1).bind fun f=>some (NM (Bg f.1 f.2.1 f.2.2) y.1)) none)
   ((r sc v).bind fun f=>(ZJ Δ.l sc (r sc) t).bind fun ft=>cond (nsB sc t v) (some (Ag f ft)) none))
noncomputable def ZS(e c:Option Expr):Option (St→R AF):=
 R2 e fun e=>Vp c ((ZE e).bind fun q=>(KO q.1).bind fun x=>OU q.2.2.1 (cond (x.1=="BadListing" &&ZD sc x.1 .globalImplicit&&Nat.beq q.2.1.length 1) ((JG (r sc) q.2.1).bind fun fs=>some (DU (AD fs))) none))
variable (rs:List Stmt→Option (St→R AF))
noncomputable def iF(b:List Stmt)(hs:List ExceptHandler)(e f:List Stmt):Option (St→R AF):=
 OU e (OU f (US hs fun h=>match h with
  |.ExceptHandler t n hb _=>Vp n (R2 t fun t=>(KO t).bind fun x=>US hb fun s=>(jw s).bind fun q=>R2 q.1 fun u=>(c7 u).bind fun z0=>
   cond (x.1=="BadListing" &&ZD sc x.1 .globalImplicit) ((rs b).bind fun g=>some (NN g)) none)))
noncomputable def dA(s:Stmt):Option (St→R AF):=iq s
 (fun e z0=>cond (Nat.beq (kd e) 2) none ((r sc e).bind fun f=>some (A0 f)))
 (fun o z0=>R2 o fun e=>(r sc e).bind fun f=>some (A3 f))
 (fun t b c z0=>(rb sc t).bind fun f=>(rs b).bind fun g=>(rs c).bind fun h=>some (CG f g h))
 (fun t b e z0=>OU e ((rb sc t).bind fun f=>(rs b).bind fun g=>some (CV f g big)))
 (fun t i b e z0=>OU e ((ZJ Δ.l sc (r sc) t).bind fun ft=>(rs b).bind fun g=>
   cond Δ.fm ((KO t).bind fun z0=>(r sc i).bind fun f=>some (UH f ft g)) ((ZK r sc t i).bind fun fi=>some (EF fi ft g))))
 (fun e c z0=>ZS r sc e c)
 (fun b hs e f z0=>iF sc rs b hs e f)
 (fun ts v z0=>US ts fun t=>iE Δ r sc t v)
end
noncomputable def Ps(s:Stmt→Option (St→R AF)):List Stmt→Option (St→R AF)
 |[]=>some BX
 |a::as=>(s a).bind fun g=>match as with
  |[]=>some g
  |_::_=>(Ps s as).bind fun h=>some (AP g h)
noncomputable abbrev GS(l:List Str)(n:Nat)(sc:Scope)(s:Stmt)(g:St→R AF):Prop:=∀Γ:BO,Γ.room=n→Cb Γ l→WS Γ sc s g
noncomputable abbrev j0(l:List Str)(n:Nat)(sc:Scope)(s:List Stmt)(g:St→R AF):Prop:=∀Γ:BO,Γ.room=n→Cb Γ l→Xl Γ sc s g
theorem NQ{l:List Str}{n:Nat}{sc:Scope}{s:Stmt→Option (St→R AF)}(h:∀a,Ok (GS l n sc a) (s a)):∀as,Ok (j0 l n sc as) (Ps s as)
 |[]=>.some fun z0 z0 z0=>gr
 |a::as=>.bind (h a) fun g hg=>match as,NQ h as with
  |[],_=>.some fun Γ a b=>gu (hg Γ a b)
  |_::_,ih=>.bind ih fun f hf=>.some fun Γ a b=>eR (hg Γ a b) (hf Γ a b)
section
variable {n:Nat} {Δ:DE} {r:RE} {rb:RB} {rs:List Stmt→Option (St→R AF)} {sc:Scope} (hr:∀sc e,Ok (GE Δ.l n sc e) (r sc e)) (hb:∀sc e,Ok (GB Δ.l n sc e) (rb sc e)) (hs:∀as,Ok (j0 Δ.l n sc as) (rs as))
include hr
theorem b6{k p k' p1 p2}(ts vs:List Expr):Ok (GS Δ.l n sc (.Assign [.Tuple ts k p] (.Tuple vs k' p1) p2)) (c9 Δ r sc ts vs):=
 .bind (G4 (hr sc) vs) fun fs hfs=>.bind (P:=fun o=>∀env:Env,env.scope=sc→swappedStores [.Tuple ts k p] (.Tuple vs k' p1) env=pure o) (fun o e env q=>by subst q;exact fH o e) fun o ho=>by
  cases o with
  |none=>exact .bind (NO (Po (hr sc)) ts) fun fts hft=>.some fun Γ a b=>eU (FD (hfs.w Γ a b)) (hft Γ a b) fun env q=>⟨rfl,ho env q⟩
  |some ns=>
   exact .bind (KQ (r:=iD sc) (P:=fun x f=>∀Γ:BO,∀xs fts,W (Al (NH Γ sc) xs fts)→W (Al (NH Γ sc) (x::xs) (f::fts))) (Q:=fun xs fts=>∀Γ:BO,W (Al (NH Γ sc) xs fts)) (fun x=>Rz fun h=>.some fun Γ xs fts w=>ji (of_decide_eq_true h) w) (fun z0=>jh) (fun z0 z0 z0 z0 h q Γ=>h Γ _ _ (q Γ)) ns.reverse) fun fts hft=>.some fun Γ a b=>eV (FD (hfs.w Γ a b)) (hft Γ) fun env q=>⟨rfl,ho env q⟩
theorem iG{t v:Expr}{f:St→R AV}{ft:AV→St→R Unit}(hv:GE Δ.l n sc v f)(ht:GT Δ.l n sc t ft)(h:nsB sc t v=true)(line:Nat):NI t v line sc:=fun env he=>by
 obtain⟨h1,h2⟩:=Fw h
 refine⟨?_,?_⟩
 ·cases q:Nat.beq (kd v) 2 with
  |false=>exact hv.p.sw q _ _ _
  |true=>
   rw[q] at h2
   cases qc:Vo v with
   |none=>rw[qc] at h2;cases h2
   |some c=>
    rw[qc] at h2
    rw[R0 v c qc]
    cases qn:KO t with
    |none=>exact ht.p.sl qn ..
    |some y=>
     rw[qn] at h2
     rw[Gk t y qn,jy he]
     cases z:iC sc y.1 y.2 c.2.2.1 c.2.2.2
     ·rfl
     ·have h2:(!iC sc y.1 y.2 c.2.2.1 c.2.2.2)=true:=h2
      rw[z] at h2;cases h2
 ·cases q:UR t with
  |none=>exact ht.p.ss q _ _
  |some u=>
   rw[q] at h1
   rw[Mm t u q]
   refine hv.p.ss ?_ ..
   have h1:(!Nat.beq (kd v) 3)=true:=h1
   exact Bool.not_eq_true' _▸h1
theorem fJ(t v:Expr)(p:Pos):Ok (GS Δ.l n sc (.Assign [t] v p)) (iE Δ r sc t v):=
 .or (.bind (Mm t) fun a ha=>.bind (Mm v) fun b hb=>by rw[ha,hb];exact b6 hr a.1 b.1)
  (.or (.bind (Gk t) fun y hy=>.bind (R0 v) fun q hq=>Rz fun h=>.bind (R3 hr sc q.1 q.2.1 q.2.2.1) fun f hf=>by
    obtain⟨tg,it,e,w⟩:=hf
    rw[hy,hq,e]
    refine .some fun Γ a b=>eQ (w Γ a b) (of_decide_eq_true (Fw h).1) fun env he=>?_
    rw[jy he,(Fw h).2])
   (.bind (hr sc v) fun f hf=>.bind (Po (hr sc) t) fun ft hft=>Rz fun h=>.some fun Γ a b=>gz (hf.w Γ a b) (hft.w Γ a b) (iG hr hf hft h _) (fun env=>hft.p.st [] env)))
theorem ZT(e c:Option Expr)(p:Pos):Ok (GS Δ.l n sc (.Raise e c p)) (ZS r sc e c):=
 Mn fun e he=>Pp fun hc=>.bind (R1 e) fun q hq=>.bind (Gk q.1) fun x hx=>Hz fun hk=>Rz fun h=>.bind (G4 (hr sc) q.2.1) fun fs hfs=>.some (by
  have h1:=beq_iff_eq.mp (Fw (Fw h).1).1
  have h2:=of_decide_eq_true (Fw (Fw h).1).2
  rw[he,hc,hq,hx,hk]
  rw[h1] at h2 ⊢
  exact fun Γ a b=>br (FD (hfs.w Γ a b)) h2 (Nat.eq_of_beq_eq_true (Fw h).2))
omit hr
include hs
theorem fK(b:List Stmt)(hds:List ExceptHandler)(e f:List Stmt)(p:Pos):Ok (GS Δ.l n sc (.Try b hds e f p)) (iF sc rs b hds e f):=
 Hz fun he=>Hz fun hf=>LO fun h hh=>by
  obtain⟨t,nm,hb,hp⟩:=h
  refine Pp fun hn=>Mn fun t ht=>.bind (Gk t) fun x hx=>LO fun s hs1=>.bind (fF s) fun q hq=>Mn fun u hu=>.bind (ZR u) fun v hv=>Rz fun h=>.bind (hs b) fun g hg=>.some ?_
  have h1:=beq_iff_eq.mp (Fw h).1
  have h2:=of_decide_eq_true (Fw h).2
  rw[he,hf,hh,hn,ht,hx,hs1,hq,hu,hv]
  rw[h1] at h2 ⊢
  exact fun Γ a b=>gy (hg Γ a b) h2
include hr hb
theorem ZU(s:Stmt):Ok (GS Δ.l n sc s) (dA Δ r rb sc rs s):=ZQ (Q:=GS Δ.l n sc)
 (fun e p=>cq fun h=>.bind (hr sc e) fun f hf=>.some fun Γ a b=>eS (hf.w Γ a b) (hf.p.sw h _ _))
 (fun o p=>Mn fun e he=>.bind (hr sc e) fun f hf=>.some (by rw[he];exact fun Γ a b=>gv (hf.w Γ a b)))
 (fun t b c p=>.bind (hb sc t) fun f hf=>.bind (hs b) fun g hg=>.bind (hs c) fun h hh=>.some fun Γ a b=>jg (hf Γ a b) (hg Γ a b) (hh Γ a b))
 (fun t b e p=>Hz fun he=>.bind (hb sc t) fun f hf=>.bind (hs b) fun g hg=>.some (by rw[he];exact fun Γ a b=>bq (hf Γ a b) (hg Γ a b)))
 (fun t i b e p=>Hz fun he=>.bind (Po (hr sc) t) fun ft hft=>.bind (hs b) fun g hg=>Ry (fun z0=>.bind (Gk t) fun x hx=>.bind (hr sc i) fun f hf=>.some (by rw[hx] at hft ⊢;rw[he];exact fun Γ a b=>eT (hf.w Γ a b) (hft.w Γ a b) (hg Γ a b) hf.p.fs))
   fun z0=>.bind (Vq hr sc t i) fun fi hfi=>.some (by rw[he];exact fun Γ a b=>gw (hfi.w Γ a b) (hft.w Γ a b) (hg Γ a b) hfi.p))
 (fun e c p=>ZT hr e c p)
 (fun b hds e f p=>fK hs b hds e f p)
 (fun ts v p=>LO fun t ht=>by rw[ht];exact fJ hr t v p)
end
noncomputable def b7(Δ:DE):Nat→RE×RB:=Nat.rec (fun z0 z0=>none,fun z0 z0=>none) fun z0 q=>(cx Δ q.1 q.2,cy q.1 q.2)
noncomputable def iH(Δ:DE)(sc:Scope):Nat→Stmt→Option (St→R AF):=Nat.rec (fun z0=>none) fun z0 s=>dA Δ (b7 Δ 24).1 (b7 Δ 24).2 sc (Ps s)
noncomputable def j3(Δ:DE)(F:Fn):Option (St→R AF):=Ps (iH Δ (BR F.s) 9) (JH F.s)
theorem fL{Δ:DE}{F:Fn}{n:Nat}{B:St→R AF}(hF:FT (GD n) Δ.fn)(hM:FT (Pm n) Δ.mt)(hl:Δ.l=Hf (BR F.s).names [])(h:j3 Δ F=some B):AR F n B:=by
 have he:∀k,(∀sc e,Ok (GE Δ.l n sc e) ((b7 Δ k).1 sc e))∧∀sc e,Ok (GB Δ.l n sc e) ((b7 Δ k).2 sc e):=fun k=>by
  induction k with
  |zero=>exact⟨fun z0 z0=>.none,fun z0 z0=>.none⟩
  |succ k ih=>exact⟨ZO ih.1 ih.2 hF hM,ZP ih.1 ih.2⟩
 have hs:∀k s,Ok (GS Δ.l n (BR F.s) s) (iH Δ (BR F.s) k s):=fun k=>by
  induction k with
  |zero=>exact fun z0=>.none
  |succ k ih=>exact ZU (he 24).1 (he 24).2 (NQ ih)
 exact⟨fun Γ a b=>NQ (hs 9) _ B h Γ a (by rw[hl];exact b)⟩
theorem EG{F:Fn}{n:Nat}{B:St→R AF}{fn mt:List (Str×AU)}(hF:FT (GD n) fn)(hM:FT (Pm n) mt)(mu:List (Nat×Nat):=[])(sp fm:Bool:=false)(h:j3 ⟨Hf (BR F.s).names [],fn,mt,mu,sp,fm⟩ F=some B:=by kernel_rfl):AR F n B:=fL hF hM rfl h
theorem EH{F:Fn}(h:∀vals:List Value,vals.length=F.names.length→bindArgs F.fd ⟨vals,[]⟩=pure (F.names.zip vals))
  (q:(∀P,List.lookup F.a (Kp pw P)=some ⟨.type "function",none,.func F.fd,List.toArray []⟩)∧(∀P,codeIn (Kp pw P) (.ref F.c) F.q=true)∧(BR F.s).kind=.function∧(BR F.s).isGenerator=false∧(BR F.s).isCoroutine=false∧(∀x∈F.names,(BR F.s).names.lookup x=some .local∨((BR F.s).names.lookup x=some .cell∧x∈Hf (BR F.s).names []))∧(Hf (BR F.s).names []).Nodup:=by exact⟨fun P=>by kernel_rfl,fun P=>by kernel_rfl,by kernel_rfl,by kernel_rfl,by kernel_rfl,by decide+kernel,by decide+kernel⟩):Bb F:=
 ⟨q.1,q.2.1,h,q.2.2.1,q.2.2.2.1,q.2.2.2.2.1,q.2.2.2.2.2.1,q.2.2.2.2.2.2⟩
theorem gF{n m:Nat}{a:Addr}{x:Str}{f:AU}(r:WR a m f)(h:Nat.ble (m+1) n=true)(k:(∀P,nsIn (Kp pw P) mainGlobals x=some (some (.ref a)))∧∀P,keepIn (Kp pw P) (.ref a)=true:=by exact⟨fun P=>by kernel_rfl,fun P=>by kernel_rfl⟩):GD n x f:=⟨a,m,r,h,k.1,k.2⟩
theorem gM{n m:Nat}{a:Addr}{x:Str}{f:AU}{fd:FuncData}(r:WR a m f)(h:Nat.ble (m+1) n=true)(q:∀P,List.lookup a (Kp pw P)=some ⟨.type "function",none,.func fd,List.toArray []⟩)(k:∀P,findIn (Kp pw P) (.ref 405) x=some (some (.ref a)):=by exact fun P=>by kernel_rfl):Pm n x f:=⟨a,m,fd,r,h,q,k⟩
theorem bl{a m b:Nat}(h:Nat.ble a b=true):Nat.ble a (m+b)=true:=Nat.ble_eq.mpr (Nat.le_trans (Nat.le_of_ble_eq_true h) (Nat.le_add_left ..))
section
variable {n:Nat}
noncomputable abbrev cS(x:String):St→R AV:=cF (.str (Str.ofString x).cps.toList)
noncomputable def H0:Fn:=⟨114,"__init__","Unit.__init__",Q5 pw 2 0,.str "js.codes" 187,113,["self","name","params"]⟩
theorem R4:Bb H0:=EH (io fun z0 z0 z0=>by kernel_rfl)
noncomputable def H3:St→R AF:=AP (Ag (AB "name") (EE "name" (AB "self")))
 (AP (Ag (AB "params") (EE "params" (AB "self")))
 (AP (Ag (KE (AD [])) (EE "code" (AB "self")))
 (AP (Ag (KE (AD [])) (EE "consts" (AB "self")))
 (AP (Ag (KE (AD [])) (EE "units" (AB "self")))
 (AP (Ag (KE (AD [])) (EE "handlers" (AB "self")))
 (AP (Ag (KE (AD [])) (EE "lines" (AB "self")))
 (AP (Ag (cF (.int 0)) (EE "local_count" (AB "self")))
 (AP (Ag (cF (.int 0)) (EE "cell_count" (AB "self")))
 (AP (Ag (Bi (AD [])) (EE "captures" (AB "self")))
 (AP (Ag (cF (.bool false)) (EE "is_strict" (AB "self")))
 (AP (Ag (cF (.bool false)) (EE "uses_arguments" (AB "self")))
 (AP (Ag (cF .none) (EE "self_slot" (AB "self")))
 (AP (Ag (cF .none) (EE "arguments_place" (AB "self")))
 (Ag (Bi (AD [])) (EE "param_places" (AB "self"))))))))))))))))
theorem R5:AR H0 0 H3:=EG .nil .nil (mu:=[(8,20),(9,22),(10,21),(11,24),(12,21)])
noncomputable def EI:AU:=Ar H0 false H3
theorem R6:WR 114 0 EI:=AR.run R4 R5 false
noncomputable def FH:AU:=be 117 EI
theorem ZV:WR 117 1 FH:=⟨Rn (.inl rfl) R6.h (fun P=>by kernel_rfl) fun P=>by kernel_rfl⟩
theorem ZW(h:Nat.ble 2 n=true):GD n "Unit" FH:=gF ZV h ⟨fun P=>by kernel_rfl,Vn⟩
theorem b8(h:Nat.ble 2 n=true):GD n "Unit" (Rs FH):=gF (eW ZV) h ⟨fun P=>by kernel_rfl,Vn⟩
noncomputable def LP:Fn:=⟨128,"op_name","op_name",ET pw 3,.str "js.codes" 187,127,["op"]⟩
theorem W6:Bb LP:=EH (KN fun z0=>by kernel_rfl)
noncomputable def LQ:St→R AF:=A3 (AG Af (AG Af (cF (.lst ML)) (AB "op")) (cF (.int 0)))
theorem W7:AR LP 0 LQ:=EG .nil .nil
noncomputable def E5:AU:=Ar LP true LQ
theorem W8:WR 128 0 E5:=AR.run W6 W7 true
theorem W9(h:Nat.ble 1 n=true):GD n "op_name" E5:=gF W8 h
noncomputable def JZ:Fn:=⟨135,"arg_kind","arg_kind",ET pw 4,.str "js.codes" 187,134,["op"]⟩
theorem UU:Bb JZ:=EH (KN fun z0=>by kernel_rfl)
noncomputable def Ja:St→R AF:=A3 (AG Af (AG Af (cF (.lst ML)) (AB "op")) (cF (.int 1)))
theorem UV:AR JZ 0 Ja:=EG .nil .nil
noncomputable def FJ:AU:=Ar JZ true Ja
theorem UW:WR 135 0 FJ:=AR.run UU UV true
theorem UX(h:Nat.ble 1 n=true):GD n "arg_kind" FJ:=gF UW h
noncomputable def Pt:Fn:=⟨142,"op_of","op_of",ET pw 5,.str "js.codes" 187,141,["name"]⟩
theorem b9:Bb Pt:=EH (KN fun z0=>by kernel_rfl)
noncomputable def Pu:St→R AF:=AP (EF (Hx (AD [cF (.lst ML)])) (Gj [Az "op",Az "row"])
 (CG (BQ (AG C5 (AG Af (AB "row") (cF (.int 0))) (AB "name")))
 (A3 (AB "op"))
 BX))
 (A3 (UQ (cF (.int 1))))
theorem cA:AR Pt 0 Pu:=EG .nil .nil
noncomputable def Iv:AU:=Ar Pt true Pu
theorem cB:WR 142 0 Iv:=AR.run b9 cA true
theorem cC(h:Nat.ble 1 n=true):GD n "op_of" Iv:=gF cB h
noncomputable def LR:Fn:=⟨149,"line_of","line_of",ET pw 6,.str "js.codes" 187,148,["unit","pc"]⟩
theorem XA:Bb LR:=EH (O3 fun z0 z0=>by kernel_rfl)
noncomputable def LS:St→R AF:=A3 (CG (JT (CC fun a b=>decide (a≤b)) (CC fun a b=>decide (a<b)) (cF (.int 0)) (AB "pc") (BK BA (AD [AQ "lines" (AB "unit")]))) (AG Af (AQ "lines" (AB "unit")) (AB "pc")) (cF (.int 0)))
theorem XB:AR LR 0 LS:=EG .nil .nil
noncomputable def E7:AU:=Ar LR true LS
theorem XC:WR 149 0 E7:=AR.run XA XB true
theorem XD(h:Nat.ble 1 n=true):GD n "line_of" E7:=gF XC h
noncomputable def Ea:Fn:=⟨156,"same_constant","same_constant",ET pw 7,.str "js.codes" 187,155,["one","other"]⟩
theorem MM:Bb Ea:=EH (O3 fun z0 z0=>by kernel_rfl)
noncomputable def Ec:St→R AF:=A3 (FA (Eu .And) [AG C5 (BK F8 (AD [AB "one",cF (.ty "str")])) (BK F8 (AD [AB "other",cF (.ty "str")])),AG C5 (AB "one") (AB "other")])
theorem MN:AR Ea 0 Ec:=EG .nil .nil
noncomputable def CM:AU:=Ar Ea true Ec
theorem MO:WR 156 0 CM:=AR.run MM MN true
theorem MP(h:Nat.ble 1 n=true):GD n "same_constant" CM:=gF MO h
noncomputable def D0:Fn:=⟨161,"same_constants","same_constants",ET pw 8,.str "js.codes" 187,160,["ones","others"]⟩
theorem LU:Bb D0:=EH (O3 fun z0 z0=>by kernel_rfl)
noncomputable def D1:St→R AF:=AP (CG (BQ (AG Iq (BK BA (AD [AB "ones"])) (BK BA (AD [Aq "others"]))))
 (A3 (cF (.bool false)))
 BX)
 (A3 (BK Wr (AD [Bg (Hx (AD [AB "ones"])) (Gj [Az "at",Az "one"]) (AN CM (AD [AB "one",AG Af (Aq "others") (AB "at")]))])))
theorem LV:AR D0 1 D1:=EG (.cons (MP rfl) .nil) .nil
noncomputable def Cc:AU:=Ar D0 true D1
theorem LW:WR 161 1 Cc:=AR.run LU LV true
theorem LX(h:Nat.ble 2 n=true):GD n "same_constants" Cc:=gF LW h
noncomputable def H4:Fn:=⟨168,"same_head","same_head",ET pw 9,.str "js.codes" 187,167,["one","other"]⟩
theorem R7:Bb H4:=EH (O3 fun z0 z0=>by kernel_rfl)
noncomputable def GF:St→R AF:=AP (CG (BQ (AG Iq (CU (AD [AQ "name" (AB "one"),AQ "params" (AB "one"),AQ "code" (AB "one"),AQ "handlers" (AB "one")])) (CU (AD [AQ "name" (AB "other"),AQ "params" (AB "other"),AQ "code" (AB "other"),AQ "handlers" (AB "other")]))))
 (A3 (cF (.bool false)))
 BX)
 (AP (CG (BQ (AG Iq (CU (AD [AQ "lines" (AB "one"),AQ "local_count" (AB "one"),AQ "cell_count" (AB "one")])) (CU (AD [AQ "lines" (AB "other"),AQ "local_count" (AB "other"),AQ "cell_count" (AB "other")]))))
 (A3 (cF (.bool false)))
 BX)
 (AP (CG (BQ (AG Iq (CU (AD [AQ "captures" (AB "one"),AQ "is_strict" (AB "one"),AQ "uses_arguments" (AB "one")])) (CU (AD [AQ "captures" (AB "other"),AQ "is_strict" (AB "other"),AQ "uses_arguments" (AB "other")]))))
 (A3 (cF (.bool false)))
 BX)
 (AP (CG (BQ (AG Iq (CU (AD [AQ "self_slot" (AB "one"),AQ "arguments_place" (AB "one")])) (CU (AD [AQ "self_slot" (AB "other"),AQ "arguments_place" (AB "other")]))))
 (A3 (cF (.bool false)))
 BX)
 (AP (CG (BQ (AG Iq (AQ "param_places" (AB "one")) (AQ "param_places" (AB "other"))))
 (A3 (cF (.bool false)))
 BX)
 (A3 (FA (Eu .And) [AN Cc (AD [AQ "consts" (AB "one"),AQ "consts" (AB "other")]),AG C5 (BK BA (AD [AQ "units" (AB "one")])) (BK BA (AD [AQ "units" (AB "other")]))]))))))
theorem R8:AR H4 2 GF:=EG (.cons (LX rfl) .nil) .nil
noncomputable def CP:AU:=Ar H4 true GF
theorem R9:WR 168 2 CP:=AR.run R7 R8 true
theorem SA(h:Nat.ble 3 n=true):GD n "same_head" CP:=gF R9 h
noncomputable def G5:Fn:=⟨175,"walk_units","walk_units",ET pw 10,.str "js.codes" 187,174,["unit"]⟩
theorem Pv:Bb G5:=EH (KN fun z0=>by kernel_rfl)
noncomputable def G6:St→R AF:=AP (KH (AD [KE (AD [AB "unit"]),KE (AD [])]) [Az "found",Az "waiting"])
 (AP (CV (BQ (AG (CC fun a b=>decide (a>b)) (BK BA (AD [AB "waiting"])) (cF (.int 0))))
 (AP (Ag (AO Fv (En RW) (AB "waiting") (AD [])) (Az "here"))
 (AP (A0 (AO Fv (En Au) (AB "found") (AD [AB "here"])))
 (EF (A7 (BK Bw (AD [AG (Ay K8) (BK BA (AD [AQ "units" (AB "here")])) (cF (.int 1)),UQ (cF (.int 1)),UQ (cF (.int 1))]))) (Az "at")
 (A0 (AO Fv (En Au) (AB "waiting") (AD [AG Af (AQ "units" (AB "here")) (AB "at")])))))) big)
 (A3 (AB "found")))
theorem Pw:AR G5 0 G6:=EG .nil .nil (mu:=[(51,22),(51,30)])
noncomputable def DA:AU:=Ar G5 true G6
theorem Px:WR 175 0 DA:=AR.run Pv Pw true
theorem Py(h:Nat.ble 1 n=true):GD n "walk_units" DA:=gF Px h
noncomputable def H5:Fn:=⟨180,"same_unit","same_unit",ET pw 11,.str "js.codes" 187,179,["one","other"]⟩
theorem SB:Bb H5:=EH (O3 fun z0 z0=>by kernel_rfl)
noncomputable def H6:St→R AF:=AP (F9 (AD [AN DA (AD [AB "one"]),AN DA (AD [AB "other"])]) [Az "ones",dv "others"])
 (AP (CG (BQ (AG Iq (BK BA (AD [AB "ones"])) (BK BA (AD [Aq "others"]))))
 (A3 (cF (.bool false)))
 BX)
 (A3 (BK Wr (AD [Bg (Hx (AD [AB "ones"])) (Gj [Az "at",Az "here"]) (AN CP (AD [AB "here",AG Af (Aq "others") (AB "at")]))]))))
theorem SD:AR H5 3 H6:=EG (.cons (SA rfl) (.cons (Py rfl) .nil)) .nil
noncomputable def Bh:AU:=Ar H5 true H6
theorem SE:WR 180 3 Bh:=AR.run SB SD true
theorem L3(h:Nat.ble 4 n=true):GD n "same_unit" Bh:=gF SE h
noncomputable def Jb:Fn:=⟨207,"hex_four","hex_four",ET pw 15,.str "js.listing" 644,206,["number"]⟩
theorem UY:Bb Jb:=EH (KN fun z0=>by kernel_rfl)
noncomputable def NR:St→R AF:=A3 (AG As (AG As (AG As (AG Af (cF (.str DM)) (AG (Ay M6) (AB "number") (cF (.int 4096)))) (AG Af (cF (.str DM)) (AG (Ay Ge) (AG (Ay M6) (AB "number") (cF (.int 256))) (cF (.int 16))))) (AG Af (cF (.str DM)) (AG (Ay Ge) (AG (Ay M6) (AB "number") (cF (.int 16))) (cF (.int 16))))) (AG Af (cF (.str DM)) (AG (Ay Ge) (AB "number") (cF (.int 16)))))
theorem UZ:AR Jb 0 NR:=EG .nil .nil
noncomputable def G7:AU:=Ar Jb true NR
theorem Ua:WR 207 0 G7:=AR.run UY UZ true
theorem Ub(h:Nat.ble 1 n=true):GD n "hex_four" G7:=gF Ua h
noncomputable def GP:Fn:=⟨214,"quoted_text","quoted_text",ET pw 16,.str "js.listing" 644,213,["text"]⟩
theorem OV:Bb GP:=EH (KN fun z0=>by kernel_rfl)
noncomputable def GQ:St→R AF:=AP (Ag (cS "") (Az "found"))
 (AP (EF (A7 (AB "text")) (Az "sign")
 (AP (Ag (BK Pc (AD [AB "sign"])) (Az "number"))
 (CG (DL (Eu .And) [JT (CC fun a b=>decide (a<b)) (CC fun a b=>decide (a<b)) (cF (.int 32)) (AB "number") (cF (.int 127)),BQ (AG Iq (AB "sign") (cS "\"")),BQ (AG Iq (AB "sign") (cS "\\"))])
 (Ag (AG As (AB "found") (AB "sign")) (Az "found"))
 (Ag (AG As (AG As (AB "found") (cS "\\u")) (AN G7 (AD [AB "number"]))) (Az "found")))))
 (A3 (AG As (AG As (cS "\"") (AB "found")) (cS "\""))))
theorem OW:AR GP 1 GQ:=EG (.cons (Ub rfl) .nil) .nil
noncomputable def CW:AU:=Ar GP true GQ
theorem OX:WR 214 1 CW:=AR.run OV OW true
theorem JK(h:Nat.ble 2 n=true):GD n "quoted_text" CW:=gF OX h
noncomputable def G8:Fn:=⟨228,"hex_number","hex_number",ET pw 18,.str "js.listing" 644,227,["word"]⟩
theorem Pz:Bb G8:=EH (KN fun z0=>by kernel_rfl)
noncomputable def G9:St→R AF:=AP (Ag (cF (.int 0)) (Az "number"))
 (AP (EF (A7 (AB "word")) (Az "sign")
 (AP (CG (BQ (AG JX (AB "sign") (cF (.str DM))))
 (A3 (UQ (cF (.int 1))))
 BX)
 (Ag (AG As (AG (Ay JD) (AB "number") (cF (.int 16))) (AO JE (Gy Iu) (cF (.str DM)) (AD [AB "sign"]))) (Az "number"))))
 (A3 (CG (BQ (AG C5 (BK BA (AD [AB "word"])) (cF (.int 4)))) (AB "number") (UQ (cF (.int 1))))))
theorem P0:AR G8 0 G9:=EG .nil .nil
noncomputable def DB:AU:=Ar G8 true G9
theorem P1:WR 228 0 DB:=AR.run Pz P0 true
theorem P2(h:Nat.ble 1 n=true):GD n "hex_number" DB:=gF P1 h
noncomputable def Ed:Fn:=⟨221,"unquoted_text","unquoted_text",ET pw 17,.str "js.listing" 644,220,["word"]⟩
theorem MQ:Bb Ed:=EH (KN fun z0=>by kernel_rfl)
noncomputable def Ee:St→R AF:=AP (CG (DL (Eu .Or) [BQ (AG (CC fun a b=>decide (a<b)) (BK BA (AD [AB "word"])) (cF (.int 2))),BQ (AG Iq (AG Af (AB "word") (cF (.int 0))) (cS "\"")),BQ (AG Iq (AG Af (AB "word") (UQ (cF (.int 1)))) (cS "\""))])
 (A3 (cF .none))
 BX)
 (AP (KH (AD [cS "",cF (.int 1),AG (Ay K8) (BK BA (AD [AB "word"])) (cF (.int 1))]) [Az "end",Az "at",Az "found"])
 (AP (CV (BQ (AG (CC fun a b=>decide (a<b)) (AB "at") (AB "end")))
 (CG (BQ (AG C5 (AG Af (AB "word") (AB "at")) (cS "\\")))
 (AP (Ag (AN DB (AD [CD (AB "word") (some (AG As (AB "at") (cF (.int 2)))) (some (AG As (AB "at") (cF (.int 6))))])) (Az "number"))
 (AP (CG (DL (Eu .Or) [BQ (AG Iq (AG Af (AB "word") (AG As (AB "at") (cF (.int 1)))) (cS "u")),BQ (AG (CC fun a b=>decide (a>b)) (AG As (AB "at") (cF (.int 6))) (AB "end")),BQ (AG (CC fun a b=>decide (a<b)) (AB "number") (cF (.int 0)))])
 (A3 (cF .none))
 BX)
 (AP (Ag (AG As (AB "found") (BK Wn (AD [AB "number"]))) (Az "found"))
 (Ag (AG As (AB "at") (cF (.int 6))) (Az "at")))))
 (CG (BQ (AG C5 (AG Af (AB "word") (AB "at")) (cS "\"")))
 (A3 (cF .none))
 (AP (Ag (AG As (AB "found") (AG Af (AB "word") (AB "at"))) (Az "found"))
 (Ag (AG As (AB "at") (cF (.int 1))) (Az "at"))))) big)
 (A3 (AB "found"))))
theorem MR:AR Ed 1 Ee:=EG (.cons (P2 rfl) .nil) .nil
noncomputable def Cu:AU:=Ar Ed true Ee
theorem MS:WR 221 1 Cu:=AR.run MQ MR true
theorem MT(h:Nat.ble 2 n=true):GD n "unquoted_text" Cu:=gF MS h
noncomputable def FK:Fn:=⟨233,"plain_number","plain_number",ET pw 19,.str "js.listing" 644,232,["word"]⟩
theorem NS:Bb FK:=EH (KN fun z0=>by kernel_rfl)
noncomputable def FL:St→R AF:=AP (CG (DL (Eu .Or) [BQ (AG C5 (AB "word") (cS "")),K9 (BQ (BK Wr (AD [Bg (A7 (AB "word")) (Az "sign") (AG Ot (AB "sign") (cS "0123456789"))]))),DL (Eu .And) [BQ (AG C5 (AG Af (AB "word") (cF (.int 0))) (cS "0")),BQ (AG (CC fun a b=>decide (a>b)) (BK BA (AD [AB "word"])) (cF (.int 1)))]])
 (A3 (UQ (cF (.int 1))))
 BX)
 (AP (Ag (cF (.int 0)) (Az "number"))
 (AP (EF (A7 (AB "word")) (Az "sign")
 (Ag (AG (Ay K8) (AG As (AG (Ay JD) (AB "number") (cF (.int 10))) (BK Pc (AD [AB "sign"]))) (cF (.int 48))) (Az "number")))
 (A3 (AB "number"))))
theorem NT:AR FK 0 FL:=EG .nil .nil
noncomputable def BB:AU:=Ar FK true FL
theorem NU:WR 233 0 BB:=AR.run NS NT true
theorem FM(h:Nat.ble 1 n=true):GD n "plain_number" BB:=gF NU h
noncomputable def HA:Fn:=⟨240,"place_word","place_word",ET pw 20,.str "js.listing" 644,239,["place"]⟩
theorem P3:Bb HA:=EH (KN fun z0=>by kernel_rfl)
noncomputable def HC:St→R AF:=A3 (CG (BQ (AG bD (AB "place") (cF .none))) (cS "none") (AG As (AG Af (AB "place") (cF (.int 0))) (BK Ew (AD [AG Af (AB "place") (cF (.int 1))]))))
theorem P4:AR HA 0 HC:=EG .nil .nil
noncomputable def Cn:AU:=Ar HA true HC
theorem P5:WR 240 0 Cn:=AR.run P3 P4 true
theorem P6(h:Nat.ble 1 n=true):GD n "place_word" Cn:=gF P5 h
noncomputable def Jc:Fn:=⟨247,"place_in","place_in",ET pw 21,.str "js.listing" 644,246,["word"]⟩
theorem Uc:Bb Jc:=EH (KN fun z0=>by kernel_rfl)
noncomputable def Jd:St→R AF:=AP (CG (BQ (AG C5 (AB "word") (cS "none")))
 (A3 (CU (AD [cF (.bool true),cF .none])))
 BX)
 (AP (EF (A7 (CU (AD [cS "local",cS "cell"]))) (Az "kind")
 (CG (DL (Eu .And) [BQ (AG C5 (CD (AB "word") none (some (BK BA (AD [AB "kind"])))) (AB "kind")),BQ (AG (CC fun a b=>decide (b≤a)) (AN BB (AD [CD (AB "word") (some (BK BA (AD [AB "kind"]))) none])) (cF (.int 0)))])
 (A3 (CU (AD [cF (.bool true),CU (AD [AB "kind",AN BB (AD [CD (AB "word") (some (BK BA (AD [AB "kind"]))) none])])])))
 BX))
 (A3 (CU (AD [cF (.bool false),cF .none]))))
theorem Ud:AR Jc 1 Jd:=EG (.cons (FM rfl) .nil) .nil
noncomputable def D2:AU:=Ar Jc true Jd
theorem Ue:WR 247 1 D2:=AR.run Uc Ud true
theorem Uf(h:Nat.ble 2 n=true):GD n "place_in" D2:=gF Ue h
noncomputable def HD:Fn:=⟨254,"flag_words","flag_words",ET pw 22,.str "js.listing" 644,253,["unit"]⟩
theorem P7:Bb HD:=EH (KN fun z0=>by kernel_rfl)
noncomputable def HE:St→R AF:=A3 (AG As (CG (BQ (AQ "is_strict" (AB "unit"))) (Bi (AD [cS "strict"])) (Bi (AD []))) (CG (BQ (AQ "uses_arguments" (AB "unit"))) (Bi (AD [cS "arguments"])) (Bi (AD []))))
theorem P8:AR HD 0 HE:=EG .nil .nil
noncomputable def Dl:AU:=Ar HD true HE
theorem P9:WR 254 0 Dl:=AR.run P7 P8 true
theorem QA(h:Nat.ble 1 n=true):GD n "flag_words" Dl:=gF P9 h
noncomputable def HF:Fn:=⟨259,"head_lines","head_lines",ET pw 23,.str "js.listing" 644,258,["unit"]⟩
theorem QB:Bb HF:=EH (KN fun z0=>by kernel_rfl)
noncomputable def HG:St→R AF:=AP (Ag (KE (AD [AO JE (Gy Dd) (cS " ") (AD [AG As (Bi (AD [cS "unit",CG (BQ (AG bD (AQ "name" (AB "unit")) (cF .none))) (cS "none") (AN CW (AD [AQ "name" (AB "unit")]))])) (AN Dl (AD [AB "unit"]))])])) (Az "lines"))
 (AP (A0 (AO Fv (En Au) (AB "lines") (AD [AO JE (Gy Dd) (cS " ") (AD [AG As (Bi (AD [cS "params"])) (Bg (A7 (AQ "params" (AB "unit"))) (Az "name") (AN CW (AD [AB "name"])))])])))
 (AP (A0 (AO Fv (En Au) (AB "lines") (AD [AO JE (Gy Dd) (cS " ") (AD [AG As (Bi (AD [cS "places"])) (Bg (A7 (AQ "param_places" (AB "unit"))) (Az "place") (AN Cn (AD [AB "place"])))])])))
 (AP (A0 (AO Fv (En Au) (AB "lines") (AD [AG As (AG As (AG As (cS "own ") (AN Cn (AD [AQ "self_slot" (AB "unit")]))) (cS " ")) (AN Cn (AD [AQ "arguments_place" (AB "unit")]))])))
 (AP (A0 (AO Fv (En Au) (AB "lines") (AD [AG As (AG As (AG As (cS "room ") (BK Ew (AD [AQ "local_count" (AB "unit")]))) (cS " ")) (BK Ew (AD [AQ "cell_count" (AB "unit")]))])))
 (AP (NM (Bg (A7 (Ex (AQ "captures" (AB "unit")))) (Gj [Az "is_frame",Az "index"]) (AG As (CG (BQ (AB "is_frame")) (cS "frame") (cS "closure")) (BK Ew (AD [AB "index"])))) "told")
 (AP (A0 (AO Fv (En Au) (AB "lines") (AD [AO JE (Gy Dd) (cS " ") (AD [AG As (Bi (AD [cS "captures"])) (AB "told")])])))
 (A3 (AB "lines"))))))))
theorem QC:AR HF 2 HG:=EG (.cons (P6 rfl) (.cons (JK rfl) (.cons (QA rfl) .nil))) .nil (mu:=[(124,12)])
noncomputable def Dm:AU:=Ar HF false HG
theorem QD:WR 259 2 Dm:=AR.run QB QC false
theorem QE(h:Nat.ble 3 n=true):GD n "head_lines" Dm:=gF QD h
noncomputable def HH:Fn:=⟨266,"const_word","const_word",ET pw 24,.str "js.listing" 644,265,["value"]⟩
theorem QF:Bb HH:=EH (KN fun z0=>by kernel_rfl)
noncomputable def HI:St→R AF:=A3 (CG (BQ (BK F8 (AD [AB "value",cF (.ty "str")]))) (AN CW (AD [AB "value"])) (BK Ew (AD [AB "value"])))
theorem QG:AR HH 2 HI:=EG (.cons (JK rfl) .nil) .nil
noncomputable def DC:AU:=Ar HH true HI
theorem QH:WR 266 2 DC:=AR.run QF QG true
theorem KR(h:Nat.ble 3 n=true):GD n "const_word" DC:=gF QH h
noncomputable def GR:Fn:=⟨273,"line_remark","line_remark",ET pw 25,.str "js.listing" 644,272,["unit","op","arg"]⟩
theorem OY:Bb GR:=EH (io fun z0 z0 z0=>by kernel_rfl)
noncomputable def GU:St→R AF:=AP (CG (DL (Eu .And) [BQ (AG Ot (AN FJ (AD [AB "op"])) (CU (AD [cS "k",cS "s"]))),BQ (AG Tn (AB "arg") (cF .none)),JT (CC fun a b=>decide (a≤b)) (CC fun a b=>decide (a<b)) (cF (.int 0)) (AB "arg") (BK BA (AD [AQ "consts" (AB "unit")]))])
 (A3 (AG As (cS " ; ") (AN DC (AD [AG Af (AQ "consts" (AB "unit")) (AB "arg")]))))
 BX)
 (A3 (cS ""))
theorem OZ:AR GR 3 GU:=EG (.cons (UX rfl) (.cons (KR rfl) .nil)) .nil
noncomputable def DO:AU:=Ar GR true GU
theorem Oa:WR 273 3 DO:=AR.run OY OZ true
theorem Ob(h:Nat.ble 4 n=true):GD n "line_remark" DO:=gF Oa h
noncomputable def H7:Fn:=⟨280,"code_line","code_line",ET pw 26,.str "js.listing" 644,279,["unit","pc"]⟩
theorem SF:Bb H7:=EH (O3 fun z0 z0=>by kernel_rfl)
noncomputable def H8:St→R AF:=AP (Ag (AG Af (AQ "code" (AB "unit")) (AB "pc")) (Gj [Az "op",Az "arg"]))
 (AP (Ag (AG As (Bi (AD [BK Ew (AD [AB "pc"]),BK Ew (AD [AN E7 (AD [AB "unit",AB "pc"])]),AN E5 (AD [AB "op"])])) (CG (BQ (AG bD (AB "arg") (cF .none))) (Bi (AD [])) (Bi (AD [BK Ew (AD [AB "arg"])])))) (Az "words"))
 (A3 (AG As (AO JE (Gy Dd) (cS " ") (AD [AB "words"])) (AN DO (AD [AB "unit",AB "op",AB "arg"])))))
theorem SG:AR H7 4 H8:=EG (.cons (Ob rfl) (.cons (XD rfl) (.cons (W9 rfl) .nil))) .nil
noncomputable def EJ:AU:=Ar H7 true H8
theorem SH:WR 280 4 EJ:=AR.run SF SG true
theorem SI(h:Nat.ble 5 n=true):GD n "code_line" EJ:=gF SH h
noncomputable def Ey:Fn:=⟨287,"unit_lines","unit_lines",ET pw 27,.str "js.listing" 644,286,["unit"]⟩
theorem QI:Bb Ey:=EH (KN fun z0=>by kernel_rfl)
noncomputable def Ez(rec:AU):St→R AF:=AP (Ag (AN Dm (AD [AB "unit"])) (Az "lines"))
 (AP (EF (A7 (AQ "consts" (AB "unit"))) (Az "value")
 (A0 (AO Fv (En Au) (AB "lines") (AD [AG As (cS "const ") (AN DC (AD [AB "value"]))]))))
 (AP (EF (A7 (Ex (AQ "handlers" (AB "unit")))) (Gj [Az "start",Az "end",Az "target",Az "depth",Az "is_finally"])
 (AP (Ag (Bi (AD [BK Ew (AD [AB "start"]),BK Ew (AD [AB "end"]),BK Ew (AD [AB "target"]),BK Ew (AD [AB "depth"]),CG (BQ (AB "is_finally")) (cS "finally") (cS "catch")])) (Az "words"))
 (A0 (AO Fv (En Au) (AB "lines") (AD [AO JE (Gy Dd) (cS " ") (AD [AG As (Bi (AD [cS "handler"])) (AB "words")])])))))
 (AP (EF (A7 (BK Bw (AD [BK BA (AD [AQ "code" (AB "unit")])]))) (Az "pc")
 (A0 (AO Fv (En Au) (AB "lines") (AD [AN EJ (AD [AB "unit",AB "pc"])]))))
 (AP (EF (A7 (AQ "units" (AB "unit"))) (Az "inner")
 (A0 (AO Fv (En KG) (AB "lines") (AD [AN rec (AD [AB "inner"])]))))
 (AP (A0 (AO Fv (En Au) (AB "lines") (AD [cS "end"])))
 (A3 (AB "lines")))))))
theorem QJ{m:Nat}{rec:AU}(hrec:WR 287 m rec):AR Ey (m+6) (Ez rec):=EG (.cons (x:="unit_lines") (gF hrec (Nat.ble_eq.mpr (by omega))) (.cons (SI (bl rfl)) (.cons (KR (bl rfl)) (.cons (QE (bl rfl)) .nil)))) .nil
noncomputable def Co:Nat→AU
 |0=>fun z0 z0=>.stuck
 |k+1=>Ar Ey true (Ez (Co k))
theorem KS:∀k:Nat,WR 287 (6*k) (Co k)
 |0=>Rx
 |k+1=>(AR.run QI (QJ (KS k)) true).mono (Nat.le_refl _)
theorem QK(h:Nat.ble 49 n=true):GD n "unit_lines" (Co 8):=gF (KS 8) h
noncomputable def H9:Fn:=⟨294,"list_unit","list_unit",ET pw 28,.str "js.listing" 644,293,["unit"]⟩
theorem SJ:Bb H9:=EH (KN fun z0=>by kernel_rfl)
noncomputable def IA:St→R AF:=A3 (AO JE (Gy Dd) (cS "\n") (AD [AN (Co 8) (AD [AB "unit"])]))
theorem SK:AR H9 49 IA:=EG (.cons (QK rfl) .nil) .nil
noncomputable def Bz:AU:=Ar H9 true IA
theorem SL:WR 294 49 Bz:=AR.run SJ SK true
theorem L4(h:Nat.ble 50 n=true):GD n "list_unit" Bz:=gF SL h
noncomputable def FN:Fn:=⟨308,"__init__","Reading.__init__",Q5 pw 29 0,.str "js.listing" 644,307,["self","text"]⟩
theorem NV:Bb FN:=EH (O3 fun z0 z0=>by kernel_rfl)
noncomputable def FO:St→R AF:=AP (Ag (AO JE (Gy Gz) (AB "text") (AD [cS "\n"])) (EE "lines" (AB "self")))
 (Ag (cF (.int 0)) (EE "at" (AB "self")))
theorem NW:AR FN 0 FO:=EG .nil .nil
noncomputable def C6:AU:=Ar FN false FO
theorem NX:WR 308 0 C6:=AR.run NV NW false
noncomputable def Iw:AU:=be 405 C6
theorem XE:WR 405 1 Iw:=⟨Rn (.inr rfl) NX.h (fun P=>by kernel_rfl) fun P=>by kernel_rfl⟩
theorem XF(h:Nat.ble 2 n=true):GD n "Reading" Iw:=gF XE h ⟨fun P=>by kernel_rfl,bd⟩
noncomputable def FP:Fn:=⟨315,"fail","Reading.fail",Q5 pw 29 1,.str "js.listing" 644,314,["self"]⟩
theorem IB:Bb FP:=EH (KN fun z0=>by kernel_rfl)
noncomputable def FQ:St→R AF:=DU (AD [AQ "at" (AB "self")])
theorem NY:AR FP 0 FQ:=EG .nil .nil
noncomputable def Bo:AU:=Ar FP true FQ
theorem NZ:WR 315 0 Bo:=AR.run IB NY true
theorem Do(h:Nat.ble 1 n=true):Pm n "fail" Bo:=gM NZ h IB.at_
noncomputable def Ef:Fn:=⟨322,"words","Reading.words",Q5 pw 29 2,.str "js.listing" 644,321,["self"]⟩
theorem Hg:Bb Ef:=EH (KN fun z0=>by kernel_rfl)
noncomputable def Eg:St→R AF:=AP (CG (BQ (AG (CC fun a b=>decide (b≤a)) (AQ "at" (AB "self")) (BK BA (AD [AQ "lines" (AB "self")]))))
 (A0 (AO (isRd "fail") (Ad Bo) (AB "self") (AD [])))
 BX)
 (A3 (AO JE (Gy Gz) (AG Af (AQ "lines" (AB "self")) (AQ "at" (AB "self"))) (AD [cS " "])))
theorem MU:AR Ef 1 Eg:=EG .nil (.cons (Do rfl) .nil)
noncomputable def Am:AU:=Ar Ef true Eg
theorem MV:WR 322 1 Am:=AR.run Hg MU true
theorem DS(h:Nat.ble 2 n=true):Pm n "words" Am:=gM MV h Hg.at_
noncomputable def FR:Fn:=⟨329,"rest","Reading.rest",Q5 pw 29 3,.str "js.listing" 644,328,["self","word"]⟩
theorem IC:Bb FR:=EH (O3 fun z0 z0=>by kernel_rfl)
noncomputable def FS:St→R AF:=AP (Ag (AO (isRd "words") (Ad Am) (AB "self") (AD [])) (Az "words"))
 (AP (CG (BQ (AG Iq (AG Af (AB "words") (cF (.int 0))) (AB "word")))
 (A0 (AO (isRd "fail") (Ad Bo) (AB "self") (AD [])))
 BX)
 (AP (Ag (AG As (AQ "at" (AB "self")) (cF (.int 1))) (EE "at" (AB "self")))
 (A3 (CD (AB "words") (some (cF (.int 1))) none))))
theorem Na:AR FR 2 FS:=EG .nil (.cons (Do rfl) (.cons (DS rfl) .nil))
noncomputable def Ah:AU:=Ar FR true FS
theorem Nb:WR 329 2 Ah:=AR.run IC Na true
theorem ID(h:Nat.ble 3 n=true):Pm n "rest" Ah:=gM Nb h IC.at_
noncomputable def D3:Fn:=⟨336,"number","Reading.number",Q5 pw 29 4,.str "js.listing" 644,335,["self","word"]⟩
theorem Gl:Bb D3:=EH (O3 fun z0 z0=>by kernel_rfl)
noncomputable def D4:St→R AF:=AP (Ag (AN BB (AD [AB "word"])) (Az "found"))
 (AP (CG (BQ (AG (CC fun a b=>decide (a<b)) (AB "found") (cF (.int 0))))
 (DU (AD [AG (Ay K8) (AQ "at" (AB "self")) (cF (.int 1))]))
 BX)
 (A3 (AB "found")))
theorem LY:AR D3 1 D4:=EG (.cons (FM rfl) .nil) .nil
noncomputable def AZ:AU:=Ar D3 true D4
theorem LZ:WR 336 1 AZ:=AR.run Gl LY true
theorem Cd(h:Nat.ble 2 n=true):Pm n "number" AZ:=gM LZ h Gl.at_
noncomputable def FU:Fn:=⟨343,"text","Reading.text",Q5 pw 29 5,.str "js.listing" 644,342,["self","word"]⟩
theorem IE:Bb FU:=EH (O3 fun z0 z0=>by kernel_rfl)
noncomputable def FV:St→R AF:=AP (Ag (AN Cu (AD [AB "word"])) (Az "found"))
 (AP (CG (BQ (AG bD (AB "found") (cF .none)))
 (DU (AD [AG (Ay K8) (AQ "at" (AB "self")) (cF (.int 1))]))
 BX)
 (A3 (AB "found")))
theorem Nc:AR FU 2 FV:=EG (.cons (MT rfl) .nil) .nil
noncomputable def Bp:AU:=Ar FU true FV
theorem Nd:WR 343 2 Bp:=AR.run IE Nc true
theorem IF(h:Nat.ble 3 n=true):Pm n "text" Bp:=gM Nd h IE.at_
noncomputable def Eh:Fn:=⟨350,"place","Reading.place",Q5 pw 29 6,.str "js.listing" 644,349,["self","word"]⟩
theorem Hh:Bb Eh:=EH (O3 fun z0 z0=>by kernel_rfl)
noncomputable def Ei:St→R AF:=AP (Ag (AN D2 (AD [AB "word"])) (Gj [Az "is_told",Az "found"]))
 (AP (CG (K9 (BQ (AB "is_told")))
 (DU (AD [AG (Ay K8) (AQ "at" (AB "self")) (cF (.int 1))]))
 BX)
 (A3 (AB "found")))
theorem MW:AR Eh 2 Ei:=EG (.cons (Uf rfl) .nil) .nil
noncomputable def Bt:AU:=Ar Eh true Ei
theorem MX:WR 350 2 Bt:=AR.run Hh MW true
theorem MY(h:Nat.ble 3 n=true):Pm n "place" Bt:=gM MX h Hh.at_
noncomputable def FW:Fn:=⟨357,"need","Reading.need",Q5 pw 29 7,.str "js.listing" 644,356,["self","is_right"]⟩
theorem IG:Bb FW:=EH (O3 fun z0 z0=>by kernel_rfl)
noncomputable def FX:St→R AF:=CG (K9 (BQ (AB "is_right")))
 (DU (AD [AG (Ay K8) (AQ "at" (AB "self")) (cF (.int 1))]))
 BX
theorem Nf:AR FW 0 FX:=EG .nil .nil
noncomputable def An:AU:=Ar FW true FX
theorem Ng:WR 357 0 An:=AR.run IG Nf true
theorem Dp(h:Nat.ble 1 n=true):Pm n "need" An:=gM Ng h IG.at_
noncomputable def Dq:Fn:=⟨369,"capture","Reading.capture",Q5 pw 29 9,.str "js.listing" 644,368,["self","word"]⟩
theorem GG:Bb Dq:=EH (O3 fun z0 z0=>by kernel_rfl)
noncomputable def Dr:St→R AF:=AP (EF (A7 (CU (AD [cS "frame",cS "closure"]))) (Az "kind")
 (CG (BQ (AG C5 (CD (AB "word") none (some (BK BA (AD [AB "kind"])))) (AB "kind")))
 (A3 (CU (AD [AG C5 (AB "kind") (cS "frame"),AO (isRd "number") (Ad AZ) (AB "self") (AD [CD (AB "word") (some (BK BA (AD [AB "kind"]))) none])])))
 BX))
 (DU (AD [AG (Ay K8) (AQ "at" (AB "self")) (cF (.int 1))]))
theorem KT:AR Dq 2 Dr:=EG .nil (.cons (Cd rfl) .nil)
noncomputable def CQ:AU:=Ar Dq true Dr
theorem KU:WR 369 2 CQ:=AR.run GG KT true
theorem KV(h:Nat.ble 3 n=true):Pm n "capture" CQ:=gM KU h GG.at_
noncomputable def FY:Fn:=⟨362,"head","Reading.head",Q5 pw 29 8,.str "js.listing" 644,361,["self"]⟩
theorem IH:Bb FY:=EH (KN fun z0=>by kernel_rfl)
noncomputable def FZ:St→R AF:=AP (Ag (AO (isRd "rest") (Ad Ah) (Aq "self") (AD [cS "unit"])) (Az "words"))
 (AP (A0 (AO (isRd "need") (Ad An) (Aq "self") (AD [FA (Eu .And) [AG (CC fun a b=>decide (a>b)) (BK BA (AD [AB "words"])) (cF (.int 0)),AG Ot (CD (AB "words") (some (cF (.int 1))) none) (CU (AD [Bi (AD []),Bi (AD [cS "strict"]),Bi (AD [cS "arguments"]),Bi (AD [cS "strict",cS "arguments"])]))]])))
 (AP (Ag (CG (BQ (AG C5 (AG Af (AB "words") (cF (.int 0))) (cS "none"))) (cF .none) (AO (isRd "text") (Ad Bp) (Aq "self") (AD [AG Af (AB "words") (cF (.int 0))]))) (Az "name"))
 (AP (Ag (AN FH (AD [AB "name",Bg (A7 (AO (isRd "rest") (Ad Ah) (Aq "self") (AD [cS "params"]))) (Az "word") (AO (isRd "text") (Ad Bp) (Aq "self") (AD [AB "word"]))])) (Az "made"))
 (AP (F9 (AD [AG Ot (cS "strict") (CD (AB "words") (some (cF (.int 1))) none),AG Ot (cS "arguments") (CD (AB "words") (some (cF (.int 1))) none)]) [EE "is_strict" (AB "made"),EE "uses_arguments" (AB "made")])
 (AP (Ag (Bg (A7 (AO (isRd "rest") (Ad Ah) (Aq "self") (AD [cS "places"]))) (Az "word") (AO (isRd "place") (Ad Bt) (Aq "self") (AD [AB "word"]))) (EE "param_places" (AB "made")))
 (AP (Ag (AO (isRd "rest") (Ad Ah) (Aq "self") (AD [cS "own"])) (Az "words"))
 (AP (A0 (AO (isRd "need") (Ad An) (Aq "self") (AD [AG C5 (BK BA (AD [AB "words"])) (cF (.int 2))])))
 (AP (F9 (AD [AO (isRd "place") (Ad Bt) (Aq "self") (AD [AG Af (AB "words") (cF (.int 0))]),AO (isRd "place") (Ad Bt) (Aq "self") (AD [AG Af (AB "words") (cF (.int 1))])]) [EE "self_slot" (AB "made"),EE "arguments_place" (AB "made")])
 (AP (Ag (AO (isRd "rest") (Ad Ah) (Aq "self") (AD [cS "room"])) (Az "words"))
 (AP (A0 (AO (isRd "need") (Ad An) (Aq "self") (AD [AG C5 (BK BA (AD [AB "words"])) (cF (.int 2))])))
 (AP (F9 (AD [AO (isRd "number") (Ad AZ) (Aq "self") (AD [AG Af (AB "words") (cF (.int 0))]),AO (isRd "number") (Ad AZ) (Aq "self") (AD [AG Af (AB "words") (cF (.int 1))])]) [EE "local_count" (AB "made"),EE "cell_count" (AB "made")])
 (AP (Ag (Bg (A7 (AO (isRd "rest") (Ad Ah) (Aq "self") (AD [cS "captures"]))) (Az "word") (AO (isRd "capture") (Ad CQ) (Aq "self") (AD [AB "word"]))) (EE "captures" (AB "made")))
 (A3 (AB "made"))))))))))))))
theorem Nh:AR FY 3 FZ:=EG (.cons (ZW rfl) .nil) (.cons (ID rfl) (.cons (KV rfl) (.cons (Cd rfl) (.cons (Dp rfl) (.cons (MY rfl) (.cons (IF rfl) .nil))))))
noncomputable def C7:AU:=Ar FY false FZ
theorem Ni:WR 362 3 C7:=AR.run IH Nh false
theorem Nj(h:Nat.ble 4 n=true):Pm n "head" C7:=gM Ni h IH.at_
noncomputable def DV:Fn:=⟨376,"constant","Reading.constant",Q5 pw 29 10,.str "js.listing" 644,375,["self","words"]⟩
theorem Fa:Bb DV:=EH (O3 fun z0 z0=>by kernel_rfl)
noncomputable def DW:St→R AF:=AP (A0 (AO (isRd "need") (Ad An) (AB "self") (AD [AG C5 (BK BA (AD [AB "words"])) (cF (.int 1))])))
 (A3 (CG (BQ (AG C5 (CD (AG Af (AB "words") (cF (.int 0))) none (some (cF (.int 1)))) (cS "\""))) (AO (isRd "text") (Ad Bp) (AB "self") (AD [AG Af (AB "words") (cF (.int 0))])) (AO (isRd "number") (Ad AZ) (AB "self") (AD [AG Af (AB "words") (cF (.int 0))]))))
theorem Je:AR DV 3 DW:=EG .nil (.cons (IF rfl) (.cons (Cd rfl) (.cons (Dp rfl) .nil)))
noncomputable def Bj:AU:=Ar DV true DW
theorem Jf:WR 376 3 Bj:=AR.run Fa Je true
theorem Jg(h:Nat.ble 4 n=true):Pm n "constant" Bj:=gM Jf h Fa.at_
noncomputable def Ds:Fn:=⟨381,"handler","Reading.handler",Q5 pw 29 11,.str "js.listing" 644,380,["self","words"]⟩
theorem GH:Bb Ds:=EH (O3 fun z0 z0=>by kernel_rfl)
noncomputable def Dt:St→R AF:=AP (A0 (AO (isRd "need") (Ad An) (Aq "self") (AD [FA (Eu .And) [AG C5 (BK BA (AD [AB "words"])) (cF (.int 5)),AG Ot (AG Af (AB "words") (cF (.int 4))) (CU (AD [cS "finally",cS "catch"]))]])))
 (AP (NM (Bg (A7 (CD (AB "words") none (some (cF (.int 4))))) (Az "word") (AO (isRd "number") (Ad AZ) (Aq "self") (AD [AB "word"]))) "numbers")
 (A3 (CU (AD [AG Af (AB "numbers") (cF (.int 0)),AG Af (AB "numbers") (cF (.int 1)),AG Af (AB "numbers") (cF (.int 2)),AG Af (AB "numbers") (cF (.int 3)),AG C5 (AG Af (AB "words") (cF (.int 4))) (cS "finally")]))))
theorem KW:AR Ds 2 Dt:=EG .nil (.cons (Cd rfl) (.cons (Dp rfl) .nil))
noncomputable def Bs:AU:=Ar Ds true Dt
theorem KX:WR 381 2 Bs:=AR.run GH KW true
theorem KY(h:Nat.ble 3 n=true):Pm n "handler" Bs:=gM KX h GH.at_
noncomputable def GV:Fn:=⟨388,"row","Reading.row",Q5 pw 29 12,.str "js.listing" 644,387,["self","made"]⟩
theorem JL:Bb GV:=EH (O3 fun z0 z0=>by kernel_rfl)
noncomputable def GW:St→R AF:=AP (Ag (AO (isRd "words") (Ad Am) (AB "self") (AD [])) (Az "words"))
 (AP (Ag (AG As (AQ "at" (AB "self")) (cF (.int 1))) (EE "at" (AB "self")))
 (AP (Ag (CG (BQ (AG Ot (cS ";") (AB "words"))) (CD (AB "words") none (some (AO PZ (NC NE) (AB "words") (AD [cS ";"])))) (AB "words")) (Az "words"))
 (AP (A0 (AO (isRd "need") (Ad An) (AB "self") (AD [FA (Eu .And) [AG Ot (BK BA (AD [AB "words"])) (CU (AD [cF (.int 3),cF (.int 4)])),AG C5 (AO (isRd "number") (Ad AZ) (AB "self") (AD [AG Af (AB "words") (cF (.int 0))])) (BK BA (AD [AQ "code" (AB "made")]))]])))
 (AP (Ag (AN Iv (AD [AG Af (AB "words") (cF (.int 2))])) (Az "op"))
 (AP (A0 (AO (isRd "need") (Ad An) (AB "self") (AD [FA (Eu .And) [AG (CC fun a b=>decide (b≤a)) (AB "op") (cF (.int 0)),AG C5 (AG C5 (BK BA (AD [AB "words"])) (cF (.int 4))) (AG Iq (AG Af (AG Af (cF (.lst ML)) (AB "op")) (cF (.int 1))) (cS ""))]])))
 (AP (A0 (AO Fv (En Au) (AQ "code" (AB "made")) (AD [CU (AD [AB "op",CG (BQ (AG C5 (BK BA (AD [AB "words"])) (cF (.int 4)))) (AO (isRd "number") (Ad AZ) (AB "self") (AD [AG Af (AB "words") (cF (.int 3))])) (cF .none)])])))
 (A0 (AO Fv (En Au) (AQ "lines" (AB "made")) (AD [AO (isRd "number") (Ad AZ) (AB "self") (AD [AG Af (AB "words") (cF (.int 1))])])))))))))
theorem Oc:AR GV 2 GW:=EG (.cons (cC rfl) .nil) (.cons (Cd rfl) (.cons (Dp rfl) (.cons (DS rfl) .nil)))
noncomputable def Bm:AU:=Ar GV true GW
theorem Od:WR 388 2 Bm:=AR.run JL Oc true
theorem Oe(h:Nat.ble 3 n=true):Pm n "row" Bm:=gM Od h JL.at_
noncomputable def DX:Fn:=⟨402,"need_end","Reading.need_end",Q5 pw 29 14,.str "js.listing" 644,401,["self"]⟩
theorem Fb:Bb DX:=EH (KN fun z0=>by kernel_rfl)
noncomputable def DY:St→R AF:=AP (CG (BQ (AG Iq (AO (isRd "words") (Ad Am) (AB "self") (AD [])) (Bi (AD [cS "end"]))))
 (A0 (AO (isRd "fail") (Ad Bo) (AB "self") (AD [])))
 BX)
 (Ag (AG As (AQ "at" (AB "self")) (cF (.int 1))) (EE "at" (AB "self")))
theorem Jh:AR DX 2 DY:=EG .nil (.cons (DS rfl) (.cons (Do rfl) .nil))
noncomputable def B2:AU:=Ar DX true DY
theorem Ji:WR 402 2 B2:=AR.run Fb Jh true
theorem Jj(h:Nat.ble 3 n=true):Pm n "need_end" B2:=gM Ji h Fb.at_
noncomputable def Du:Fn:=⟨395,"unit","Reading.unit",Q5 pw 29 13,.str "js.listing" 644,394,["self"]⟩
theorem Fc:Bb Du:=EH (KN fun z0=>by kernel_rfl)
noncomputable def Dv(rec:AU):St→R AF:=AP (Ag (AO (isRd "head") (Ad C7) (AB "self") (AD [])) (Az "made"))
 (AP (CV (BQ (AG C5 (AG Af (AO (isRd "words") (Ad Am) (AB "self") (AD [])) (cF (.int 0))) (cS "const")))
 (A0 (AO Fv (En Au) (AQ "consts" (AB "made")) (AD [AO (isRd "constant") (Ad Bj) (AB "self") (AD [AO (isRd "rest") (Ad Ah) (AB "self") (AD [cS "const"])])]))) big)
 (AP (CV (BQ (AG C5 (AG Af (AO (isRd "words") (Ad Am) (AB "self") (AD [])) (cF (.int 0))) (cS "handler")))
 (A0 (AO Fv (En Au) (AQ "handlers" (AB "made")) (AD [AO (isRd "handler") (Ad Bs) (AB "self") (AD [AO (isRd "rest") (Ad Ah) (AB "self") (AD [cS "handler"])])]))) big)
 (AP (CV (BQ (AG (CC fun a b=>decide (b≤a)) (AN BB (AD [AG Af (AO (isRd "words") (Ad Am) (AB "self") (AD [])) (cF (.int 0))])) (cF (.int 0))))
 (A0 (AO (isRd "row") (Ad Bm) (AB "self") (AD [AB "made"]))) big)
 (AP (CV (BQ (AG C5 (AG Af (AO (isRd "words") (Ad Am) (AB "self") (AD [])) (cF (.int 0))) (cS "unit")))
 (A0 (AO Fv (En Au) (AQ "units" (AB "made")) (AD [AO (isRd "unit") (Ad rec) (AB "self") (AD [])]))) big)
 (AP (A0 (AO (isRd "need_end") (Ad B2) (AB "self") (AD [])))
 (A3 (AB "made")))))))
theorem Nk{m:Nat}{rec:AU}(hrec:WR 395 m rec):AR Du (m+5) (Dv rec):=EG (.cons (FM (bl rfl)) .nil) (.cons (Jj (bl rfl)) (.cons (DS (bl rfl)) (.cons (x:="unit") (gM hrec (Nat.ble_eq.mpr (by omega)) Fc.at_) (.cons (Oe (bl rfl)) (.cons (ID (bl rfl)) (.cons (KY (bl rfl)) (.cons (Jg (bl rfl)) (.cons (Nj (bl rfl)) .nil))))))))
noncomputable def BE:Nat→AU
 |0=>fun z0 z0=>.stuck
 |k+1=>Ar Du true (Dv (BE k))
theorem II:∀k:Nat,WR 395 (5*k) (BE k)
 |0=>Rx
 |k+1=>(AR.run Fc (Nk (II k)) true).mono (Nat.le_refl _)
theorem Nl(h:Nat.ble 41 n=true):Pm n "unit" (BE 8):=gM (II 8) h Fc.at_
noncomputable def IJ:Fn:=⟨416,"read_unit","read_unit",ET pw 30,.str "js.listing" 644,415,["text"]⟩
theorem SM:Bb IJ:=EH (KN fun z0=>by kernel_rfl)
noncomputable def IK:St→R AF:=AP (Ag (AN Iw (AD [AB "text"])) (Az "reading"))
 (AP (Ag (AO (isRd "unit") (Ad (BE 8)) (AB "reading") (AD [])) (Az "made"))
 (AP (CG (BQ (AG Iq (AQ "at" (AB "reading")) (BK BA (AD [AQ "lines" (AB "reading")]))))
 (A0 (AO (isRd "fail") (Ad Bo) (AB "reading") (AD [])))
 BX)
 (A3 (AB "made"))))
theorem SN:AR IJ 41 IK:=EG (.cons (XF rfl) .nil) (.cons (Do rfl) (.cons (Nl rfl) .nil))
noncomputable def BF:AU:=Ar IJ true IK
theorem SO:WR 416 41 BF:=AR.run SM SN true
theorem IL(h:Nat.ble 42 n=true):GD n "read_unit" BF:=gF SO h
noncomputable def IM:Fn:=⟨421,"_law_draws","_law_draws",ET pw 32,.str "law_nt0367_01" 951,420,["script"]⟩
theorem SP:Bb IM:=EH (KN fun z0=>by kernel_rfl)
noncomputable def IN:St→R AF:=AP (KH (AD [Rl (A7 (CD (AB "script") none (some (cF (.int 40))))) (Az "one") (BK bP (AD [BK bQ (AD [AB "one"])])),cF (.int 7411)]) [Az "seed",Az "pool"])
 (AP (UH (AB "pool") (Az "one")
 (Ag (AG (Ay Ge) (AG As (AG As (AG (Ay JD) (AB "seed") (cF (.int 31))) (AG (Ay Ge) (AB "one") (cF (.int 1000003)))) (cF (.int 5))) (cF (.int 2147483647))) (Az "seed")))
 (A3 (KE (AD [AB "pool",AB "seed"]))))
theorem SQ:AR IM 0 IN:=EG .nil .nil (mu:=[(266,18),(269,11)]) (fm:=true)
noncomputable def EK:AU:=Ar IM false IN
theorem SR:WR 421 0 EK:=AR.run SP SQ false
theorem SS(h:Nat.ble 1 n=true):GD n "_law_draws" EK:=gF SR h
noncomputable def Jk:Fn:=⟨428,"_law_take","_law_take",ET pw 33,.str "law_nt0367_01" 951,427,["draws","many"]⟩
theorem Ug:Bb Jk:=EH (O3 fun z0 z0=>by kernel_rfl)
noncomputable def HJ:St→R AF:=AP (CG (BQ (AG JY (AG Af (AB "draws") (cF (.int 0))) (Bi (AD []))))
 (A3 (AG (Ay Ge) (AO Fv (En RW) (AG Af (AB "draws") (cF (.int 0))) (AD [cF (.int 0)])) (AB "many")))
 BX)
 (AP (Ag (AG (Ay Ge) (AG As (AG (Ay JD) (AG Af (AB "draws") (cF (.int 1))) (cF (.int 48271))) (cF (.int 17))) (cF (.int 2147483647))) (ci (AB "draws") (cF (.int 1))))
 (A3 (AG (Ay Ge) (AG (Ay M6) (AG Af (AB "draws") (cF (.int 1))) (cF (.int 16))) (AB "many"))))
theorem Uh:AR Jk 0 HJ:=EG .nil .nil
noncomputable def AL:AU:=Ar Jk true HJ
theorem Ui:WR 428 0 AL:=AR.run Ug Uh true
theorem D5(h:Nat.ble 1 n=true):GD n "_law_take" AL:=gF Ui h
noncomputable def IP:Fn:=⟨435,"_law_names","_law_names",ET pw 34,.str "law_nt0367_01" 951,434,[]⟩
theorem SU:Bb IP:=EH (jK (by kernel_rfl))
noncomputable def IQ:St→R AF:=AP (Ag (cS "UNDEF NULL TRUE FALSE CONST THIS POP DUP DUP2 SWAP ROT3 GETLOC SETLOC GETCELL SETCELL GETUP ") (Az "text"))
 (AP (Ag (AG As (AB "text") (cS "SETUP FRESH GETGLOB TYPEGLOB SETGLOB DECLVAR DECLFUN GETPROP SETPROP GETELEM SETELEM DELPROP ")) (Az "text"))
 (AP (Ag (AG As (AB "text") (cS "DELELEM DELNAME ADD SUB MUL DIV MOD SHL SHR USHR AND OR XOR EQ NE SEQ SNE LT GT LE GE IN ")) (Az "text"))
 (AP (Ag (AG As (AB "text") (cS "INSTANCEOF NEG TONUM NOT BITNOT TYPEOF INC DEC JMP JF JT JFK JTK CALL NEW RET THROW CLOSURE ")) (Az "text"))
 (AP (Ag (AG As (AB "text") (cS "NEWOBJ NEWARR HOLE INITPROP INITGET INITSET METHOD METHODEL FORIN NEXTIN GOSUB RETSUB CHECKOBJ ")) (Az "text"))
 (AP (Ag (AG As (AB "text") (cS "TOKEY ROT4 FAILSET REGEXP")) (Az "text"))
 (A3 (AO JE (Gy Gz) (AB "text") (AD [cS " "]))))))))
theorem SV:AR IP 0 IQ:=EG .nil .nil
noncomputable def EL:AU:=Ar IP true IQ
theorem SW:WR 435 0 EL:=AR.run SU SV true
theorem SX(h:Nat.ble 1 n=true):GD n "_law_names" EL:=gF SW h
noncomputable def IR:Fn:=⟨442,"_law_kinds","_law_kinds",ET pw 35,.str "law_nt0367_01" 951,441,[]⟩
theorem SY:Bb IR:=EH (jK (by kernel_rfl))
noncomputable def IS:St→R AF:=A3 (cS "----k------llccuucsssssss--s-s----------------------------tttttnn--f-n-ssss--tt----s-")
theorem SZ:AR IR 0 IS:=EG .nil .nil
noncomputable def EM:AU:=Ar IR true IS
theorem Sa:WR 442 0 EM:=AR.run SY SZ true
theorem Sb(h:Nat.ble 1 n=true):GD n "_law_kinds" EM:=gF Sa h
noncomputable def Fd:Fn:=⟨447,"_law_text","_law_text",ET pw 36,.str "law_nt0367_01" 951,446,["draws"]⟩
theorem Uj:Bb Fd:=EH (KN fun z0=>by kernel_rfl)
noncomputable def Jl:St→R AF:=AP (Ag (Bi (AD [cF (.int 49),cF (.int 34),cF (.int 92),cF (.int 32),cF (.int 59),cF (.int 97),cF (.int 10),cF (.int 0),cF (.int 55357),cF (.int 65535)])) (dv "pool"))
 (A3 (AO JE (Gy Dd) (cS "") (AD [Bg (A7 (BK Bw (AD [AN AL (AD [Aq "draws",cF (.int 4)])]))) (Az "turn") (BK Wn (AD [AG Af (Aq "pool") (AN AL (AD [Aq "draws",BK BA (AD [Aq "pool"])]))]))])))
theorem Uk:AR Fd 1 Jl:=EG (.cons (D5 rfl) .nil) .nil
noncomputable def B3:AU:=Ar Fd true Jl
theorem Ul:WR 447 1 B3:=AR.run Uj Uk true
theorem Um(h:Nat.ble 2 n=true):GD n "_law_text" B3:=gF Ul h
noncomputable def EN:Fn:=⟨454,"_law_place","_law_place",ET pw 37,.str "law_nt0367_01" 951,453,["draws"]⟩
theorem Sd:Bb EN:=EH (KN fun z0=>by kernel_rfl)
noncomputable def IT:St→R AF:=AP (Ag (AN AL (AD [AB "draws",cF (.int 3)])) (Az "form"))
 (A3 (AG Af (Bi (AD [cF .none,CU (AD [cS "local",AN AL (AD [AB "draws",cF (.int 12)])]),CU (AD [cS "cell",AN AL (AD [AB "draws",cF (.int 12)])])])) (AB "form")))
theorem Se:AR EN 1 IT:=EG (.cons (D5 rfl) .nil) .nil
noncomputable def Cj:AU:=Ar EN true IT
theorem Sf:WR 454 1 Cj:=AR.run Sd Se true
theorem Sg(h:Nat.ble 2 n=true):GD n "_law_place" Cj:=gF Sf h
noncomputable def Cv:Fn:=⟨461,"_law_operation","_law_operation",ET pw 38,.str "law_nt0367_01" 951,460,["draws","kinds"]⟩
theorem MZ:Bb Cv:=EH (O3 fun z0 z0=>by kernel_rfl)
noncomputable def Ej:St→R AF:=AP (Ag (AN AL (AD [AB "draws",BK BA (AD [AB "kinds"])])) (Az "op"))
 (A3 (CU (AD [AB "op",CG (BQ (AG C5 (AG Af (AB "kinds") (AB "op")) (cS "-"))) (cF .none) (AN AL (AD [AB "draws",CG (BQ (AG (CC fun a b=>decide (a>b)) (AN AL (AD [AB "draws",cF (.int 4)])) (cF (.int 0)))) (cF (.int 4)) (AG (Ay PV) (cF (.int 10)) (cF (.int 9)))]))])))
theorem Ma:AR Cv 1 Ej:=EG (.cons (D5 rfl) .nil) .nil
noncomputable def CN:AU:=Ar Cv true Ej
theorem Mb:WR 461 1 CN:=AR.run MZ Ma true
theorem Mc(h:Nat.ble 2 n=true):GD n "_law_operation" CN:=gF Mb h
noncomputable def D6:Fn:=⟨466,"_law_made","_law_made",ET pw 39,.str "law_nt0367_01" 951,465,["draws","kinds","inner"]⟩
theorem Un:Bb D6:=EH (io fun z0 z0 z0=>by kernel_rfl)
noncomputable def Jm:St→R AF:=AP (Ag (AN FH (AD [CG (BQ (AG C5 (AN AL (AD [Aq "draws",cF (.int 3)])) (cF (.int 0)))) (cF .none) (AN B3 (AD [Aq "draws"])),Bi (AD [])])) (Az "drawn"))
 (AP (Ag (Bg (A7 (BK Bw (AD [AN AL (AD [Aq "draws",cF (.int 3)])]))) (Az "turn") (AN B3 (AD [Aq "draws"]))) (EE "params" (AB "drawn")))
 (AP (Ag (Bg (A7 (BK Bw (AD [AN AL (AD [Aq "draws",cF (.int 3)])]))) (Az "turn") (AN Cj (AD [Aq "draws"]))) (EE "param_places" (AB "drawn")))
 (AP (F9 (AD [AN Cj (AD [Aq "draws"]),AN Cj (AD [Aq "draws"])]) [EE "self_slot" (AB "drawn"),EE "arguments_place" (AB "drawn")])
 (AP (F9 (AD [AG C5 (AN AL (AD [Aq "draws",cF (.int 2)])) (cF (.int 1)),AG C5 (AN AL (AD [Aq "draws",cF (.int 2)])) (cF (.int 1))]) [EE "is_strict" (AB "drawn"),EE "uses_arguments" (AB "drawn")])
 (AP (EF (A7 (BK Bw (AD [AN AL (AD [Aq "draws",cF (.int 4)])]))) (Az "turn")
 (A0 (AO Fv (En Au) (AQ "consts" (AB "drawn")) (AD [CG (BQ (AG C5 (AN AL (AD [Aq "draws",cF (.int 2)])) (cF (.int 0)))) (AN B3 (AD [Aq "draws"])) (AN AL (AD [Aq "draws",AG (Ay PV) (cF (.int 2)) (cF (.int 64))]))]))))
 (AP (Ag (Bg (A7 (BK Bw (AD [AG As (cF (.int 1)) (AN AL (AD [Aq "draws",cF (.int 6)]))]))) (Az "turn") (AN CN (AD [Aq "draws",Aq "kinds"]))) (EE "code" (AB "drawn")))
 (AP (Ag (Bg (A7 (AQ "code" (AB "drawn"))) (Az "one") (AN AL (AD [Aq "draws",cF (.int 9)]))) (EE "lines" (AB "drawn")))
 (AP (EF (A7 (BK Bw (AD [AN AL (AD [Aq "draws",cF (.int 3)])]))) (Az "turn")
 (AP (NM (Bg (A7 (BK Bw (AD [cF (.int 4)]))) (Az "spot") (AN AL (AD [Aq "draws",cF (.int 20)]))) "numbers")
 (A0 (AO Fv (En Au) (AQ "handlers" (AB "drawn")) (AD [CU (AD [AG Af (AB "numbers") (cF (.int 0)),AG Af (AB "numbers") (cF (.int 1)),AG Af (AB "numbers") (cF (.int 2)),AG Af (AB "numbers") (cF (.int 3)),AG C5 (AN AL (AD [Aq "draws",cF (.int 2)])) (cF (.int 1))])])))))
 (AP (F9 (AD [AN AL (AD [Aq "draws",cF (.int 30)]),AN AL (AD [Aq "draws",cF (.int 30)])]) [EE "local_count" (AB "drawn"),EE "cell_count" (AB "drawn")])
 (AP (Ag (Bg (A7 (BK Bw (AD [AN AL (AD [Aq "draws",cF (.int 3)])]))) (Az "turn") (CU (AD [AG C5 (AN AL (AD [Aq "draws",cF (.int 2)])) (cF (.int 1)),AN AL (AD [Aq "draws",cF (.int 9)])]))) (EE "captures" (AB "drawn")))
 (AP (Ag (AB "inner") (EE "units" (AB "drawn")))
 (A3 (AB "drawn")))))))))))))
theorem Uo:AR D6 2 Jm:=EG (.cons (D5 rfl) (.cons (Mc rfl) (.cons (Um rfl) (.cons (Sg rfl) (.cons (ZW rfl) .nil))))) .nil
noncomputable def Cp:AU:=Ar D6 true Jm
theorem Up:WR 466 2 Cp:=AR.run Un Uo true
theorem Uq(h:Nat.ble 3 n=true):GD n "_law_made" Cp:=gF Up h
noncomputable def HM:Fn:=⟨473,"_law_quoted","_law_quoted",ET pw 40,.str "law_nt0367_01" 951,472,["text"]⟩
theorem QL:Bb HM:=EH (KN fun z0=>by kernel_rfl)
noncomputable def HN:St→R AF:=AP (Ag (cS "") (Az "found"))
 (AP (EF (A7 (AB "text")) (Az "sign")
 (AP (Ag (FA (Eu .And) [M7 (CC fun a b=>decide (a≤b)) (CC fun a b=>decide (a≤b)) (cF (.int 33)) (BK Pc (AD [AB "sign"])) (cF (.int 126)),AG JX (BK Pc (AD [AB "sign"])) (CU (AD [cF (.int 34),cF (.int 92)]))]) (Az "is_plain"))
 (Ag (AG As (AB "found") (CG (BQ (AB "is_plain")) (AB "sign") (AG As (cS "\\u") (CD (BK YM (AD [AG As (BK Pc (AD [AB "sign"])) (cF (.int 65536))])) (some (cF (.int 3))) none)))) (Az "found"))))
 (A3 (AG As (AG As (cS "\"") (AB "found")) (cS "\""))))
theorem QM:AR HM 0 HN:=EG .nil .nil
noncomputable def DD:AU:=Ar HM true HN
theorem QN:WR 473 0 DD:=AR.run QL QM true
theorem QO(h:Nat.ble 1 n=true):GD n "_law_quoted" DD:=gF QN h
noncomputable def Jn:Fn:=⟨480,"_law_line","_law_line",ET pw 41,.str "law_nt0367_01" 951,479,["drawn","pc","names","kinds"]⟩
theorem Ur:Bb Jn:=EH (j5 fun z0 z0 z0 z0=>by kernel_rfl)
noncomputable def Jo:St→R AF:=AP (Ag (AG Af (AQ "code" (AB "drawn")) (AB "pc")) (Gj [Az "op",Az "given"]))
 (AP (Ag (AG As (AG As (AG As (AG As (AG As (BK Ew (AD [AB "pc"])) (cS " ")) (BK Ew (AD [AG Af (AQ "lines" (AB "drawn")) (AB "pc")]))) (cS " ")) (AG Af (AB "names") (AB "op"))) (CG (BQ (AG bD (AB "given") (cF .none))) (cS "") (AG As (cS " ") (BK Ew (AD [AB "given"]))))) (Az "line"))
 (AP (CG (DL (Eu .And) [BQ (AG Ot (AG Af (AB "kinds") (AB "op")) (cS "ks")),BQ (AG (CC fun a b=>decide (a<b)) (AB "given") (BK BA (AD [AQ "consts" (AB "drawn")])))])
 (AP (Ag (AG Af (AQ "consts" (AB "drawn")) (AB "given")) (Az "value"))
 (Ag (AG As (AG As (AB "line") (cS " ; ")) (CG (BQ (BK F8 (AD [AB "value",cF (.ty "str")]))) (AN DD (AD [AB "value"])) (BK Ew (AD [AB "value"])))) (Az "line")))
 BX)
 (A3 (AB "line"))))
theorem Ut:AR Jn 1 Jo:=EG (.cons (QO rfl) .nil) .nil
noncomputable def D7:AU:=Ar Jn true Jo
theorem Uu:WR 480 1 D7:=AR.run Ur Ut true
theorem Uv(h:Nat.ble 2 n=true):GD n "_law_line" D7:=gF Uu h
noncomputable def D8:Fn:=⟨487,"_law_is_refused","_law_is_refused",ET pw 42,.str "law_nt0367_01" 951,486,["text"]⟩
theorem La:Bb D8:=EH (KN fun z0=>by kernel_rfl)
noncomputable def D9:St→R AF:=AP (NN (A0 (AN BF (AD [AB "text"]))))
 (A3 (cF (.bool false)))
theorem Lb:AR D8 42 D9:=EG (.cons (IL rfl) .nil) .nil
noncomputable def A4:AU:=Ar D8 true D9
theorem Lc:WR 487 42 A4:=AR.run La Lb true
theorem Gm(h:Nat.ble 43 n=true):GD n "_law_is_refused" A4:=gF Lc h
noncomputable def Bk:Fn:=⟨494,"_law_turned_right","_law_turned_right",ET pw 43,.str "law_nt0367_01" 951,493,["draws","lines"]⟩
theorem Jp:Bb Bk:=EH (O3 fun z0 z0=>by kernel_rfl)
noncomputable def DZ:St→R AF:=AP (Ag (AN AL (AD [AB "draws",BK BA (AD [AB "lines"])])) (Az "at"))
 (AP (Ag (AO JE (Gy NF) (AG Af (AB "lines") (AB "at")) (AD [cS " "])) (Az "words"))
 (AP (Ag (AG Af (Bi (AD [cS "x",cS "0",cS "07",cS "\"",cS "end",cS "\"a\"",cS "local1",cS ";"])) (AN AL (AD [AB "draws",cF (.int 8)]))) (ci (AB "words") (AN AL (AD [AB "draws",BK BA (AD [AB "words"])]))))
 (AP (Ag (AO JE (Gy Dd) (cS "\n") (AD [AG As (AG As (CD (AB "lines") none (some (AB "at"))) (Bi (AD [AO JE (Gy Dd) (cS " ") (AD [AB "words"])]))) (CD (AB "lines") (some (AG As (AB "at") (cF (.int 1)))) none)])) (Az "bent"))
 (AP (CG (BQ (AN A4 (AD [AB "bent"])))
 (A3 (cF (.bool true)))
 BX)
 (AP (Ag (AN BF (AD [AB "bent"])) (Az "found"))
 (A3 (AN Bh (AD [AN BF (AD [AN Bz (AD [AB "found"])]),AB "found"]))))))))
theorem Jq:AR Bk 50 DZ:=EG (.cons (L4 rfl) (.cons (IL rfl) (.cons (L3 rfl) (.cons (Gm rfl) (.cons (D5 rfl) .nil))))) .nil (sp:=true)
noncomputable def B5:AU:=Ar Bk true DZ
theorem Jr:WR 494 50 B5:=AR.run Jp Jq true
theorem Jt(h:Nat.ble 51 n=true):GD n "_law_turned_right" B5:=gF Jr h
noncomputable def O4:Fn:=⟨501,"law","law",ET pw 44,.str "law_nt0367_01" 951,500,["script"]⟩
theorem K_law:Bb O4:=EH (KN fun z0=>by kernel_rfl)
noncomputable def ZX:St→R AF:=AP (F9 (AD [AN EK (AD [AB "script"]),AN EL (AD []),AN EM (AD []),Bi (AD [])]) [Az "draws",Az "names",Az "kinds",Az "inner"])
 (AP (EF (A7 (BK Bw (AD [AN AL (AD [AB "draws",cF (.int 3)])]))) (Az "turn")
 (AP (Ag (AN Cp (AD [AB "draws",AB "kinds",CG (BQ (AG C5 (AN AL (AD [AB "draws",cF (.int 2)])) (cF (.int 0)))) (AB "inner") (Bi (AD []))])) (Az "drawn"))
 (Ag (CG (BQ (AG JY (AQ "units" (AB "drawn")) (Bi (AD [])))) (Bi (AD [AB "drawn"])) (AG As (AB "inner") (Bi (AD [AB "drawn"])))) (Az "inner"))))
 (AP (Ag (AN Cp (AD [AB "draws",AB "kinds",AB "inner"])) (Az "drawn"))
 (AP (Ag (AN Bz (AD [AB "drawn"])) (Az "text"))
 (AP (KH (AD [AN BF (AD [AB "text"]),AO JE (Gy Gz) (AB "text") (AD [cS "\n"])]) [Az "lines",Az "again"])
 (AP (CG (DL (Eu .Or) [K9 (BQ (AN Bh (AD [AB "again",AB "drawn"]))),BQ (AG Iq (AN Bz (AD [AB "again"])) (AB "text")),BQ (AN Bh (AD [AB "again",AN (Rs FH) (AD [cS "other",Bi (AD [cS "b"])])]))])
 (A3 (cF (.bool false)))
 BX)
 (AP (EF (A7 (BK Bw (AD [BK BA (AD [AQ "code" (AB "drawn")])]))) (Az "pc")
 (CG (BQ (AG (CC fun a b=>decide (a<b)) (AO PZ (NC ND) (AB "lines") (AD [AN D7 (AD [AB "drawn",AB "pc",AB "names",AB "kinds"])])) (cF (.int 1))))
 (A3 (cF (.bool false)))
 BX))
 (AP (CG (DL (Eu .Or) [K9 (BQ (AN A4 (AD [AO JE (Gy Dd) (cS "\n") (AD [CD (AB "lines") none (some (AN AL (AD [AB "draws",BK BA (AD [AB "lines"])])))])]))),K9 (BQ (AN A4 (AD [AG As (AB "text") (cS "\nend")])))])
 (A3 (cF (.bool false)))
 BX)
 (A3 (AN B5 (AD [AB "draws",AB "lines"]))))))))))
theorem B_law:AR O4 51 ZX:=EG (.cons (Jt rfl) (.cons (D5 rfl) (.cons (Gm rfl) (.cons (Uv rfl) (.cons (L3 rfl) (.cons (L4 rfl) (.cons (b8 rfl) (.cons (IL rfl) (.cons (Uq rfl) (.cons (SS rfl) (.cons (SX rfl) (.cons (Sb rfl) .nil)))))))))))) .nil
end
section
variable {α β:Type} {σ σ1 σ2 σ3:St} {f g:St→R AV} {fa:St→R (List AV)} {a b v w:AV} {vs:List AV} {d:D} {ds:List D} {x:Str} {F:AV→AV→St→R AV}
theorem bind_ok{r:R α}{k:α→St→R β}{a:α}(h:r=.ok a σ):r.bind k=k a σ:=by rw[h];rfl
theorem bind_exc{r:R α}{k:α→St→R β}(h:r=.exc σ):r.bind k=.exc σ:=by rw[h];rfl
theorem AJ:cF d σ=.ok (.d d) σ:=rfl
theorem AH(h:σ.m x=some v):AB x σ=.ok v σ:=by unfold AB;rw[h]
theorem Fx(h:σ.b x=some v):Aq x σ=.ok v σ:=by unfold Aq;rw[h]
theorem AE{r}(h1:f σ=.ok a σ1)(h2:g σ1=.ok b σ2)(h3:F a b σ2=r):AG F f g σ=r:=(bind_ok h1).trans ((bind_ok h2).trans h3)
theorem Ix(h1:f σ=.exc σ1):AG F f g σ=.exc σ1:=bind_exc h1
theorem AC:AD [] σ=.ok [] σ:=rfl
theorem AA{r:List (St→R AV)}(h:f σ=.ok v σ1)(h':AD r σ1=.ok vs σ2):AD (f::r) σ=.ok (v::vs) σ2:=(bind_ok h).trans (bind_ok h')
theorem DF{r:List (St→R AV)}(h:f σ=.exc σ1):AD (f::r) σ=.exc σ1:=bind_exc h
theorem BU(h:fa σ=.ok vs σ1)(h2:Fu vs=some ds)(h3:Nat.ble ds.length big=true:=by rfl):CU fa σ=.ok (.d (.tup ds)) σ1:=(bind_ok h).trans (by rw[h2];exact if_pos (Nat.le_of_ble_eq_true h3))
theorem Bq(h:fa σ=.ok vs σ1)(h2:Fu vs=some ds)(h3:Nat.ble ds.length big=true:=by rfl):Bi fa σ=.ok (.d (.lst ds)) σ1:=(bind_ok h).trans (by rw[h2];exact if_pos (Nat.le_of_ble_eq_true h3))
theorem KZ(h:fa σ=.ok vs σ1)(h3:Nat.ble vs.length big=true:=by rfl):KE fa σ=.ok (.lst σ1.cs.length) {σ1 with cs:=σ1.cs++[.lst vs]}:=(bind_ok h).trans (if_pos (Nat.le_of_ble_eq_true h3))
theorem Nm(h:f σ=.ok (.d (.int i)) σ1):UQ f σ=.ok (.d (.int (-i))) σ1:=bind_ok h
theorem Ab{r}(h:f σ=.ok a σ1)(h2:CH x a σ1=r):AQ x f σ=r:=(bind_ok h).trans h2
theorem Ao{F:List AV→St→R AV}{r}(h:fa σ=.ok vs σ1)(h2:F vs σ1=r):BK F fa σ=r:=(bind_ok h).trans h2
theorem cE{k:AU}{r}(h:fa σ=.ok vs σ1)(h2:(k vs σ1.cs).on σ1=r):AN k fa σ=r:=(bind_ok h).trans h2
theorem Sh{k:AU}(h:fa σ=.exc σ1):AN k fa σ=.exc σ1:=bind_exc h
theorem AY{k:AU}(h:fa σ=.ok vs σ1)(h2:k vs σ1.cs=.ok v σ1.cs):AN k fa σ=.ok v σ1:=(bind_ok h).trans (by rw[h2];rfl)
theorem BG{chk:List AK→AV→Bool}{F:AV→List AV→St→R AV}{r}(h:f σ=.ok a σ1)(hc:chk σ1.cs a=true)(h2:fa σ1=.ok vs σ2)(h3:F a vs σ2=r):AO chk F f fa σ=r:=(bind_ok h).trans ((if_pos hc).trans ((bind_ok h2).trans h3))
theorem Fe{chk:List AK→AV→Bool}{F:AV→List AV→St→R AV}(h:f σ=.ok a σ1)(hc:chk σ1.cs a=true)(h2:fa σ1=.exc σ2):AO chk F f fa σ=.exc σ2:=(bind_ok h).trans ((if_pos hc).trans (bind_exc h2))
theorem Ax{c:Bool}(h:f σ=.ok (.d (.bool c)) σ1):BQ f σ=.ok c σ1:=bind_ok h
theorem ZY(h:f σ=.exc σ1):BQ f σ=.exc σ1:=bind_exc h
theorem IU{t:St→R Bool}{c:Bool}(h:t σ=.ok c σ1):K9 t σ=.ok (!c) σ1:=bind_ok h
theorem ZZ{o:Bool}:DL o [] σ=.ok o σ:=rfl
theorem Nn{o:Bool}{t:St→R Bool}{r:List (St→R Bool)}{q}(h:t σ=.ok o σ1)(h':DL o r σ1=q):DL o (t::r) σ=q:=(bind_ok h).trans ((if_pos rfl).trans h')
theorem Uw{o:Bool}{t:St→R Bool}{r:List (St→R Bool)}(h:t σ=.ok (!o) σ1):DL o (t::r) σ=.ok (!o) σ1:=(bind_ok h).trans (if_neg (by cases o<;>decide))
theorem Za{t:St→R Bool}{k l:St→R α}{c:Bool}{r}(h:t σ=.ok c σ1)(hT:c=true→k σ1=r)(hF:c=false→l σ1=r):CG t k l σ=r:=(bind_ok h).trans (by cases c;exact hF rfl;exact hT rfl)
theorem BV{t:St→R Bool}{k l:St→R α}{r}(h:t σ=.ok true σ1)(hT:k σ1=r):CG t k l σ=r:=(bind_ok h).trans hT
theorem BM{t:St→R Bool}{k l:St→R α}{r}(h:t σ=.ok false σ1)(hT:l σ1=r):CG t k l σ=r:=(bind_ok h).trans hT
theorem Ux{t:St→R Bool}{k l:St→R α}{c:Bool}{r}(h:t σ=.ok c σ)(hT:c=true→k σ=r)(hF:c=false→l σ=r):CG t k l σ=r:=Za h hT hF
theorem A6{k l:St→R AF}{r}(h:k σ=.ok .next σ1)(h':l σ1=r):AP k l σ=r:=(bind_ok h).trans h'
theorem Ka{k l:St→R AF}(h:k σ=.ok (.ret v) σ1):AP k l σ=.ok (.ret v) σ1:=bind_ok h
theorem Vr{k l:St→R AF}(h:k σ=.exc σ1):AP k l σ=.exc σ1:=bind_exc h
theorem Cq:BX σ=.ok .next σ:=rfl
theorem DJ(h:f σ=.ok v σ1):A3 f σ=.ok (.ret v) σ1:=bind_ok h
theorem Vt(h:f σ=.exc σ1):A3 f σ=.exc σ1:=bind_exc h
theorem C2(h:f σ=.ok v σ1):A0 f σ=.ok .next σ1:=bind_ok h
theorem CR(h:f σ=.exc σ1):A0 f σ=.exc σ1:=bind_exc h
theorem AS{t:AV→St→R Unit}(h:f σ=.ok v σ1)(h2:t v σ1=.ok () σ2):Ag f t σ=.ok .next σ2:=(bind_ok h).trans (bind_ok h2)
theorem EB{t:AV→St→R Unit}(h:f σ=.exc σ1):Ag f t σ=.exc σ1:=bind_exc h
theorem Ae:Az x v σ=.ok () (σ.setM x v):=rfl
theorem iI:dv x v σ=.ok () (σ.setB x v):=rfl
theorem dB{r}(h:f σ=.ok a σ1)(h2:g σ1=.ok b σ2)(h3:YY v a b σ2=r):ci f g v σ=r:=(bind_ok h).trans ((bind_ok h2).trans h3)
theorem JM{r}(h:f σ=.ok a σ1)(h3:UE x v a σ1=r):EE x f v σ=r:=(bind_ok h).trans h3
theorem AI:(σ.setM x v).m x=some v:=if_pos rfl
theorem AM{y:Str}(h:y≠x){o}(h2:σ.m y=o):(σ.setM x v).m y=o:=(if_neg h).trans h2
theorem b_hit:(σ.setB x v).b x=some v:=if_pos rfl
theorem QP{y:Str}(h:y≠x){o}(h2:σ.b y=o):(σ.setB x v).b y=o:=(if_neg h).trans h2
theorem B0(h:σ.m x=some v:=by repeat' first|assumption|exact AI|exact b_hit|refine AM (by decide+kernel) ?_|refine QP (by decide+kernel) ?_):AB x σ=.ok v σ:=AH h
theorem mv{p:Prop}(h:p:=by repeat' first|assumption|exact AI|exact b_hit|refine AM (by decide+kernel) ?_|refine QP (by decide+kernel) ?_):p:=h
theorem Ld{F:Fn}{fz:Bool}{B:St→R AF}{bs:List AV}{cs:List AK}{σ0:St}{r:R AF}{q:RC}(hl:bs.length=F.names.length)(hs:Ct (BR F.s) F.names cs bs=σ0)(h:B σ0=r)(hf:fin fz cs.length r=q):Ar F fz B bs cs=q:=by
 unfold Ar;rw[if_pos hl,hs,h];exact hf
theorem BH{cs:List AK}{σ:St}{d:D}(hc:clo cs.length cs=true)(e:σ.cs=cs):fin true cs.length (.ok (.ret (.d d)) σ)=.ok (.d d) cs:=by
 unfold fin;simp only[LF,Tl,JQ,e,List.take_length,hc,if_true]
theorem iJ{cs:List AK}{σ:St}(hc:clo cs.length cs=true)(e:σ.cs=cs):fin true cs.length (.ok .next σ)=.ok (.d .none) cs:=by
 unfold fin;simp only[LF,Tl,JQ,e,List.take_length,hc,if_true]
theorem Mo{t:AV→St→R Unit}{b:St→R AF}(P:List D→St→Prop)(G:R AF→Prop)(nil:∀σ,P [] σ→G (.ok .next σ))
  (step:∀x xs σ,P (x::xs) σ→Aj (fun σ1=>t (.d x) σ=.ok () σ1) (fun σ1=>((Aj (fun σ2=>b σ1=.ok .next σ2) (fun σ2=>P xs σ2))∨(Gc (fun v σ2=>b σ1=.ok (.ret v) σ2) (fun v σ2=>G (.ok (.ret v) σ2)))∨Aj (fun σ2=>b σ1=.exc σ2) (fun σ2=>G (.exc σ2))))):∀xs σ,P xs σ→G (NJ t b xs σ)
 |[],σ,h=>nil σ h
 |x::xs,σ,h=>by
  obtain⟨σ1,e1,h⟩:=step x xs σ h
  unfold NJ
  rw[bind_ok e1]
  rcases h with⟨σ2,e2,h⟩|⟨v,σ2,e2,h⟩|⟨σ2,e2,h⟩
  ·rw[bind_ok e2];exact Mo P G nil step xs σ2 h
  ·rw[bind_ok e2];exact h
  ·rw[bind_exc e2];exact h
theorem Ff{f:St→R (List D)}{t:AV→St→R Unit}{b:St→R AF}{xs:List D}{r:R AF}(hf:f σ=.ok xs σ1)(h:NJ t b xs σ1=r):EF f t b σ=r:=(bind_ok hf).trans h
theorem O5{t:St→R Bool}{b:St→R AF}(P:Nat→St→Prop)(G:R AF→Prop)
  (step:∀n σ,P n σ→(Aj (fun σ1=>t σ=.ok false σ1) (fun σ1=>G (.ok .next σ1)))∨(Aj (fun σ1=>t σ=.exc σ1) (fun σ1=>G (.exc σ1)))∨Aj (fun σ1=>t σ=.ok true σ1) (fun σ1=>((E2_3 (fun σ2 m=>b σ1=.ok .next σ2) (fun σ2 m=>m<n) (fun σ2 m=>P m σ2))∨(Gc (fun v σ2=>b σ1=.ok (.ret v) σ2) (fun v σ2=>G (.ok (.ret v) σ2)))∨Aj (fun σ2=>b σ1=.exc σ2) (fun σ2=>G (.exc σ2))))):∀k n σ,n<k→P n σ→G (CV t b k σ)
 |0,n,σ,hk,h=>absurd hk (Nat.not_lt_zero _)
 |k+1,n,σ,hk,h=>by
  unfold CV
  rcases step n σ h with⟨σ1,e,h⟩|⟨σ1,e,h⟩|⟨σ1,e,h⟩
  ·rw[bind_ok e];exact h
  ·rw[bind_exc e];exact h
  ·rw[bind_ok e]
   show G ((b σ1).bind _)
   rcases h with⟨σ2,m,e2,l,h⟩|⟨v,σ2,e2,h⟩|⟨σ2,e2,h⟩
   ·rw[bind_ok e2];exact O5 P G step k m σ2 (by lia) h
   ·rw[bind_ok e2];exact h
   ·rw[bind_exc e2];exact h
theorem O6{t:AV→St→R Unit}{f:St→R AV}(P:List D→List D→St→Prop)
  (step:∀x xs out σ,P (x::xs) out σ→E3_3 (fun σ1 d σ2=>t (.d x) σ=.ok () σ1) (fun σ1 d σ2=>f σ1=.ok (.d d) σ2) (fun σ1 d σ2=>P xs (out++[d]) σ2)):∀xs out σ,P xs out σ→Gc (fun ds σ'=>DN t f xs σ=.ok ds σ') (fun ds σ'=>P [] (out++ds) σ')
 |[],out,σ,h=>⟨[],σ,rfl,by rw[List.append_nil];exact h⟩
 |x::xs,out,σ,h=>by
  obtain⟨σ1,d,σ2,e1,e2,h⟩:=step x xs out σ h
  obtain⟨ds,σ',e3,h⟩:=O6 P step xs _ σ2 h
  refine⟨d::ds,σ',?_,by rw[List.append_assoc] at h;exact h⟩
  unfold DN
  rw[bind_ok e1,bind_ok e2]
  show(DN t f xs σ2).bind _=_
  rw[bind_ok e3]
theorem Zb{fi:St→R (List D)}{t:AV→St→R Unit}{f:St→R AV}{xs:List D}(P:List D→List D→St→Prop)(hf:fi σ=.ok xs σ1)(hl:xs.length≤big)(h0:P xs [] (inner σ1))
  (step:∀x xs out σ,P (x::xs) out σ→E3_3 (fun σ1 d σ2=>t (.d x) σ=.ok () σ1) (fun σ1 d σ2=>f σ1=.ok (.d d) σ2) (fun σ1 d σ2=>P xs (out++[d]) σ2)):Gc (fun ds σ'=>compI fi t f σ=.ok ds {σ' with m:=σ1.m}) (fun ds σ'=>P [] ds σ'):=by
 obtain⟨ds,σ',e,h⟩:=O6 P step xs [] _ h0
 exact⟨ds,σ',(bind_ok hf).trans ((if_pos hl).trans (by rw[e];rfl)),h⟩
theorem Ju{ι:Type}{t:AV→St→R Unit}{f:St→R AV}{cs:List AK}{b:Str→Option AV}(e g:ι→D):∀(xs:List ι) (σ:St),σ.cs=cs→σ.b=b→
  (∀x∈xs,∀σ:St,σ.cs=cs→σ.b=b→JO (fun σ1 σ2=>t (.d (e x)) σ=.ok () σ1) (fun σ1 σ2=>f σ1=.ok (.d (g x)) σ2) (fun σ1 σ2=>σ2.cs=cs) (fun σ1 σ2=>σ2.b=b))→EU (fun σ'=>DN t f (xs.map e) σ=.ok (xs.map g) σ') (fun σ'=>σ'.cs=cs) (fun σ'=>σ'.b=b)
 |[],σ,h1,h2,_=>⟨σ,rfl,h1,h2⟩
 |x::xs,σ,h1,h2,step=>by
  obtain⟨σ1,σ2,e1,e2,h3,h4⟩:=step x (.head _) σ h1 h2
  obtain⟨σ',e3,h5,h6⟩:=Ju e g xs σ2 h3 h4 fun y hy=>step y (.tail _ hy)
  exact⟨σ',(bind_ok e1).trans ((bind_ok e2).trans (bind_ok e3)),h5,h6⟩
theorem Iy{ι:Type}{fi:St→R (List D)}{t:AV→St→R Unit}{f:St→R AV}{xs:List ι}(e g:ι→D)(hf:fi σ=.ok (xs.map e) σ1)(hl:xs.length≤big)
  (step:∀x∈xs,∀σ:St,σ.cs=σ1.cs→σ.b=σ1.b→JO (fun σ' σ2=>t (.d (e x)) σ=.ok () σ') (fun σ' σ2=>f σ'=.ok (.d (g x)) σ2) (fun σ' σ2=>σ2.cs=σ1.cs) (fun σ' σ2=>σ2.b=σ1.b)):Bg fi t f σ=.ok (.d (.lst (xs.map g))) σ1:=by
 obtain⟨σ',e',h1,h2⟩:=Ju e g xs (inner σ1) rfl rfl step
 refine(bind_ok (σ:=σ1) (a:=xs.map g) ((bind_ok hf).trans ((if_pos (by rw[List.length_map];exact hl)).trans ?_))).trans rfl
 rw[e']
 show R.ok _ _=_
 rw[h1,h2]
 rfl
theorem BN{d:D}{xs:List D}(h:f σ=.ok (.d d) σ1)(h2:G2 d=some xs):A7 f σ=.ok xs σ1:=(bind_ok h).trans (by show ofO (G2 d) _=_;rw[h2];rfl)
structure Bd{α:Type}(r:R α)(G:R α→Prop):Prop where
 h:G r
theorem Ac{F:Fn}{fz:Bool}{B:St→R AF}{bs:List AV}{cs:List AK}{σ0:St}{q:RC}(hl:bs.length=F.names.length)(hs:Ct (BR F.s) F.names cs bs=σ0)(h:Bd (B σ0) (fun r=>fin fz cs.length r=q)):Ar F fz B bs cs=q:=Ld hl hs rfl h.h
variable {G:R AF→Prop} {k l:St→R AF}
theorem Av(h:k σ=.ok .next σ1)(h':Bd (l σ1) G):Bd (AP k l σ) G:=⟨by rw[A6 h rfl];exact h'.h⟩
theorem Uy(h:Bd (k σ) fun r=>(Aj (fun σ1=>r=.ok .next σ1) (fun σ1=>Bd (l σ1) G))∨(Gc (fun v σ1=>r=.ok (.ret v) σ1) (fun v σ1=>G r))∨Aj (fun σ1=>r=.exc σ1) (fun σ1=>G r)):Bd (AP k l σ) G:=by
 rcases h.h with⟨σ1,e,h⟩|⟨v,σ1,e,h⟩|⟨σ1,e,h⟩
 ·exact Av e h
 ·rw[e] at h;exact⟨by rw[Ka e];exact h⟩
 ·rw[e] at h;exact⟨by rw[Vr e];exact h⟩
theorem Bx(h:k σ=.exc σ1)(q:G (.exc σ1)):Bd (AP k l σ) G:=⟨by rw[Vr h];exact q⟩
theorem No(h:k σ=.ok (.ret v) σ1)(q:G (.ok (.ret v) σ1)):Bd (AP k l σ) G:=⟨by rw[Ka h];exact q⟩
theorem BY(h:f σ=.ok v σ1)(q:G (.ok (.ret v) σ1)):Bd (A3 f σ) G:=⟨by rw[DJ h];exact q⟩
theorem Zc(h:f σ=.exc σ1)(q:G (.exc σ1)):Bd (A3 f σ) G:=⟨by rw[Vt h];exact q⟩
theorem Si{r:R AF}(h:k σ=r)(q:G r):Bd (k σ) G:=⟨by rw[h];exact q⟩
theorem Vu{t:St→R Bool}{c:Bool}(h:t σ=.ok c σ1)(hT:c=true→Bd (k σ1) fun r=>(Gc (fun v σ2=>r=.ok (.ret v) σ2) (fun v σ2=>G r))∨Aj (fun σ2=>r=.exc σ2) (fun σ2=>G r))(hF:c=false→Bd (l σ1) G):Bd (AP (CG t k BX) l σ) G:=by
 cases c
 ·exact Av (BM h rfl) (hF rfl)
 ·refine Uy ⟨?_⟩
  rw[BV h rfl]
  exact .inr (hT rfl).h
theorem Kb{t:St→R Bool}{c:Bool}(h:t σ=.ok c σ1)(hT:c=true→Gc (fun v σ2=>f σ1=.ok v σ2) (fun v σ2=>G (.ok (.ret v) σ2)))(hF:c=false→Bd (l σ1) G):Bd (AP (CG t (A3 f) BX) l σ) G:=
 Vu h (fun e=>let⟨v,σ2,h1,h2⟩:=hT e;⟨by rw[DJ h1];exact .inl ⟨v,σ2,rfl,h2⟩⟩) hF
theorem L5{fi:St→R (List D)}{t:AV→St→R Unit}{b:St→R AF}{xs:List D}(hf:fi σ=.ok xs σ1)(P:List D→St→Prop)(h0:P xs σ1)
  (step:∀x xs σ,P (x::xs) σ→Aj (fun σ1=>t (.d x) σ=.ok () σ1) (fun σ1=>((Aj (fun σ2=>b σ1=.ok .next σ2) (fun σ2=>P xs σ2))∨(Gc (fun v σ2=>b σ1=.ok (.ret v) σ2) (fun v σ2=>G (.ok (.ret v) σ2)))∨Aj (fun σ2=>b σ1=.exc σ2) (fun σ2=>G (.exc σ2)))))
  (h:∀σ',P [] σ'→Bd (l σ') G):Bd (AP (EF fi t b) l σ) G:=by
 refine Uy ⟨?_⟩
 rw[Ff hf rfl]
 refine Mo P (fun r=>(Aj (fun σ1=>r=.ok .next σ1) (fun σ1=>Bd (l σ1) G))∨(Gc (fun v σ1=>r=.ok (.ret v) σ1) (fun v σ1=>G r))∨Aj (fun σ1=>r=.exc σ1) (fun σ1=>G r)) (fun σ hp=>.inl ⟨σ,rfl,h σ hp⟩) (fun x xs σ hp=>?_) xs σ1 h0
 obtain⟨σ1,e,h⟩:=step x xs σ hp
 exact⟨σ1,e,h.imp id (Or.imp (fun⟨v,σ2,e,g⟩=>⟨v,σ2,e,.inr (.inl ⟨v,σ2,rfl,g⟩)⟩) fun⟨σ2,e,g⟩=>⟨σ2,e,.inr (.inr ⟨σ2,rfl,g⟩)⟩)⟩
theorem QQ{t:St→R Bool}{b:St→R AF}(P:Nat→St→Prop){n:Nat}(hn:n<big)(h0:P n σ)
  (step:∀n σ,P n σ→(Aj (fun σ1=>t σ=.ok false σ1) (fun σ1=>Bd (l σ1) G))∨(Aj (fun σ1=>t σ=.exc σ1) (fun σ1=>G (.exc σ1)))∨Aj (fun σ1=>t σ=.ok true σ1) (fun σ1=>((E2_3 (fun σ2 m=>b σ1=.ok .next σ2) (fun σ2 m=>m<n) (fun σ2 m=>P m σ2))∨(Gc (fun v σ2=>b σ1=.ok (.ret v) σ2) (fun v σ2=>G (.ok (.ret v) σ2)))∨Aj (fun σ2=>b σ1=.exc σ2) (fun σ2=>G (.exc σ2))))):Bd (AP (CV t b big) l σ) G:=by
 refine Uy ⟨?_⟩
 refine O5 P (fun r=>(Aj (fun σ1=>r=.ok .next σ1) (fun σ1=>Bd (l σ1) G))∨(Gc (fun v σ1=>r=.ok (.ret v) σ1) (fun v σ1=>G r))∨Aj (fun σ1=>r=.exc σ1) (fun σ1=>G r)) (fun n σ hp=>?_) big n σ hn h0
 rcases step n σ hp with⟨σ1,e,h⟩|⟨σ1,e,h⟩|⟨σ1,e,h⟩
 ·exact .inl ⟨σ1,e,.inl ⟨σ1,rfl,h⟩⟩
 ·exact .inr (.inl ⟨σ1,e,.inr (.inr ⟨σ1,rfl,h⟩)⟩)
 ·exact .inr (.inr ⟨σ1,e,h.imp id (Or.imp (fun⟨v,σ2,e,g⟩=>⟨v,σ2,e,.inr (.inl ⟨v,σ2,rfl,g⟩)⟩) fun⟨σ2,e,g⟩=>⟨σ2,e,.inr (.inr ⟨σ2,rfl,g⟩)⟩)⟩)
end
noncomputable abbrev BJ(cs:List AK):St:=⟨cs,fun z0=>none,fun z0=>none⟩
noncomputable def hd(k:Nat):Nat:=DM.getD k 0
noncomputable def Kc(n:Nat):List Nat:=[hd (n/4096),hd (n/256%16),hd (n/16%16),hd (n%16)]
section
variable {σ:St} {cs:List AK}
theorem Sj:DM.length=16:=by decide+kernel
theorem Uz{l:List Nat}{n c:Nat}(hb:n≤big)(h:l[n]? =some c):Af (.d (.str l)) (.d (.int n)) σ=.ok (.d (.str [c])) σ:=by
 show(if(n:Int)≤(big:Nat) then(ofO (Hp l n) fun c=>R.ok (AV.d (.str [c])) σ) else .stuck)=_
 rw[if_pos (by lia),show Hp l n=some c by unfold Hp;rw[if_pos (by lia),Int.toNat_natCast,h]];rfl
theorem Vv{n:Nat}(h:n<16):Af (.d (.str DM)) (.d (.int n)) σ=.ok (.d (.str [hd n])) σ:=
 Uz (by unfold big;lia) (by unfold hd;rw[List.getD_eq_getElem?_getD,List.getElem?_eq_getElem (by rw[Sj];exact h)];rfl)
theorem Vw{n k:Nat}(h:k≠0:=by decide)(h1:k<2^30:=by decide):Ay M6 (.d (.int n)) (.d (.int k)) σ=.ok (.d (.int (n/k:Nat))) σ:=by
 show(ofO (M6 n k) fun c=>R.ok (AV.d (.int c)) σ)=_
 rw[show M6 n k=some ((n/k:Nat):Int) by unfold M6;rw[if_pos ⟨by lia,by lia⟩,Int.fdiv_eq_ediv_of_nonneg _ (by lia)];rfl];rfl
theorem L6{n k:Nat}(h:k≠0:=by decide):Ay Ge (.d (.int n)) (.d (.int k)) σ=.ok (.d (.int (n%k:Nat))) σ:=by
 show(ofO (Ge n k) fun c=>R.ok (AV.d (.int c)) σ)=_
 rw[show Ge n k=some ((n%k:Nat):Int) by unfold Ge;rw[if_pos (by lia),Int.fmod_eq_emod_of_nonneg _ (by lia)];rfl];rfl
theorem DP{a b:List Nat}(h:Nat.ble (a.length+b.length) big=true):As (.d (.str a)) (.d (.str b)) σ=.ok (.d (.str (a++b))) σ:=if_pos (Nat.le_of_ble_eq_true h)
theorem U0{n:Nat}(h:n<65536)(hc:clo cs.length cs=true):G7 [.d (.int n)] cs=.ok (.d (.str (Kc n))) cs:=by
 have v:((BJ cs).setM (Str.ofString "number") (.d (.int n))).m (Str.ofString "number")=some (.d (.int n)):=AI
 exact Ld (σ0:=(BJ cs).setM (Str.ofString "number") (.d (.int n))) rfl (by kernel_rfl)
  (DJ (AE (AE (AE (AE AJ (AE (AH v) AJ (Vw (k:=4096))) (Vv (by lia)))
   (AE AJ (AE (AE (AH v) AJ (Vw (k:=256))) AJ (L6 (k:=16))) (Vv (by lia))) (DP rfl))
   (AE AJ (AE (AE (AH v) AJ (Vw (k:=16))) AJ (L6 (k:=16))) (Vv (by lia))) (DP rfl))
   (AE AJ (AE (AH v) AJ (L6 (k:=16))) (Vv (by lia))) (DP rfl))) (BH hc rfl)
noncomputable def Gb(l:List Nat):Bool:=l.all (· <0x110000)
theorem HO{l:List Nat}(h:Gb l=true):SeqAt.shaped (.str (so l))=true:=by
 unfold SeqAt.shaped
 rw[Bool.and_eq_true]
 refine⟨?_,by rw[PyData.depth];rfl⟩
 rw[PyData.canLay0]
 unfold PyData.strOk
 simpa[Gb] using h
theorem Np{i:Int}:SeqAt.shaped (.int i)=true:=by
 unfold SeqAt.shaped;rw[PyData.depth,PyData.canLay0];rfl
theorem dC{a b:List Nat}:(so a==so b)=decide (a=b):=by
 by_cases h:a=b
 ·subst h;simp
 ·rw[decide_eq_false h]
  refine beq_eq_false_iff_ne.mpr fun e=>h ?_
  exact congrArg (fun s:Str=>s.cps.toList) e
theorem QR{cs:List AK}{a b:List Nat}(ha:Gb a=true)(hb:Gb b=true):OP cs (.d (.str a)) (.d (.str b))=some (decide (a=b)):=by
 show(if SeqAt.shaped (.str (so a))&&SeqAt.shaped (.str (so b)) then some (PyData.eqv (.str (so a)) (.str (so b))) else none)=_
 rw[HO ha,HO hb,PyData.eqv,dC];rfl
theorem Iz{cs:List AK}{a b:Int}:OP cs (.d (.int a)) (.d (.int b))=some (decide (a=b)):=by
 show(if SeqAt.shaped (.int a)&&SeqAt.shaped (.int b) then some (PyData.eqv (.int a) (.int b)) else none)=_
 rw[Np,Np,PyData.eqv];rfl
theorem L7{a b:List Nat}(ha:Gb a=true)(hb:Gb b=true):C5 (.d (.str a)) (.d (.str b)) σ=.ok (.d (.bool (decide (a=b)))) σ:=by
 unfold C5;rw[QR ha hb];rfl
theorem O7{a b:List Nat}(ha:Gb a=true)(hb:Gb b=true):Iq (.d (.str a)) (.d (.str b)) σ=.ok (.d (.bool (!decide (a=b)))) σ:=by
 unfold Iq;rw[QR ha hb];rfl
theorem EO{a b:Int}:C5 (.d (.int a)) (.d (.int b)) σ=.ok (.d (.bool (decide (a=b)))) σ:=by
 unfold C5;rw[Iz];rfl
theorem Zd{a b:Int}:Iq (.d (.int a)) (.d (.int b)) σ=.ok (.d (.bool (!decide (a=b)))) σ:=by
 unfold Iq;rw[Iz];rfl
end
noncomputable abbrev N(s:String):Str:=Str.ofString s
noncomputable def Cr(c:Nat):Bool:=(decide ((32:Int)<c)&&decide ((c:Int)<127))&&(!decide ([c]=[34])&&(!decide ([c]=[92])&&true))
noncomputable def Sk(c:Nat):List Nat:=if Cr c then[c] else 92::117::Kc c
noncomputable def Cw(l:List Nat):List Nat:=l.flatMap Sk
noncomputable def DI(l:List Nat):List Nat:=34::(Cw l++[34])
theorem Vx(c:Nat):(Sk c).length≤6:=by unfold Sk;split<;>simp[Kc]
theorem IV(l:List Nat):(Cw l).length≤6*l.length:=by
 induction l with
 |nil=>simp[Cw]
 |cons c l ih=>
  have:=Vx c
  unfold Cw at ih ⊢
  rw[List.flatMap_cons,List.length_append,List.length_cons];lia
theorem GX{l:List Nat}(h:∀c∈l,c<65536):Gb l=true:=List.all_eq_true.mpr fun c hc=>decide_eq_true (Nat.lt_trans (h c hc) (by decide))
section
variable {σ:St} {cs:List AK}
theorem U1{F G:AV→AV→St→R AV}{f m h:St→R AV}{a b d:AV}{c e:Bool}(h1:f σ=.ok a σ)(h2:m σ=.ok b σ)(h3:F a b σ=.ok (.d (.bool c)) σ)(h4:h σ=.ok d σ)(h5:G b d σ=.ok (.d (.bool e)) σ):JT F G f m h σ=.ok (c&&e) σ:=by
 refine(bind_ok h1).trans ((bind_ok h2).trans ((bind_ok h3).trans ((bind_ok (a:=c) rfl).trans ?_)))
 cases c
 ·rfl
 ·exact(bind_ok h4).trans (bind_ok h5)
theorem U2{t:St→R Bool}{r:List (St→R Bool)}{b c:Bool}(h:t σ=.ok b σ)(h':DL (Eu .And) r σ=.ok c σ):DL (Eu .And) (t::r) σ=.ok (b&&c) σ:=by
 cases b
 ·exact Uw (o:=Eu .And) h
 ·exact Nn (o:=Eu .And) h h'
theorem GY{l:List Nat}(h:∀c∈l,c<65536)(hl:l.length≤10000)(hc:clo cs.length cs=true):CW [.d (.str l)] cs=.ok (.d (.str (DI l))) cs:=by
 unfold CW GQ
 refine Ac (σ0:=(BJ cs).setM (N "text") (.d (.str l))) rfl (by kernel_rfl) ?_
 refine Av (AS AJ Ae) ?_
 refine L5 (BN B0 rfl) (fun xs σ=>JO (fun pre post=>l=pre++post) (fun pre post=>xs=post.map (fun c=>D.str [c])) (fun pre post=>σ.cs=cs) (fun pre post=>σ.m (N "found")=some (.d (.str (Cw pre))))) ⟨[],l,rfl,rfl,rfl,AI⟩ ?_ ?_
 ·rintro x xs σ ⟨pre,post,e,e2,e3,e4⟩
  cases post with
  |nil=>cases e2
  |cons c post=>
   cases e2
   have hcc:c<65536:=h c (by rw[e];simp)
   have hpl:(Cw pre).length≤60000:=by
    have:=IV pre
    have:l.length=pre.length+(post.length+1):=by rw[e];simp
    lia
   have hq:Cw (pre++[c])=Cw pre++Sk c:=by simp[Cw]
   have okc:Gb [c]=true:=GX (by simpa using hcc)
   refine⟨_,Ae,.inl ⟨((σ.setM (N "sign") (.d (.str [c]))).setM (N "number") (.d (.int c))).setM (N "found") (.d (.str (Cw (pre++[c])))),?_,pre++[c],post,by rw[e];simp,rfl,e3,AI⟩⟩
   refine A6 (AS (Ao (AA (AH AI) AC) rfl) Ae) (Ux (c:=Cr c) ?_ (fun hp=>?_) fun hp=>?_)
   ·exact U2 (U1 AJ B0 rfl AJ rfl) (U2 (Ax (AE B0 AJ (O7 okc (by decide)))) (U2 (Ax (AE B0 AJ (O7 okc (by decide)))) ZZ))
   ·rw[hq,show Sk c=[c] by unfold Sk;rw[if_pos hp]]
    exact AS (AE B0 B0 (DP (Nat.ble_eq.mpr (by unfold big;simp;lia)))) Ae
   ·rw[hq,show Sk c=92::117::Kc c by unfold Sk;rw[if_neg (by rw[hp];decide)]]
    refine AS (AE (AE B0 AJ (DP (Nat.ble_eq.mpr (by unfold big;show _+2≤_;lia)))) (AY (AA B0 AC) (U0 hcc (by show clo σ.cs.length σ.cs=true;rw[e3];exact hc))) (DP (Nat.ble_eq.mpr (by unfold big;rw[List.length_append];show _+2+4≤_;lia)))) ?_
    show R.ok _ _=_
    rw[List.append_assoc];rfl
 ·rintro σ ⟨pre,post,e,e2,e3,e4⟩
  cases post with
  |cons=>cases e2
  |nil=>
   rw[List.append_nil] at e
   subst e
   have hq:=IV l
   exact BY (AE (AE AJ (AH e4) (DP (Nat.ble_eq.mpr (by show 1+_≤_;unfold big;lia)))) AJ (DP (Nat.ble_eq.mpr (by rw[List.length_append];show 1+_+1≤_;unfold big;lia)))) (BH hc e3)
end
noncomputable def IW:List Nat→Nat→Option Nat
 |[],n=>some n
 |c::l,n=>if c∈DM then IW l (n*16+DM.idxOf c) else none
noncomputable def Dw(w:List Nat):Int:=match IW w 0 with
 |some n=>if w.length=4 then n else-1
 |none=>-1
section
variable {σ:St} {cs:List AK} {f:St→R AV} {G:R AF→Prop} {k l:St→R AF}
theorem Ze{n k:Nat}(h:k<2^63:=by decide):Ay JD (.d (.int n)) (.d (.int k)) σ=.ok (.d (.int (n*k:Nat))) σ:=by
 show(ofO (JD n k) fun c=>R.ok (AV.d (.int c)) σ)=_
 rw[show JD n k=some ((n*k:Nat):Int) from if_pos h];rfl
theorem fM{c:Nat}(h:c∈DM):Gy Iu (.d (.str DM)) [.d (.str [c])] σ=.ok (.d (.int (DM.idxOf c:Nat))) σ:=if_pos ⟨rfl,h⟩
theorem Vy{c:Nat}{l:List Nat}{b:Bool}(h:decide (c∈l)=b):JX (.d (.str [c])) (.d (.str l)) σ=.ok (.d (.bool (!b))) σ:=h▸rfl
theorem jk{c:Nat}{l:List Nat}{b:Bool}(h:decide (c∈l)=b):Ot (.d (.str [c])) (.d (.str l)) σ=.ok (.d (.bool b)) σ:=h▸rfl
theorem Kd{l:List Nat}(h:l.length≤big):BA [.d (.str l)] σ=.ok (.d (.int l.length)) σ:=if_pos h
theorem Ce{t:St→R Bool}{c:Bool}(h:t σ=.ok c σ)(hT:c=true→Aj (fun v=>f σ=.ok v σ) (fun v=>G (.ok (.ret v) σ)))(hF:c=false→Bd (l σ) G):Bd (AP (CG t (A3 f) BX) l σ) G:=
 Kb h (fun e=>let⟨v,h1,h2⟩:=hT e;⟨v,σ,h1,h2⟩) hF
theorem QS{w:List Nat}(hl:w.length≤10000)(hc:clo cs.length cs=true):DB [.d (.str w)] cs=.ok (.d (.int (Dw w))) cs:=by
 unfold DB G9
 refine Ac (σ0:=(BJ cs).setM (N "word") (.d (.str w))) rfl (by kernel_rfl) ?_
 refine Av (AS AJ Ae) ?_
 refine L5 (BN B0 rfl) (fun xs σ=>au (fun post n=>xs=post.map (fun c=>D.str [c])) (fun post n=>σ.cs=cs) (fun post n=>σ.m (N "word")=some (.d (.str w))) (fun post n=>σ.m (N "number")=some (.d (.int (n:Nat)))) (fun post n=>IW w 0=IW post n)) ⟨w,0,rfl,rfl,mv,AI,rfl⟩ ?_ ?_
 ·rintro x xs σ ⟨post,n,e,e2,e3,e4,e5⟩
  cases post with
  |nil=>cases e
  |cons c post=>
   cases e
   refine⟨_,Ae,?_⟩
   by_cases h:c∈DM
   ·refine .inl ⟨_,A6 (BM (Ax (AE (AH AI) AJ (Vy (decide_eq_true h)))) Cq) (AS (AE (AE B0 AJ (Ze (k:=16))) (BG AJ rfl (AA B0 AC) (fM h)) rfl) Ae),post,n*16+DM.idxOf c,rfl,e2,mv,AI,?_⟩
    rw[e5];exact if_pos h
   ·refine .inr (.inl ⟨_,_,Ka (BV (Ax (AE (AH AI) AJ (Vy (decide_eq_false h)))) (DJ (Nm AJ))),?_⟩)
    have:Dw w=-1:=by unfold Dw;rw[e5,show IW (c::post) n=none from if_neg h]
    rw[this]
    exact BH hc e2
 ·rintro σ ⟨post,n,e,e2,e3,e4,e5⟩
  cases post with
  |cons=>cases e
  |nil=>
   refine BY (Ux (r:=.ok (.d (.int (Dw w))) σ) (Ax (AE (Ao (AA (AH e3) AC) (Kd (Nat.le_trans hl (by decide)))) AJ EO)) (fun h=>?_) fun h=>?_) (BH hc e2)
   ·rw[show Dw w=n by unfold Dw;rw[e5];exact if_pos (Int.ofNat_inj.mp (of_decide_eq_true h))]
    exact AH e4
   ·rw[show Dw w=-1 by unfold Dw;rw[e5];exact if_neg fun z=>of_decide_eq_false h (congrArg Int.ofNat z)]
    exact Nm AJ
end
noncomputable abbrev XG:List Nat:=(N "0123456789").cps.toList
noncomputable def I0(w:List Nat):Bool:=!(decide (w=[])||(!(w.all fun c=>decide (c∈XG))||(decide (w.head? =some 48)&&decide ((w.length:Int)>1))))
noncomputable def HP(w:List Nat)(n:Int):Int:=w.foldl (fun(n:Int) (c:Nat)=>n*10+c-48) n
noncomputable def U3(w:List Nat):Int:=HP w 0
noncomputable def AX(w:List Nat):Int:=if I0 w then U3 w else-1
noncomputable def Ft(w:List Nat):Prop:=(∀c∈w,c<65536)∧w.length≤10000
section
variable {σ:St} {cs:List AK} {f:St→R AV} {G:R AF→Prop} {k l:St→R AF}
theorem Ke{t:St→R Bool}{r:List (St→R Bool)}{b c:Bool}(h:t σ=.ok b σ)(h':b=false→DL (Eu .Or) r σ=.ok c σ):DL (Eu .Or) (t::r) σ=.ok (b||c) σ:=by
 cases b
 ·exact Nn (o:=Eu .Or) h (h' rfl)
 ·exact Uw (o:=Eu .Or) h
theorem HQ{t:St→R Bool}{r:List (St→R Bool)}{b c:Bool}(h:t σ=.ok b σ)(h':b=true→DL (Eu .And) r σ=.ok c σ):DL (Eu .And) (t::r) σ=.ok (b&&c) σ:=by
 cases b
 ·exact Uw (o:=Eu .And) h
 ·exact Nn (o:=Eu .And) h (h' rfl)
theorem QT{t:St→R Bool}{b:Bool}(h:t σ=.ok b σ):DL (Eu .Or) [t] σ=.ok b σ:=by
 rw[Ke h (c:=false) fun z0=>rfl,Bool.or_false]
theorem Mp{t:St→R Bool}{b:Bool}(h:t σ=.ok b σ):DL (Eu .And) [t] σ=.ok b σ:=by
 rw[HQ h (c:=true) fun z0=>rfl,Bool.and_true]
theorem fN{a b:Int}(h:b.natAbs<2^63:=by decide):Ay JD (.d (.int a)) (.d (.int b)) σ=.ok (.d (.int (a*b))) σ:=by
 show(ofO (JD a b) fun c=>R.ok (AV.d (.int c)) σ)=_
 rw[show JD a b=some (a*b) from if_pos h];rfl
theorem L8{ι:Type}(p:ι→Bool):∀l:List ι,G1 (l.map fun i=>D.bool (p i))=some (l.map p)
 |[]=>rfl
 |a::l=>by show(G1 _).map _=_;rw[L8 p l];rfl
theorem U4{ι:Type}{p:ι→Bool}{l:List ι}:Wr [.d (.lst (l.map fun i=>D.bool (p i)))] σ=.ok (.d (.bool (l.all p))) σ:=by
 show(ofO (G1 (l.map fun i=>D.bool (p i))) fun bs=>R.ok (AV.d (.bool (bs.all id))) σ)=_
 rw[L8]
 show R.ok (AV.d (.bool ((l.map p).all id))) σ=_
 rw[List.all_map];rfl
theorem Ft.ok{w:List Nat}(h:Ft w):Gb w=true:=GX h.1
theorem Ft.big{w:List Nat}(h:Ft w):w.length≤big:=Nat.le_trans h.2 (by decide)
theorem Fg{w:List Nat}(h:Ft w)(hc:clo cs.length cs=true):BB [.d (.str w)] cs=.ok (.d (.int (AX w))) cs:=by
 unfold BB FL
 refine Ac (σ0:=(BJ cs).setM (N "word") (.d (.str w))) rfl (by kernel_rfl) ?_
 have v:((BJ cs).setM (N "word") (.d (.str w))).m (N "word")=some (.d (.str w)):=AI
 refine Ce (c:=decide (w=[])||(!(w.all fun c=>decide (c∈XG))||(decide (w.head? =some 48)&&decide ((w.length:Int)>1)))) ?_ (fun e=>⟨_,Nm AJ,?_⟩) fun e=>?_
 ·refine Ke (Ax (AE (AH v) AJ (L7 h.ok rfl))) fun e1=>Ke (IU (Ax (Ao (AA (Iy (fun c=>D.str [c]) (fun c=>D.bool (decide (c∈XG))) (BN (AH v) rfl) h.big fun c hc σ' h1 h2=>⟨_,_,Ae,AE (AH AI) AJ rfl,h1,h2⟩) AC) U4))) fun e2=>QT ?_
  cases w with
  |nil=>cases e1
  |cons a w=>
   refine HQ (b:=decide ((a::w).head? =some 48)) (Ax (AE (AE (AH v) AJ (Uz (n:=0) (by decide) rfl)) AJ ?_)) fun e3=>Mp (Ax (AE (Ao (AA (AH v) AC) (Kd h.big)) AJ rfl))
   rw[L7 (GX (by simpa using h.1 a (.head _))) rfl]
   refine congrArg (fun b=>R.ok (AV.d (.bool b)) _) (decide_eq_decide.mpr ?_)
   show[a]=[48]↔some a=some 48
   simp
 ·rw[show AX w=-1 by unfold AX I0;rw[e];rfl]
  exact BH hc rfl
 ·refine Av (AS AJ Ae) (L5 (BN B0 rfl) (fun xs σ=>JO (fun post n=>xs=post.map (fun c=>D.str [c])) (fun post n=>σ.cs=cs) (fun post n=>σ.m (N "number")=some (.d (.int n))) (fun post n=>U3 w=HP post n)) ⟨w,0,rfl,rfl,AI,rfl⟩ ?_ ?_)
  ·rintro x xs σ ⟨post,n,e,e2,e4,e5⟩
   cases post with
   |nil=>cases e
   |cons c post=>
    cases e
    exact⟨_,Ae,.inl ⟨_,AS (AE (AE (AE B0 AJ fN) (Ao (AA B0 AC) rfl) rfl) AJ rfl) Ae,post,_,rfl,by exact e2,by exact AI,e5⟩⟩
  ·rintro σ ⟨post,n,e1,e2,e4,e5⟩
   cases post with
   |cons=>cases e1
   |nil=>
    rw[show AX w=n by unfold AX I0;rw[e,e5];rfl]
    exact BY (AH e4) (BH hc e2)
end
noncomputable def Fh(r:List Nat):Int:=Dw (((r++[34]).take 5).drop 1)
noncomputable def HR(r:List Nat):Bool:=!decide ((r++[34]).take 1=[117])||(decide (r.length<5)||decide (Fh r<0))
noncomputable def Of:Nat→List Nat→Option (List Nat)
 |0,_=>some []
 |n+1,[]=>some []
 |n+1,c::r=>if c=92 then(if HR r then none else(Of n (r.drop 5)).map ((Fh r).toNat:: ·)) else if c=34 then none else(Of n r).map (c:: ·)
noncomputable def Gn(w:List Nat):Bool:=decide ((w.length:Int)<2)||(!decide (w.take 1=[34])|| !decide (w.getLast? =some 34))
noncomputable def Be(w:List Nat):Option (List Nat):=if Gn w then none else Of w.length ((w.drop 1).take (w.length-2))
noncomputable def Ek:Option (List Nat)→D
 |some l=>.str l
 |none=>.none
set_option tactic.hygienic true in
theorem O8:∀(l:List Nat) (n m:Nat),IW l n=some m→m<(n+1)*16^l.length
 |[],n,m,h=>by cases h;simp
 |c::l,n,m,h=>by
  unfold IW at h
  split at h
  ·rename_i hc
   have h1:=O8 l _ m h
   have h2:DM.idxOf c<16:=by rw[←Sj];exact List.idxOf_lt_length_of_mem hc
   refine Nat.lt_of_lt_of_le h1 ?_
   rw[List.length_cons,Nat.pow_succ,Nat.mul_comm (16^l.length),←Nat.mul_assoc]
   exact Nat.mul_le_mul_right _ (by lia)
  ·cases h
set_option tactic.hygienic true in
theorem O9{w:List Nat}:Dw w<65536:=by
 unfold Dw
 split
 ·rename_i n e
  split
  ·rename_i h
   have:=O8 w 0 n e
   rw[h] at this
   lia
  ·decide
 ·decide
section
variable {σ σ1 σ2:St} {cs:List AK} {f:St→R AV} {G:R AF→Prop} {k l:St→R AF}
theorem Mq{fa:St→R (List AV)}{ts:List (AV→St→R Unit)}{vs:List AV}(h:fa σ=.ok vs σ1)(h2:Dj ts vs.reverse σ1=.ok () σ2)(h3:vs.length=ts.length:=by rfl)(h4:Nat.ble vs.length big=true:=by rfl):KH fa ts σ=.ok .next σ2:=
 (bind_ok h).trans ((if_pos ⟨h3,Nat.le_of_ble_eq_true h4⟩).trans (bind_ok h2))
theorem U5{a b:List Nat}{c:Bool}(ha:Gb a=true)(hb:Gb b=true)(h:decide (a=b)=c):Iq (.d (.str a)) (.d (.str b)) σ=.ok (.d (.bool (!c))) σ:=by rw[O7 ha hb,h]
theorem El{a b:List Nat}{c:Bool}(ha:Gb a=true)(hb:Gb b=true)(h:decide (a=b)=c):C5 (.d (.str a)) (.d (.str b)) σ=.ok (.d (.bool c)) σ:=by rw[L7 ha hb,h]
theorem fO{l:List Nat}{c:Nat}(h:l.getLast? =some c):Af (.d (.str l)) (.d (.int (-1))) σ=.ok (.d (.str [c])) σ:=by
 show(if(-1:Int)≤(big:Nat) then(ofO (Hp l (-1)) fun c=>R.ok (AV.d (.str [c])) σ) else .stuck)=_
 rw[if_pos (by lia),show Hp l (-1)=some c by unfold Hp;rw[if_neg (by lia),if_pos rfl,h]];rfl
theorem cG{g h:St→R AV}{l:List Nat}{lo hi:Int}(hf:f σ=.ok (.d (.str l)) σ)(hg:g σ=.ok (.d (.int lo)) σ)(hh:h σ=.ok (.d (.int hi)) σ)(h1:0≤lo)(h2:0≤hi)(hl:l.length≤big):CD f (some g) (some h) σ=.ok (.d (.str ((l.take hi.toNat).drop lo.toNat))) σ:=by
 refine(bind_ok hf).trans ((bind_ok (a:=(some lo,some hi)) (σ:=σ) ?_).trans (if_pos hl))
 exact(bind_ok (a:=some lo) ((bind_ok hg).trans (if_pos h1))).trans (bind_ok (a:=some hi) ((bind_ok hh).trans (if_pos h2)))
theorem Zf{w:List Nat}(e:Gn w=false):∃body,w=34::(body++[34]):=by
 simp only[Gn,Bool.or_eq_false_iff,Bool.not_eq_false',decide_eq_false_iff_not,decide_eq_true_eq] at e
 obtain⟨e1,e2,e3⟩:=e
 cases w with
 |nil=>cases e3
 |cons a w=>
  obtain rfl:a=34:=by simpa using e2
  rcases List.eq_nil_or_concat w with rfl|⟨b,z,rfl⟩
  ·simp at e1
  ·refine⟨b,?_⟩
   rw[List.concat_eq_append,←List.cons_append,List.getLast?_append] at e3
   simp at e3
   rw[e3,List.concat_eq_append]
theorem Me{w:List Nat}(h:Ft w)(hc:clo cs.length cs=true):Cu [.d (.str w)] cs=.ok (.d (Ek (Be w))) cs:=by
 unfold Cu Ee
 refine Ac (σ0:=(BJ cs).setM (N "word") (.d (.str w))) rfl (by kernel_rfl) ?_
 have v:((BJ cs).setM (N "word") (.d (.str w))).m (N "word")=some (.d (.str w)):=AI
 refine Ce (c:=Gn w) ?_ (fun e=>⟨_,AJ,?_⟩) fun e=>?_
 ·refine Ke (Ax (AE (Ao (AA (AH v) AC) (Kd h.big)) AJ rfl)) fun e1=>?_
  cases w with
  |nil=>cases e1
  |cons a w=>
   obtain⟨z,hz⟩:∃z,(a::w).getLast? =some z:=⟨_,List.getLast?_eq_some_getLast (by simp)⟩
   have hza:z∈a::w:=List.mem_of_getLast? hz
   refine Ke (Ax (AE (AE (AH v) AJ (Uz (n:=0) (by decide) rfl)) AJ (U5 (GX (by simpa using h.1 a (.head _))) rfl rfl))) fun e2=>QT (Ax (AE (AE (AH v) (Nm AJ) (fO hz)) AJ (U5 (GX (by simpa using h.1 z hza)) rfl ?_)))
   rw[hz];exact decide_eq_decide.mpr (by show[z]=[34]↔some z=some 34;simp)
 ·rw[show Be w=none by unfold Be;rw[e];rfl]
  exact BH hc rfl
 ·obtain⟨body,hw⟩:=Zf e
  have hu:Be w=Of w.length body:=by unfold Be;rw[e,hw];simp
  refine Av (Mq (AA AJ (AA AJ (AA (AE (Ao (AA (AH v) AC) (Kd h.big)) AJ rfl) AC))) rfl) ?_
  refine QQ (fun n σ=>ce (fun pre rest found k=>w=pre++(rest++[34])) (fun pre rest found k=>rest.length=n) (fun pre rest found k=>found.length≤pre.length) (fun pre rest found k=>n≤k) (fun pre rest found k=>Be w=(Of k rest).map (found++ ·)) (fun pre rest found k=>σ.cs=cs) (fun pre rest found k=>σ.m (N "word")=some (.d (.str w))) (fun pre rest found k=>σ.m (N "at")=some (.d (.int (pre.length:Nat)))) (fun pre rest found k=>σ.m (N "end")=some (.d (.int ((w.length:Int)-1)))) (fun pre rest found k=>σ.m (N "found")=some (.d (.str found))))
   (n:=body.length) (Nat.lt_of_lt_of_le (by rw[hw];simp;lia) h.big) ⟨[34],body,[],w.length,hw,rfl,by simp,by rw[hw];simp;lia,by rw[hu];simp,rfl,mv,mv,mv,AI⟩ ?_
  rintro n σ ⟨pre,rest,found,k,h1,h2,h3,h4,h5,h6,vw,va,ve,vf⟩
  have hlen:w.length=pre.length+(rest.length+1):=by rw[h1];simp
  have hcond:BQ (AG (CC fun a b=>decide (a<b)) (AB (N "at")) (AB (N "end"))) σ=.ok (decide ((pre.length:Int)<(w.length:Int)-1)) σ:=Ax (AE (AH va) (AH ve) rfl)
  cases rest with
  |nil=>
   refine .inl ⟨σ,hcond.trans (by rw[decide_eq_false (by simp at hlen;lia)]),?_⟩
   refine BY (AH vf) ?_
   rw[h5,show Of k []=some [] by cases k<;>rfl]
   show _=RC.ok (.d (.str (found++[]))) cs
   rw[List.append_nil]
   exact BH hc h6
  |cons c r=>
   refine .inr (.inr ⟨σ,hcond.trans (by rw[decide_eq_true (by simp at hlen;lia)]),?_⟩)
   rw[List.length_cons] at hlen
   subst h2
   have hcl:clo σ.cs.length σ.cs=true:=by rw[h6];exact hc
   have hat:w[pre.length]? =some c:=by rw[h1];simp
   have hcw:c<65536:=h.1 c (List.mem_of_getElem? hat)
   have hbig:pre.length+10≤big:=by have:=h.2;unfold big;lia
   have at0:AG Af (AB (N "word")) (AB (N "at")) σ=.ok (.d (.str [c])) σ:=AE (AH vw) (AH va) (Uz (by lia) hat)
   obtain⟨k,rfl⟩:∃k',k=k'+1:=⟨k-1,by rw[List.length_cons] at h4;lia⟩
   by_cases h92:c=92
   ·subst h92
    obtain⟨d,dr,hd⟩:∃d dr,r++[34]=d::dr:=by cases r<;>exact⟨_,_,rfl⟩
    have hd1:w[pre.length+1]? =some d:=by rw[h1,List.cons_append,hd];simp
    have hdw:d<65536:=h.1 d (List.mem_of_getElem? hd1)
    have hs:(w.take ((pre.length:Int)+6).toNat).drop ((pre.length:Int)+2).toNat=((r++[34]).take 5).drop 1:=by
     rw[h1,show((pre.length:Int)+6).toNat=pre.length+6 by lia,show((pre.length:Int)+2).toNat=pre.length+2 by lia,List.take_length_add_append,List.drop_length_add_append];rfl
    have e1:Ag (AN DB (AD [CD (AB (N "word")) (some (AG As (AB (N "at")) (cF (D.int 2)))) (some (AG As (AB (N "at")) (cF (D.int 6))))])) (Az (N "number")) σ=.ok .next (σ.setM (N "number") (.d (.int (Fh r)))):=
     AS (AY (AA (cG (AH vw) (AE (AH va) AJ rfl) (AE (AH va) AJ rfl) (by lia) (by lia) h.big) AC) (by rw[hs];exact QS (by simp;lia) hcl)) Ae
    generalize hτ:σ.setM (N "number") (.d (.int (Fh r)))=τ at e1
    have tw:τ.m (N "word")=some (.d (.str w)):=by rw[←hτ];exact mv
    have ta:τ.m (N "at")=some (.d (.int (pre.length:Nat))):=by rw[←hτ];exact mv
    have te:τ.m (N "end")=some (.d (.int ((w.length:Int)-1))):=by rw[←hτ];exact mv
    have tf:τ.m (N "found")=some (.d (.str found)):=by rw[←hτ];exact mv
    have tn:τ.m (N "number")=some (.d (.int (Fh r))):=by rw[←hτ];exact AI
    have tc:τ.cs=cs:=by rw[←hτ];exact h6
    have e2:DL (Eu .Or) [BQ (AG Iq (AG Af (AB (N "word")) (AG As (AB (N "at")) (cF (D.int 1)))) (cF (D.str (N "u").cps.toList))),BQ (AG (CC fun a b=>decide (a>b)) (AG As (AB (N "at")) (cF (D.int 6))) (AB (N "end"))),BQ (AG (CC fun a b=>decide (a<b)) (AB (N "number")) (cF (D.int 0)))] τ=.ok (HR r) τ:=by
     unfold HR
     refine Ke (Ax (AE (AE (AH tw) (AE (AH ta) AJ rfl) (Uz (n:=pre.length+1) (by lia) hd1)) AJ (U5 (GX (by simpa using hdw)) rfl (by rw[hd];rfl)))) fun z0=>Ke (Ax (AE (AE (AH ta) AJ rfl) (AH te) ?_)) fun z0=>QT (Ax (AE (AH tn) AJ rfl))
     exact congrArg (fun b=>R.ok (AV.d (.bool b)) τ) (decide_eq_decide.mpr (by lia))
    by_cases hb:HR r=true
    ·refine .inr (.inl ⟨_,τ,BV (Ax (AE at0 AJ (El rfl rfl rfl))) (A6 e1 (Ka (BV (e2.trans (by rw[hb])) (DJ AJ)))),?_⟩)
     rw[h5,show Of (k+1) (92::r)=none by rw[Of,if_pos rfl,if_pos hb]]
     exact BH hc tc
    ·have hb':HR r=false:=by cases q:HR r with|true=>exact absurd q hb|false=>rfl
     have hr:5≤r.length∧0≤Fh r:=by
      unfold HR at hb'
      simp only[Bool.or_eq_false_iff,decide_eq_false_iff_not] at hb'
      exact⟨by lia,by lia⟩
     have hx:Fh r<65536:=O9
     have hp:(pre++92::r.take 5).length=pre.length+6:=by rw[List.length_append,List.length_cons,List.length_take];lia
     refine .inl ⟨(τ.setM (N "found") (.d (.str (found++[(Fh r).toNat])))).setM (N "at") (.d (.int ((pre.length:Int)+6))),(r.drop 5).length,BV (Ax (AE at0 AJ (El rfl rfl rfl))) (A6 e1 (A6 (BM (e2.trans (by rw[hb'])) Cq) (A6 (AS (AE (AH tf) (Ao (AA (AH tn) AC) (if_pos ⟨hr.2,by lia⟩)) (DP (Nat.ble_eq.mpr (by show _+1≤_;lia)))) Ae) (AS (AE B0 AJ rfl) Ae)))),by rw[List.length_drop,List.length_cons];lia,
      pre++92::r.take 5,r.drop 5,found++[(Fh r).toNat],k,?_,rfl,?_,?_,?_,tc,mv,?_,mv,mv⟩
     ·rw[h1,List.append_assoc,List.cons_append,List.cons_append,←List.append_assoc (r.take 5),List.take_append_drop]
     ·rw[hp,List.length_append];show _+1≤_;lia
     ·rw[List.length_drop];rw[List.length_cons] at h4;lia
     ·rw[h5,Of,if_pos rfl,if_neg hb,Option.map_map];congr 1;funext x;simp
     ·rw[hp];exact AI
   ·have n92:decide ([c]=[92])=false:=decide_eq_false (by simpa using h92)
    by_cases h34:c=34
    ·subst h34
     refine .inr (.inl ⟨_,σ,BM (Ax (AE at0 AJ (El rfl rfl n92))) (BV (Ax (AE at0 AJ (El rfl rfl rfl))) (DJ AJ)),?_⟩)
     rw[h5,show Of (k+1) (34::r)=none by rw[Of,if_neg h92,if_pos rfl]]
     exact BH hc h6
    ·have n34:decide ([c]=[34])=false:=decide_eq_false (by simpa using h34)
     have hp:(pre++[c]).length=pre.length+1:=by simp
     refine .inl ⟨(σ.setM (N "found") (.d (.str (found++[c])))).setM (N "at") (.d (.int ((pre.length:Int)+1))),r.length,BM (Ax (AE at0 AJ (El (GX (by simpa using hcw)) rfl n92))) (BM (Ax (AE at0 AJ (El (GX (by simpa using hcw)) rfl n34))) (A6 (AS (AE (AH vf) at0 (DP (Nat.ble_eq.mpr (by show _+1≤_;lia)))) Ae) (AS (AE B0 AJ rfl) Ae))),by rw[List.length_cons];lia,
      pre++[c],r,found++[c],k,by rw[h1];simp,rfl,by rw[hp,List.length_append];show _+1≤_;lia,by rw[List.length_cons] at h4;lia,?_,h6,mv,?_,mv,mv⟩
     ·rw[h5,Of,if_neg h92,if_neg h34,Option.map_map];congr 1;funext x;simp
     ·rw[hp];exact AI
end
noncomputable abbrev sL(s:String):List Nat:=(N s).cps.toList
noncomputable abbrev Pl:=Option (Bool×Nat)
noncomputable def Cx(b:Bool):List Nat:=if b then sL "local" else sL "cell"
noncomputable def Hm:Pl→D
 |none=>.none
 |some (b,n)=>.tup [.str (Cx b),.int n]
noncomputable def C0:Pl→List Nat
 |none=>sL "none"
 |some (b,n)=>Cx b++A9 n
noncomputable def B7(n:Nat):Prop:=n<2^100
noncomputable def Jv:Pl→Prop
 |none=>True
 |some (_,n)=>B7 n
noncomputable def By(w:List Nat):Option Pl:=
 if w=sL "none" then some none
 else if decide (w.take 5=Cx true)&&decide (0≤AX (w.drop 5)) then some (some (true,(AX (w.drop 5)).toNat))
 else if decide (w.take 4=Cx false)&&decide (0≤AX (w.drop 4)) then some (some (false,(AX (w.drop 4)).toNat)) else none
noncomputable def Sl:Option Pl→D
 |some p=>.tup [.bool true,Hm p]
 |none=>.tup [.bool false,.none]
section
variable {σ σ1 σ2:St} {cs:List AK} {f g:St→R AV} {G:R AF→Prop} {k l:St→R AF}
theorem QU{l:List Nat}{hi:Int}(hf:f σ=.ok (.d (.str l)) σ)(hh:g σ=.ok (.d (.int hi)) σ)(h2:0≤hi)(hl:l.length≤big):CD f none (some g) σ=.ok (.d (.str (l.take hi.toNat))) σ:=
 (bind_ok hf).trans ((bind_ok (a:=(none,some hi)) (σ:=σ) ((bind_ok (a:=none) (σ:=σ) rfl).trans (bind_ok (a:=some hi) ((bind_ok hh).trans (if_pos h2))))).trans (if_pos hl))
theorem QV{l:List Nat}{lo:Int}(hf:f σ=.ok (.d (.str l)) σ)(hh:g σ=.ok (.d (.int lo)) σ)(h2:0≤lo)(hl:l.length≤big):CD f (some g) none σ=.ok (.d (.str (l.drop lo.toNat))) σ:=
 (bind_ok hf).trans ((bind_ok (a:=(some lo,none)) (σ:=σ) ((bind_ok (a:=some lo) ((bind_ok hh).trans (if_pos h2))).trans (bind_ok (a:=none) (σ:=σ) rfl))).trans (if_pos hl))
theorem Vz{t:AV→St→R Unit}{b:St→R AF}:NJ t b [] σ=.ok .next σ:=rfl
theorem HS{t:AV→St→R Unit}{b:St→R AF}{x:D}{xs:List D}{r}(h1:t (.d x) σ=.ok () σ1)(h2:b σ1=.ok .next σ2)(h3:NJ t b xs σ2=r):NJ t b (x::xs) σ=r:=(bind_ok h1).trans ((bind_ok h2).trans h3)
theorem Mr{t:AV→St→R Unit}{b:St→R AF}{x:D}{xs:List D}{v:AV}(h1:t (.d x) σ=.ok () σ1)(h2:b σ1=.ok (.ret v) σ2):NJ t b (x::xs) σ=.ok (.ret v) σ2:=(bind_ok h1).trans (bind_ok h2)
theorem PA{xs:List D}{x:D}{n:Nat}(h:xs[n]? =some x)(hn:n≤big):Af (.d (.tup xs)) (.d (.int n)) σ=.ok (.d x) σ:=by
 show(if(0:Int)≤n∧(n:Int)≤(big:Nat) then(ofO (xs[(n:Int).toNat]?) fun x=>R.ok (AV.d x) σ) else .stuck)=_
 rw[if_pos ⟨by lia,by lia⟩,Int.toNat_natCast,h];rfl
theorem B8{xs:List D}{x:D}{n:Nat}(h:xs[n]? =some x)(hn:n≤big):Af (.d (.lst xs)) (.d (.int n)) σ=.ok (.d x) σ:=by
 show(if(0:Int)≤n∧(n:Int)≤(big:Nat) then(ofO (xs[(n:Int).toNat]?) fun x=>R.ok (AV.d x) σ) else .stuck)=_
 rw[if_pos ⟨by lia,by lia⟩,Int.toNat_natCast,h];rfl
theorem Eo{n:Nat}(h:B7 n):Ew [.d (.int n)] σ=.ok (.d (.str (A9 n))) σ:=if_pos h
theorem HV{p:Pl}(hp:Jv p)(hl:∀b n,p=some (b,n)→(A9 n).length≤1000)(hc:clo cs.length cs=true):Cn [.d (Hm p)] cs=.ok (.d (.str (C0 p))) cs:=by
 unfold Cn HC
 refine Ac (σ0:=(BJ cs).setM (N "place") (.d (Hm p))) rfl (by kernel_rfl) ?_
 have v:((BJ cs).setM (N "place") (.d (Hm p))).m (N "place")=some (.d (Hm p)):=AI
 cases p with
 |none=>exact BY (BV (Ax (AE (AH v) AJ rfl)) AJ) (BH hc rfl)
 |some q=>
  obtain⟨b,n⟩:=q
  have h1:=hl b n rfl
  refine BY (BM (Ax (AE (AH v) AJ rfl)) (AE (AE (AH v) AJ (PA (n:=0) rfl (by decide))) (Ao (AA (AE (AH v) AJ (PA (n:=1) rfl (by decide))) AC) (Eo hp)) (DP (Nat.ble_eq.mpr ?_)))) (BH hc rfl)
  have:(Cx b).length≤5:=by cases b<;>decide
  unfold big;lia
theorem U6{w:List Nat}(h:Ft w)(hc:clo cs.length cs=true):D2 [.d (.str w)] cs=.ok (.d (Sl (By w))) cs:=by
 unfold D2 Jd
 refine Ac (σ0:=(BJ cs).setM (N "word") (.d (.str w))) rfl (by kernel_rfl) ?_
 have v:((BJ cs).setM (N "word") (.d (.str w))).m (N "word")=some (.d (.str w)):=AI
 refine Ce (Ax (AE (AH v) AJ (L7 h.ok rfl))) (fun e=>⟨_,BU (AA AJ (AA AJ AC)) rfl,?_⟩) fun e=>?_
 ·rw[show By w=some none from if_pos (of_decide_eq_true e)]
  exact BH hc rfl
 ·have hn:∀(b:Bool) (τ:St),τ.cs=cs→τ.m (N "word")=some (.d (.str w))→τ.m (N "kind")=some (.d (.str (Cx b)))→
    AN BB (AD [CD (AB (N "word")) (some (BK BA (AD [AB (N "kind")]))) none]) τ=.ok (.d (.int (AX (w.drop (Cx b).length)))) τ:=fun b τ t1 t2 t3=>
   AY (AA (QV (AH t2) (Ao (AA (AH t3) AC) (Kd (by cases b<;>decide))) (by lia) h.big) AC) (by rw[Int.toNat_natCast];exact Fg ⟨fun c hc=>h.1 c (List.mem_of_mem_drop hc),by rw[List.length_drop];exact Nat.le_trans (Nat.sub_le ..) h.2⟩ (by rw[t1];exact hc))
  have hcond:∀(b:Bool) (τ:St),τ.cs=cs→τ.m (N "word")=some (.d (.str w))→τ.m (N "kind")=some (.d (.str (Cx b)))→
    DL (Eu .And) [BQ (AG C5 (CD (AB (N "word")) none (some (BK BA (AD [AB (N "kind")])))) (AB (N "kind"))),BQ (AG (CC fun a b=>decide (b≤a)) (AN BB (AD [CD (AB (N "word")) (some (BK BA (AD [AB (N "kind")]))) none])) (cF (D.int 0)))] τ=
     .ok (decide (w.take (Cx b).length=Cx b)&&decide (0≤AX (w.drop (Cx b).length))) τ:=fun b τ t1 t2 t3=>
   HQ (Ax (AE (QU (AH t2) (Ao (AA (AH t3) AC) (Kd (by cases b<;>decide))) (by lia) h.big) (AH t3) (L7 (GX fun c hc=>h.1 c (List.mem_of_mem_take hc)) (by cases b<;>rfl)))) fun z0=>Mp (Ax (AE (hn b τ t1 t2 t3) AJ rfl))
  have e':w≠sL "none":=of_decide_eq_false e
  have hret:∀(b:Bool) (τ:St),τ.cs=cs→τ.m (N "word")=some (.d (.str w))→τ.m (N "kind")=some (.d (.str (Cx b)))→0≤AX (w.drop (Cx b).length)→
    A3 (CU (AD [cF (.bool true),CU (AD [AB (N "kind"),AN BB (AD [CD (AB (N "word")) (some (BK BA (AD [AB (N "kind")]))) none])])])) τ=.ok (.ret (.d (Sl (some (some (b,(AX (w.drop (Cx b).length)).toNat)))))) τ:=fun b τ t1 t2 t3 t4=>
   DJ (BU (AA AJ (AA (BU (AA (AH t3) (AA (hn b τ t1 t2 t3) AC)) rfl) AC)) (by show some [_,_]=some [_,D.tup [_,D.int (Int.ofNat _)]];rw[Int.ofNat_eq_natCast,Int.toNat_of_nonneg t4]))
  cases h1:(decide (w.take 5=Cx true)&&decide (0≤AX (w.drop 5))) with
  |true=>
   refine No (Ff (BN (BU (AA AJ (AA AJ AC)) rfl) rfl) (Mr Ae (BV ((hcond true _ rfl mv AI).trans (by show R.ok _ _=_;exact congrArg (fun b=>R.ok b _) h1)) (hret true _ rfl mv AI (of_decide_eq_true (Bool.and_eq_true_iff.mp h1).2))))) ?_
   rw[show By w=some (some (true,(AX (w.drop 5)).toNat)) by unfold By;rw[if_neg e',if_pos h1]]
   exact BH hc rfl
  |false=>
   cases h2:(decide (w.take 4=Cx false)&&decide (0≤AX (w.drop 4))) with
   |true=>
    refine No (Ff (BN (BU (AA AJ (AA AJ AC)) rfl) rfl) (HS Ae (BM ((hcond true _ rfl mv AI).trans (congrArg (fun b=>R.ok b _) h1)) Cq) (Mr Ae (BV ((hcond false _ rfl mv AI).trans (congrArg (fun b=>R.ok b _) h2)) (hret false _ rfl mv AI (of_decide_eq_true (Bool.and_eq_true_iff.mp h2).2)))))) ?_
    rw[show By w=some (some (false,(AX (w.drop 4)).toNat)) by unfold By;rw[if_neg e',if_neg (by rw[h1];decide),if_pos h2]]
    exact BH hc rfl
   |false=>
    refine Av (Ff (BN (BU (AA AJ (AA AJ AC)) rfl) rfl) (HS Ae (BM ((hcond true _ rfl mv AI).trans (congrArg (fun b=>R.ok b _) h1)) Cq) (HS Ae (BM ((hcond false _ rfl mv AI).trans (congrArg (fun b=>R.ok b _) h2)) Cq) Vz))) (BY (BU (AA AJ (AA AJ AC)) rfl) ?_)
    rw[show By w=none by unfold By;rw[if_neg e',if_neg (by rw[h1];decide),if_neg (by rw[h2];decide)]]
    exact BH hc rfl
end
theorem Go(n:Nat):A9 (n:Int)=(Nat.toDigits 10 n).map Char.toNat:=by
 show(Str.ofString (Nat.repr n)).cps.toList=_
 rw[←Nat.toList_repr]
 exact cpsOfBytes_string _
theorem V0{n:Nat}(h:n<10):A9 (n:Int)=[48+n]:=by
 rw[Go,Nat.toDigits_of_lt_base h]
 match n,h with
 |0,_|1,_|2,_|3,_|4,_|5,_|6,_|7,_|8,_|9,_=>rfl
theorem cH{n:Nat}(h:10≤n):A9 (n:Int)=A9 ((n/10:Nat):Int)++[48+n%10]:=by
 rw[Go,Nat.toDigits_of_base_le (by decide) h,List.map_append,←Go]
 have:=V0 (n:=n%10) (Nat.mod_lt _ (by decide))
 rw[Go,Nat.toDigits_of_lt_base (Nat.mod_lt _ (by decide))] at this
 rw[show List.map Char.toNat [(n%10).digitChar]=_ from this]
theorem Bf{n:Nat}(h:B7 n):(A9 (n:Int)).length≤31:=by
 rw[Go,List.length_map]
 exact(Nat.length_toDigits_le_iff (by decide) (by decide)).mpr (Nat.lt_of_lt_of_le h (by decide))
theorem cI{c:Nat}(h:48≤c∧c<58):c∈XG:=by
 have:∀i,i<10→48+i∈XG:=by decide+kernel
 rw[show c=48+(c-48) by lia]
 exact this _ (by lia)
theorem QW(a:List Nat)(c:Nat):HP (a++[c]) 0=HP a 0*10+c-48:=by unfold HP;rw[List.foldl_append];rfl
theorem Gp:∀(n:Nat),(∀c∈A9 (n:Int),48≤c∧c<58)∧HP (A9 (n:Int)) 0=n∧A9 (n:Int)≠[]∧(0<n→(A9 (n:Int)).head? ≠some 48):=fun n=>by
 by_cases h:n<10
 ·rw[V0 h]
  refine⟨fun c hc=>?_,?_,by simp,fun h0=>?_⟩
  ·obtain rfl:=List.mem_singleton.mp hc;lia
  ·show(0:Int)*10+((48+n:Nat):Int)-48=n;lia
  ·simp only[List.head?_cons,ne_eq,Option.some.injEq];lia
 ·have ih:=Gp (n/10)
  rw[cH (by lia)]
  refine⟨fun c hc=>?_,?_,by simp,fun h0=>?_⟩
  ·rcases List.mem_append.mp hc with hc|hc
   ·exact ih.1 c hc
   ·obtain rfl:=List.mem_singleton.mp hc;lia
  ·rw[QW,ih.2.1];lia
  ·have:=ih.2.2.2 (by lia)
   revert this
   cases e:A9 ((n/10:Nat):Int) with
   |nil=>exact absurd e ih.2.2.1
   |cons a l=>exact id
termination_by n=>n
decreasing_by lia
theorem Cz(n:Nat):AX (A9 (n:Int))=n:=by
 obtain⟨h1,h2,h3,h4⟩:=Gp n
 have:I0 (A9 (n:Int))=true:=by
  unfold I0
  rw[decide_eq_false h3,List.all_eq_true.mpr fun c hc=>decide_eq_true (cI (h1 c hc))]
  by_cases h:0<n
  ·rw[decide_eq_false (h4 h)];rfl
  ·obtain rfl:n=0:=by lia
   rfl
 unfold AX
 rw[if_pos this]
 exact h2
structure Hd where
 name:Option (List Nat)
 params:List (List Nat)
 code:List (Nat×Option Nat)
 consts:List (List Nat ⊕ Nat)
 handlers:List (Nat×Nat×Nat×Nat×Bool)
 lines:List Nat
 lc:Nat
 cc:Nat
 caps:List (Bool×Nat)
 strict:Bool
 args:Bool
 self:Pl
 argp:Pl
 places:List Pl
noncomputable def Hd.wstrict(h:Hd)(x:Bool):Hd:={h with strict:=x}
noncomputable def Hd.wargs(h:Hd)(x:Bool):Hd:={h with args:=x}
noncomputable def Hd.wplaces(h:Hd)(x:List Pl):Hd:={h with places:=x}
noncomputable def Hd.wself(h:Hd)(x:Pl):Hd:={h with self:=x}
noncomputable def Hd.wargp(h:Hd)(x:Pl):Hd:={h with argp:=x}
noncomputable def Hd.wlc(h:Hd)(x:Nat):Hd:={h with lc:=x}
noncomputable def Hd.wcc(h:Hd)(x:Nat):Hd:={h with cc:=x}
noncomputable def Hd.wcaps(h:Hd)(x:List (Bool×Nat)):Hd:={h with caps:=x}
noncomputable def Hd.wconsts(h:Hd)(x:List (List Nat ⊕ Nat)):Hd:={h with consts:=x}
noncomputable def Hd.whandlers(h:Hd)(x:List (Nat×Nat×Nat×Nat×Bool)):Hd:={h with handlers:=x}
inductive U where
 |mk (h:Hd) (us:List U)
noncomputable def Aa(n:Nat):D:=.int n
noncomputable def IX:Option Nat→D
 |some n=>.int n
 |none=>.none
noncomputable def Hl(p:Nat×Option Nat):D:=.tup [Aa p.1,IX p.2]
noncomputable def cD:List Nat ⊕ Nat→D
 |.inl l=>.str l
 |.inr n=>.int n
noncomputable def L9(p:Nat×Nat×Nat×Nat×Bool):D:=.tup [Aa p.1,Aa p.2.1,Aa p.2.2.1,Aa p.2.2.2.1,.bool p.2.2.2.2]
noncomputable def Le(p:Bool×Nat):D:=.tup [.bool p.1,Aa p.2]
noncomputable def Hd.flds(h:Hd)(us:List D):List D:=[Ek h.name,.lst (h.params.map .str),.lst (h.code.map Hl),.lst (h.consts.map cD),.lst us,.lst (h.handlers.map L9),.lst (h.lines.map Aa),Aa h.lc,Aa h.cc,.lst (h.caps.map Le),.bool h.strict,.bool h.args,Hm h.self,Hm h.argp,.lst (h.places.map Hm)]
mutual
noncomputable def U.D:U→D
 |.mk h us=>.obj (h.flds (Us.D us))
noncomputable def Us.D:List U→List D
 |[]=>[]
 |u::r=>u.D::Us.D r
end
section
variable {σ σ1 σ2:St} {cs:List AK} {h:Hd} {us:List D}
theorem QX{f:St→R AV}{v:AV}{G:R AF→Prop}(h:f σ=.ok v σ)(q:G (.ok (.ret v) σ)):Bd (A3 f σ) G:=BY h q
theorem Lf{α:Type}{t:St→R Bool}{k l:St→R α}{c:Bool}{v:α}(h:t σ=.ok c σ)(hT:c=true→k σ=.ok v σ)(hF:c=false→l σ=.ok v σ):CG t k l σ=.ok v σ:=Za h hT hF
theorem Lg:CH (N "name") (.d (.obj (h.flds us))) σ=.ok (.d (Ek h.name)) σ:=by kernel_rfl
theorem Kf:CH (N "params") (.d (.obj (h.flds us))) σ=.ok (.d (.lst (h.params.map .str))) σ:=by kernel_rfl
theorem Jw:CH (N "code") (.d (.obj (h.flds us))) σ=.ok (.d (.lst (h.code.map Hl))) σ:=by kernel_rfl
theorem Gq:CH (N "consts") (.d (.obj (h.flds us))) σ=.ok (.d (.lst (h.consts.map cD))) σ:=by kernel_rfl
theorem I3:CH (N "units") (.d (.obj (h.flds us))) σ=.ok (.d (.lst us)) σ:=by kernel_rfl
theorem HW:CH (N "handlers") (.d (.obj (h.flds us))) σ=.ok (.d (.lst (h.handlers.map L9))) σ:=by kernel_rfl
theorem Ms:CH (N "lines") (.d (.obj (h.flds us))) σ=.ok (.d (.lst (h.lines.map Aa))) σ:=by kernel_rfl
theorem iK:CH (N "local_count") (.d (.obj (h.flds us))) σ=.ok (.d (Aa h.lc)) σ:=by kernel_rfl
theorem iL:CH (N "cell_count") (.d (.obj (h.flds us))) σ=.ok (.d (Aa h.cc)) σ:=by kernel_rfl
theorem Zg:CH (N "captures") (.d (.obj (h.flds us))) σ=.ok (.d (.lst (h.caps.map Le))) σ:=by kernel_rfl
theorem Sm:CH (N "is_strict") (.d (.obj (h.flds us))) σ=.ok (.d (.bool h.strict)) σ:=by kernel_rfl
theorem Zh:CH (N "uses_arguments") (.d (.obj (h.flds us))) σ=.ok (.d (.bool h.args)) σ:=by kernel_rfl
theorem Zi:CH (N "self_slot") (.d (.obj (h.flds us))) σ=.ok (.d (Hm h.self)) σ:=by kernel_rfl
theorem Zj:CH (N "arguments_place") (.d (.obj (h.flds us))) σ=.ok (.d (Hm h.argp)) σ:=by kernel_rfl
theorem Sn:CH (N "param_places") (.d (.obj (h.flds us))) σ=.ok (.d (.lst (h.places.map Hm))) σ:=by kernel_rfl
noncomputable def MA(op:Nat):List Nat×List Nat×Int×Int:=C1.getD op ([],[],0,0)
noncomputable def Fi(op:Nat):List Nat:=(MA op).1
noncomputable def Cg(op:Nat):List Nat:=(MA op).2.1
theorem Mt:C1.length=85:=by decide+kernel
theorem fP{op:Nat}(h:op<85):ML[op]? =some (Ra (MA op)):=by
 unfold ML MA
 rw[List.getElem?_map,List.getD_eq_getElem?_getD,List.getElem?_eq_getElem (by rw[Mt];exact h)]
 rfl
theorem Zk{op:Nat}(h:op<85):Af (.d (.lst ML)) (.d (.int op)) σ=.ok (.d (Ra (MA op))) σ:=B8 (fP h) (by unfold big;lia)
theorem XH{op:Nat}(h:op<85)(hc:clo cs.length cs=true):E5 [.d (.int op)] cs=.ok (.d (.str (Fi op))) cs:=by
 unfold E5 LQ
 exact Ac (σ0:=(BJ cs).setM (N "op") (.d (.int op))) rfl (by kernel_rfl) (BY (AE (AE AJ (AH AI) (Zk h)) AJ (PA (n:=0) rfl (by decide))) (BH hc rfl))
theorem U7{op:Nat}(h:op<85)(hc:clo cs.length cs=true):FJ [.d (.int op)] cs=.ok (.d (.str (Cg op))) cs:=by
 unfold FJ Ja
 exact Ac (σ0:=(BJ cs).setM (N "op") (.d (.int op))) rfl (by kernel_rfl) (BY (AE (AE AJ (AH AI) (Zk h)) AJ (PA (n:=1) rfl (by decide))) (BH hc rfl))
theorem CI{l:List D}(h:l.length≤big):BA [.d (.lst l)] σ=.ok (.d (.int l.length)) σ:=if_pos h
theorem XI{pc:Nat}(hl:h.lines.length≤10000)(hc:clo cs.length cs=true):E7 [.d (.obj (h.flds us)),.d (.int pc)] cs=.ok (.d (Aa (h.lines.getD pc 0))) cs:=by
 unfold E7 LS
 refine Ac (σ0:=((BJ cs).setM (N "unit") (.d (.obj (h.flds us)))).setM (N "pc") (.d (.int pc))) rfl (by kernel_rfl) ?_
 have v:(((BJ cs).setM (N "unit") (.d (.obj (h.flds us)))).setM (N "pc") (.d (.int pc))).m (N "unit")=some (.d (.obj (h.flds us))):=mv
 have lb:(h.lines.map Aa).length≤big:=by rw[List.length_map];exact Nat.le_trans hl (by decide)
 refine QX (Lf (v:=.d (Aa (h.lines.getD pc 0))) (U1 AJ (AH AI) rfl (Ao (AA (Ab (AH v) Ms) AC) (CI lb)) rfl) (fun e=>?_) fun e=>?_) (BH hc (by rfl))
 ·have hp:pc<h.lines.length:=by
   have:=(Bool.and_eq_true_iff.mp e).2
   rw[decide_eq_true_eq,List.length_map] at this;lia
  refine AE (Ab (AH v) Ms) (AH AI) (B8 ?_ (by unfold big;lia))
  rw[List.getElem?_map,List.getD_eq_getElem?_getD,List.getElem?_eq_getElem hp];rfl
 ·have hp:h.lines.length≤pc:=by
   rw[Bool.and_eq_false_iff,decide_eq_false_iff_not,decide_eq_false_iff_not,List.length_map] at e;lia
  rw[List.getD_eq_getElem?_getD,List.getElem?_eq_none hp]
  exact AJ
end
noncomputable def IY(w:List Nat):Nat→List (List Nat×List Nat×Int×Int)→Int
 |_,[]=>-1
 |i,r::rs=>if r.1=w then i else IY w (i+1) rs
noncomputable def Ch(w:List Nat):Int:=IY w 0 C1
noncomputable def EP:List Nat ⊕ Nat→List Nat
 |.inl l=>DI l
 |.inr n=>A9 n
noncomputable def aj:List Nat ⊕ Nat→Prop
 |.inl l=>Ft l
 |.inr n=>B7 n
noncomputable def Cs(h:Hd)(op:Nat)(arg:Option Nat):List Nat:=match arg with
 |none=>[]
 |some a=>if Cg op=sL "k" ∨Cg op=sL "s" then(match h.consts[a]? with
  |some c=>sL " ; "++EP c
  |none=>[]) else[]
noncomputable def Zl:Option Nat→List (List Nat)
 |some n=>[A9 n]
 |none=>[]
noncomputable def Ak(h:Hd)(pc op:Nat)(arg:Option Nat):List (List Nat):=[A9 pc,A9 (h.lines.getD pc 0),Fi op]++Zl arg
noncomputable def BI(h:Hd)(pc:Nat):List Nat:=match h.code[pc]? with
 |some (op,arg)=>AW [32] (Ak h pc op arg)++Cs h op arg
 |none=>[]
section
variable {σ σ1 σ2:St} {cs:List AK} {h:Hd} {us:List D} {f g:St→R AV} {v w:AV}
theorem V3:(C1.all fun r=>Gb r.1&&Gb r.2.1&&decide (r.1.length≤20)&&decide (r.2.1.length≤20))=true:=by decide+kernel
theorem Kg{op:Nat}(h:op<85):(Gb (Fi op)=true∧Gb (Cg op)=true)∧(Fi op).length≤20∧(Cg op).length≤20:=by
 have:MA op∈C1:=by
  unfold MA
  rw[List.getD_eq_getElem?_getD,List.getElem?_eq_getElem (by rw[Mt];exact h)]
  exact List.getElem_mem _
 have:=List.all_eq_true.mp V3 _ this
 simp only[Bool.and_eq_true,decide_eq_true_eq] at this
 exact⟨this.1.1,this.1.2,this.2⟩
theorem QY{fa:St→R (List AV)}{xs:List D}(h:fa σ=.ok [.d (.lst xs)] σ1):Hx fa σ=.ok (GA 0 xs) σ1:=bind_ok h
theorem cJ{w:List Nat}(hw:Ft w)(hc:clo cs.length cs=true):Iv [.d (.str w)] cs=.ok (.d (.int (Ch w))) cs:=by
 unfold Iv Pu
 refine Ac (σ0:=(BJ cs).setM (N "name") (.d (.str w))) rfl (by kernel_rfl) ?_
 refine L5 (QY (AA AJ AC)) (fun xs σ=>au (fun i rs=>xs=GA i (rs.map Ra)) (fun i rs=>(∀r∈rs,r∈C1)) (fun i rs=>Ch w=IY w i rs) (fun i rs=>σ.cs=cs) (fun i rs=>σ.m (N "name")=some (.d (.str w)))) ⟨0,C1,rfl,fun z0 h=>h,rfl,rfl,AI⟩ ?_ ?_
 ·rintro x xs σ ⟨i,rs,e,hr,ho,h1,h2⟩
  cases rs with
  |nil=>cases e
  |cons r rs=>
   cases e
   have hk:=List.all_eq_true.mp V3 r (hr r (.head _))
   simp only[Bool.and_eq_true,decide_eq_true_eq] at hk
   refine⟨(σ.setM (N "op") (.d (.int i))).setM (N "row") (.d (Ra r)),rfl,?_⟩
   have cond:∀{b:Bool},decide (r.1=w)=b→BQ (AG C5 (AG Af (AB (N "row")) (cF (D.int 0))) (AB (N "name"))) ((σ.setM (N "op") (.d (.int i))).setM (N "row") (.d (Ra r)))=.ok b ((σ.setM (N "op") (.d (.int i))).setM (N "row") (.d (Ra r))):=fun hb=>
    Ax (AE (AE (AH AI) AJ (PA (n:=0) rfl (by decide))) B0 (El hk.1.1.1 hw.ok hb))
   by_cases hn:r.1=w
   ·refine .inr (.inl ⟨_,_,BV (cond (decide_eq_true hn)) (DJ B0),?_⟩)
    rw[ho,show IY w i (r::rs)=i from if_pos hn]
    exact BH hc h1
   ·exact .inl ⟨_,BM (cond (decide_eq_false hn)) Cq,i+1,rs,rfl,fun r hr'=>hr r (.tail _ hr'),ho.trans (if_neg hn),h1,mv⟩
 ·rintro σ ⟨i,rs,e,hr,ho,h1,h2⟩
  cases rs with
  |cons=>cases e
  |nil=>
   rw[ho]
   exact QX (Nm AJ) (BH hc h1)
theorem Kh{c:List Nat ⊕ Nat}(hk:aj c)(hc:clo cs.length cs=true):DC [.d (cD c)] cs=.ok (.d (.str (EP c))) cs:=by
 unfold DC HI
 refine Ac (σ0:=(BJ cs).setM (N "value") (.d (cD c))) rfl (by kernel_rfl) ?_
 cases c with
 |inl l=>exact BY (BV (Ax (Ao (AA (AH AI) (AA AJ AC)) rfl)) (AY (AA (AH AI) AC) (GY hk.1 hk.2 hc))) (BH hc rfl)
 |inr n=>exact BY (BM (Ax (Ao (AA (AH AI) (AA AJ AC)) rfl)) (Ao (AA (AH AI) AC) (Eo hk))) (BH hc rfl)
theorem I4{l:List Nat}:(DI l).length≤6*l.length+2:=by
 have:=IV l
 unfold DI
 rw[List.length_cons,List.length_append]
 show _+1+1≤_
 lia
theorem I5{c:List Nat ⊕ Nat}(hk:aj c):(EP c).length≤60002:=by
 cases c with
 |inl l=>have:=hk.2;exact Nat.le_trans I4 (by lia)
 |inr n=>exact Nat.le_trans (Bf hk) (by decide)
end
section
variable {σ σ1 σ2:St} {cs:List AK} {h:Hd} {us:List D} {f g:St→R AV} {v w:AV}
theorem QZ{a:List Nat}(ha:Gb a=true):∀{bs:List (List Nat)},bs.all Gb=true→Pd cs (.d (.str a)) (bs.map .str)=some (decide (a∈bs))
 |[],_=>rfl
 |b::bs,hb=>by
  rw[List.all_cons,Bool.and_eq_true] at hb
  show(match OP cs (.d (.str b)) (.d (.str a)),Pd cs (.d (.str a)) (bs.map .str) with|some a,some b=>some (a||b)|_,_=>none)=_
  rw[QR hb.1 ha,QZ ha hb.2]
  show some (decide (b=a)||decide (a∈bs))=_
  rw[←Bool.decide_or]
  exact congrArg some (decide_eq_decide.mpr (by rw[List.mem_cons,eq_comm]))
theorem dD{a:List Nat}{bs:List (List Nat)}(ha:Gb a=true)(hb:bs.all Gb=true):Ot (.d (.str a)) (.d (.tup (bs.map .str))) σ=.ok (.d (.bool (decide (a∈bs)))) σ:=by
 show(ofO (Pd σ.cs (.d (.str a)) (bs.map .str)) fun r=>R.ok (AV.d (.bool r)) σ)=_
 rw[QZ ha hb];rfl
theorem Zm{a:List Nat}{bs:List (List Nat)}(ha:Gb a=true)(hb:bs.all Gb=true):Ot (.d (.str a)) (.d (.lst (bs.map .str))) σ=.ok (.d (.bool (decide (a∈bs)))) σ:=by
 show(ofO (Pd σ.cs (.d (.str a)) (bs.map .str)) fun r=>R.ok (AV.d (.bool r)) σ)=_
 rw[QZ ha hb];rfl
structure Qa(h:Hd):Prop where
 name:∀l,h.name=some l→Ft l
 params:∀l∈h.params,Ft l
 consts:∀c∈h.consts,aj c
 code:∀c∈h.code,c.1<85∧∀a,c.2=some a→B7 a
 handlers:∀x∈h.handlers,B7 x.1∧B7 x.2.1∧B7 x.2.2.1∧B7 x.2.2.2.1
 lines:∀n∈h.lines,B7 n
 rooms:B7 h.lc∧B7 h.cc
 caps:∀x∈h.caps,B7 x.2
 places:Jv h.self∧Jv h.argp∧∀p∈h.places,Jv p
 lens:h.params.length≤10∧h.consts.length≤1000∧h.code.length≤1000∧h.lines.length≤1000∧h.caps.length≤10∧h.places.length≤10∧h.handlers.length≤1000
set_option tactic.hygienic true in
theorem Og{op:Nat}{arg:Option Nat}(H:Qa h)(hop:op<85)(hc:clo cs.length cs=true):DO [.d (.obj (h.flds us)),.d (.int op),.d (IX arg)] cs=.ok (.d (.str (Cs h op arg))) cs:=by
 unfold DO GU
 refine Ac (σ0:=(((BJ cs).setM (N "unit") (.d (.obj (h.flds us)))).setM (N "op") (.d (.int op))).setM (N "arg") (.d (IX arg))) rfl (by kernel_rfl) ?_
 generalize hτ:(((BJ cs).setM (N "unit") (.d (.obj (h.flds us)))).setM (N "op") (.d (.int op))).setM (N "arg") (.d (IX arg))=τ
 have tu:τ.m (N "unit")=some (.d (.obj (h.flds us))):=by rw[←hτ];exact mv
 have to:τ.m (N "op")=some (.d (.int op)):=by rw[←hτ];exact mv
 have ta:τ.m (N "arg")=some (.d (IX arg)):=by rw[←hτ];exact mv
 have tc:τ.cs=cs:=by rw[←hτ];rfl
 have hcl:clo τ.cs.length τ.cs=true:=by rw[tc];exact hc
 have lb:(h.consts.map cD).length≤big:=by rw[List.length_map];exact Nat.le_trans H.lens.2.1 (by decide)
 have hk:=(Kg hop).1.2
 refine Ce (c:=decide (Cg op∈[sL "k",sL "s"])&&(decide (arg≠none)&&decide (arg.getD 0<h.consts.length))) (HQ (Ax (AE (AY (AA (AH to) AC) (U7 hop hcl)) (BU (AA AJ (AA AJ AC)) rfl) (dD (bs:=[sL "k",sL "s"]) hk rfl))) fun z0=>?_) (fun e=>?_) fun e=>?_
 ·cases arg with
  |none=>exact HQ (Ax (AE (AH ta) AJ rfl)) fun e=>nomatch e
  |some a=>
   refine HQ (Ax (AE (AH ta) AJ rfl)) fun z0=>Mp ((U1 AJ (AH ta) rfl (Ao (AA (Ab (AH tu) Gq) AC) (CI lb)) rfl).trans (congrArg (fun b=>R.ok b τ) ?_))
   show(decide ((0:Int)≤a)&&decide ((a:Int)<((h.consts.map cD).length:Nat)))=decide (a<h.consts.length)
   rw[decide_eq_true (Int.natCast_nonneg a),Bool.true_and,List.length_map]
   exact decide_eq_decide.mpr Int.ofNat_lt
 ·cases arg with
  |none=>simp at e
  |some a=>
   rw[Bool.and_eq_true,Bool.and_eq_true,decide_eq_true_eq,decide_eq_true_eq,decide_eq_true_eq] at e
   have ha:a<h.consts.length:=e.2.2
   have hm:=List.getElem_mem ha
   have okc:=H.consts _ hm
   refine⟨_,AE AJ (AY (AA (AE (Ab (AH tu) Gq) (AH ta) (B8 (x:=cD h.consts[a]) (by rw[List.getElem?_map,List.getElem?_eq_getElem ha];rfl) (by have:=H.lens.2.1;unfold big;lia))) AC) (Kh okc hcl)) (DP (Nat.ble_eq.mpr (by have:=I5 okc;show 3+_≤_;unfold big;lia))),?_⟩
   rw[show Cs h op (some a)=sL " ; "++EP h.consts[a] by
    unfold Cs
    dsimp only
    rw[if_pos (by simpa using e.1),List.getElem?_eq_getElem ha]]
   exact BH hc tc
 ·rw[show Cs h op arg=[] by
   cases arg with
   |none=>rfl
   |some a=>
    unfold Cs
    dsimp only
    split
    ·rename_i hm
     rw[decide_eq_true (by simpa using hm)] at e
     rw[List.getElem?_eq_none (by simpa using e)]
    ·rfl]
  exact QX AJ (BH hc tc)
end
section
variable {σ σ1 σ2:St} {cs:List AK} {h:Hd} {us:List D} {f g:St→R AV} {v w:AV}
noncomputable def De(ls:List (List Nat)):Nat:=(ls.map List.length).sum+ls.length
theorem Jx{sep:List Nat}{ls:List (List Nat)}(h1:Nat.ble sep.length 1=true)(h2:De ls≤big):Gy Dd (.d (.str sep)) [.d (.lst (ls.map .str))] σ=.ok (.d (.str (AW sep ls))) σ:=by
 show(ofO (Di (ls.map D.str)) fun ls=>if sep.length≤1∧(ls.map List.length).sum+ls.length≤big then R.ok (AV.d (.str (AW sep ls))) σ else .stuck)=_
 rw[show Di (ls.map D.str)=_ from Ev ls]
 exact if_pos ⟨Nat.le_of_ble_eq_true h1,h2⟩
theorem Jy{a b:List D}(h:a.length+b.length≤big):As (.d (.lst a)) (.d (.lst b)) σ=.ok (.d (.lst (a++b))) σ:=if_pos h
theorem Fj{a b:List Nat}(h:a.length+b.length≤big):As (.d (.str a)) (.d (.str b)) σ=.ok (.d (.str (a++b))) σ:=if_pos h
theorem I7(sep:List Nat)(hs:sep.length≤1):∀ls:List (List Nat),(AW sep ls).length≤De ls
 |[]=>by simp[AW,De]
 |[a]=>by simp[AW,De]
 |a::b::r=>by
  have ih:=I7 sep hs (b::r)
  unfold De at ih ⊢
  rw[AW,List.length_append,List.length_append,List.map_cons,List.sum_cons,List.length_cons]
  lia
theorem EQ{B:Nat}:∀{ls:List (List Nat)},(∀l∈ls,l.length≤B)→De ls≤(B+1)*ls.length
 |[],_=>by simp[De]
 |a::ls,h=>by
  have ih:=EQ (ls:=ls) fun l hl=>h l (.tail _ hl)
  have h1:=h a (.head _)
  unfold De at ih ⊢
  rw[List.map_cons,List.sum_cons,List.length_cons,Nat.mul_succ]
  lia
set_option tactic.hygienic true in
theorem U8{op:Nat}{arg:Option Nat}(H:Qa h):(Cs h op arg).length≤60005:=by
 unfold Cs
 split
 ·exact Nat.zero_le _
 ·split
  ·split
   ·rename_i c e
    have:=I5 (H.consts c (List.mem_of_getElem? e))
    rw[List.length_append]
    show 3+_≤_
    lia
   ·exact Nat.zero_le _
  ·exact Nat.zero_le _
theorem MB{l:List Nat}(hl:∀n∈l,B7 n)(i:Nat):B7 (l.getD i 0):=by
 rw[List.getD_eq_getElem?_getD]
 cases e:l[i]? with
 |none=>exact(by decide:(0:Nat)<2^100)
 |some n=>exact hl n (List.mem_of_getElem? e)
theorem Oh{pc op:Nat}{arg:Option Nat}(H:Qa h)(hpc:pc<10000)(hop:op<85)(ha:∀a,arg=some a→B7 a):(∀w∈Ak h pc op arg,w.length≤31)∧(Ak h pc op arg).length≤4:=by
 refine⟨fun w hw=>?_,by cases arg;exact Nat.le_succ 3;exact Nat.le_refl 4⟩
 unfold Ak at hw
 rcases List.mem_append.mp hw with hw|hw
 ·rcases List.mem_cons.mp hw with rfl|hw
  ·exact Bf (Nat.lt_trans hpc (by decide))
  ·rcases List.mem_cons.mp hw with rfl|hw
   ·exact Bf (MB H.lines pc)
   ·obtain rfl:=List.mem_singleton.mp hw
    exact Nat.le_trans (Kg hop).2.1 (by decide)
 ·cases arg with
  |none=>cases hw
  |some a=>obtain rfl:=List.mem_singleton.mp hw;exact Bf (ha a rfl)
theorem So{pc:Nat}(H:Qa h)(hpc:pc<h.code.length)(hc:clo cs.length cs=true):EJ [.d (.obj (h.flds us)),.d (.int pc)] cs=.ok (.d (.str (BI h pc))) cs:=by
 unfold EJ H8
 refine Ac (σ0:=((BJ cs).setM (N "unit") (.d (.obj (h.flds us)))).setM (N "pc") (.d (.int pc))) rfl (by kernel_rfl) ?_
 obtain⟨op,arg,e⟩:∃op arg,h.code[pc]=(op,arg):=⟨_,_,rfl⟩
 have hm:=H.code _ (List.getElem_mem hpc)
 rw[e] at hm
 obtain⟨hop,ha⟩:=hm
 have hpc':pc<10000:=by have:=H.lens.2.2.1;lia
 have hcode:BI h pc=AW [32] (Ak h pc op arg)++Cs h op arg:=by unfold BI;rw[List.getElem?_eq_getElem hpc,e]
 refine Av (σ1:=((((BJ cs).setM (N "unit") (.d (.obj (h.flds us)))).setM (N "pc") (.d (.int pc))).setM (N "op") (.d (.int op))).setM (N "arg") (.d (IX arg))) (AS (AE (Ab B0 Jw) (AH AI) (B8 (x:=Hl (op,arg)) (by rw[List.getElem?_map,List.getElem?_eq_getElem hpc,e];rfl) (by unfold big;lia))) rfl) ?_
 generalize hτ:((((BJ cs).setM (N "unit") (.d (.obj (h.flds us)))).setM (N "pc") (.d (.int pc))).setM (N "op") (.d (.int op))).setM (N "arg") (.d (IX arg))=τ
 have tu:τ.m (N "unit")=some (.d (.obj (h.flds us))):=by rw[←hτ];exact mv
 have tp:τ.m (N "pc")=some (.d (.int pc)):=by rw[←hτ];exact mv
 have to:τ.m (N "op")=some (.d (.int op)):=by rw[←hτ];exact mv
 have ta:τ.m (N "arg")=some (.d (IX arg)):=by rw[←hτ];exact mv
 have tc:τ.cs=cs:=by rw[←hτ];rfl
 have hcl:clo τ.cs.length τ.cs=true:=by rw[tc];exact hc
 obtain⟨w1,w2⟩:=Oh H hpc' hop ha
 have hj:De (Ak h pc op arg)≤128:=Nat.le_trans (EQ w1) (Nat.le_trans (Nat.mul_le_mul_left _ w2) (by decide))
 have hwords:AG As (Bi (AD [BK Ew (AD [AB (N "pc")]),BK Ew (AD [AN E7 (AD [AB (N "unit"),AB (N "pc")])]),AN E5 (AD [AB (N "op")])])) (CG (BQ (AG bD (AB (N "arg")) (cF .none))) (Bi (AD [])) (Bi (AD [BK Ew (AD [AB (N "arg")])]))) τ=.ok (.d (.lst ((Ak h pc op arg).map .str))) τ:=by
  refine AE (Bq (AA (Ao (AA (AH tp) AC) (Eo (Nat.lt_trans hpc' (by decide)))) (AA (Ao (AA (AY (AA (AH tu) (AA (AH tp) AC)) (XI (Nat.le_trans H.lens.2.2.2.1 (by decide)) hcl)) AC) (Eo (MB H.lines pc))) (AA (AY (AA (AH to) AC) (XH hop hcl)) AC))) rfl) (b:=.d (.lst ((Zl arg).map .str))) (σ2:=τ) ?_ (Jy (Nat.le_of_ble_eq_true (by cases arg<;>rfl)))
  cases arg with
  |none=>exact BV (Ax (AE (AH ta) AJ rfl)) (Bq AC rfl)
  |some a=>exact BM (Ax (AE (AH ta) AJ rfl)) (Bq (AA (Ao (AA (AH ta) AC) (Eo (ha a rfl))) AC) rfl)
 refine Av (AS hwords Ae) (BY (AE (BG AJ rfl (AA (AH AI) AC) (Jx rfl (Nat.le_trans hj (by decide)))) (AY (AA B0 (AA B0 (AA B0 AC))) (Og H hop hcl)) (Fj ?_)) ?_)
 ·have h1:=I7 [32] (by decide) (Ak h pc op arg)
  have h2:=U8 (h:=h) (op:=op) (arg:=arg) H
  show(AW [32] (Ak h pc op arg)).length+(Cs h op arg).length≤big
  unfold big;lia
 ·rw[hcode]
  exact BH hc tc
end
noncomputable def Dx(h:Hd):List (List Nat):=(if h.strict then[sL "strict"] else[])++(if h.args then[sL "arguments"] else[])
noncomputable def IZ:Option (List Nat)→List Nat
 |some l=>DI l
 |none=>sL "none"
noncomputable def Oi(p:Bool×Nat):List Nat:=(if p.1 then sL "frame" else sL "closure")++A9 p.2
noncomputable def Ia(h:Hd):List (List (List Nat)):=[[sL "unit",IZ h.name]++Dx h,sL "params"::h.params.map DI,sL "places"::h.places.map C0,[sL "own",C0 h.self,C0 h.argp],[sL "room",A9 h.lc,A9 h.cc],sL "captures"::h.caps.map Oi]
section
variable {σ σ1 σ2:St} {cs:List AK} {h:Hd} {us:List D} {f g:St→R AV} {v w:AV}
theorem Qb(hc:clo cs.length cs=true):Dl [.d (.obj (h.flds us))] cs=.ok (.d (.lst ((Dx h).map .str))) cs:=by
 unfold Dl HE
 refine Ac (σ0:=(BJ cs).setM (N "unit") (.d (.obj (h.flds us)))) rfl (by kernel_rfl) ?_
 refine QX (AE (σ2:=(BJ cs).setM (N "unit") (.d (.obj (h.flds us)))) (a:=.d (.lst ((if h.strict then[sL "strict"] else[]).map .str))) (b:=.d (.lst ((if h.args then[sL "arguments"] else[]).map .str))) (Lf (Ax (Ab (AH AI) Sm)) (fun e=>?_) fun e=>?_) (Lf (Ax (Ab (AH AI) Zh)) (fun e=>?_) fun e=>?_) ((Jy ?_).trans (by rw[←List.map_append];unfold Dx;exact rfl))) (BH hc rfl)
 all_goals first|(rw[e];exact Bq (AA AJ AC) rfl)|(rw[e];exact Bq AC rfl)|(cases h.strict<;>cases h.args<;>exact Nat.le_of_ble_eq_true rfl)
noncomputable abbrev ak(ls:List (List Nat)):AK:=.lst (ls.map fun l=>AV.d (.str l))
theorem V4{n m:Nat}(l:n≤m):∀v:AV,v.lo n=true→v.lo m=true
 |.d _,_=>rfl
 |.lst i,h=>decide_eq_true (Nat.lt_of_lt_of_le (of_decide_eq_true h) l)
 |.obj _ i,h=>decide_eq_true (Nat.lt_of_lt_of_le (of_decide_eq_true h) l)
theorem XJ{n m:Nat}(l:n≤m):∀c:AK,c.lo n=true→c.lo m=true
 |.lst xs,h=>List.all_eq_true.mpr fun v hv=>V4 l v (List.all_eq_true.mp h v hv)
 |.dict fs,h=>List.all_eq_true.mpr fun v hv=>V4 l v.2 (List.all_eq_true.mp h v hv)
theorem Sp{n m:Nat}{cs:List AK}(l:n≤m)(h:clo n cs=true):clo m cs=true:=List.all_eq_true.mpr fun c hc=>XJ l c (List.all_eq_true.mp h c hc)
theorem Ki{cs:List AK}{c:AK}(h:clo cs.length cs=true)(hc:c.lo (cs.length+1)=true):clo (cs++[c]).length (cs++[c])=true:=by
 rw[List.length_append]
 show clo (cs.length+1) (cs++[c])=true
 unfold clo
 rw[List.all_append,Bool.and_eq_true]
 exact⟨Sp (Nat.le_succ _) h,by rw[List.all_cons,hc];rfl⟩
theorem iM{n:Nat}(ls:List (List Nat)):(ak ls).lo n=true:=by
 show(ls.map fun l=>AV.d (.str l)).all (AV.lo n)=true
 rw[List.all_map]
 exact List.all_eq_true.mpr fun z0 z0=>rfl
theorem fQ{cs:List AK}(ls:List (List Nat))(h:clo cs.length cs=true):clo (cs++[ak ls]).length (cs++[ak ls])=true:=Ki h (iM ls)
theorem Gr{cs:List AK}{xs:List AV}:BL (cs++[.lst xs]) cs.length=some xs:=by
 unfold BL;rw[List.getElem?_append_right (Nat.le_refl _),Nat.sub_self];rfl
theorem Nq{cs:List AK}{c d:AK}:(cs++[c]).set cs.length d=cs++[d]:=by
 rw[List.set_append_right _ _ (Nat.le_refl _),Nat.sub_self];rfl
theorem iO{xs:List AV}(e:σ.cs=cs++[.lst xs])(hl:xs.length≤big):En Au (.lst cs.length) [v] σ=.ok (.d .none) {σ with cs:=cs++[.lst (xs++[v])]}:=by
 show(ofO (BL σ.cs cs.length) fun xs=>if xs.length≤big then R.ok (AV.d .none) {σ with cs:=σ.cs.set cs.length (.lst (xs++[v]))} else .stuck)=_
 rw[e,Gr]
 show(if xs.length≤big then R.ok (AV.d .none) {σ with cs:=(cs++[AK.lst xs]).set cs.length (.lst (xs++[v]))} else .stuck)=_
 rw[if_pos hl,Nq]
structure Fy(cs:List AK)(d:D)(ls:List (List Nat))(τ:St):Prop where
 c:τ.cs=cs++[ak ls]
 u:τ.m (N "unit")=some (.d d)
 l:τ.m (N "lines")=some (.lst cs.length)
theorem Fy.app{d:D}{ls:List (List Nat)}{l:List Nat}{τ:St}(T:Fy cs d ls τ)(h:f τ=.ok (.d (.str l)) τ)(hl:ls.length≤big):Aj (fun τ'=>A0 (AO Fv (En Au) (AB (N "lines")) (AD [f])) τ=.ok .next τ') (fun τ'=>Fy cs d (ls++[l]) τ'):=by
 refine⟨_,C2 (BG (AH T.l) ?_ (AA h AC) (iO T.c (by rw[List.length_map];exact hl))),?_,T.u,T.l⟩
 ·show(BL τ.cs cs.length).isSome=true
  rw[T.c,Gr];rfl
 ·show cs++[_]=_
  rw[←List.map_singleton (f:=fun l=>AV.d (D.str l)),←List.map_append]
theorem Fy.clo{d:D}{ls:List (List Nat)}{τ:St}(T:Fy cs d ls τ)(hc:Mine.Internal.clo cs.length cs=true):Mine.Internal.clo τ.cs.length τ.cs=true:=by rw[T.c];exact fQ ls hc
end
section
variable {σ σ1 σ2:St} {cs:List AK} {h:Hd} {us:List D} {f g:St→R AV} {v w:AV} {G:R AF→Prop} {k:St→R AF}
theorem Fy.seq{d:D}{ls:List (List Nat)}{l:List Nat}{τ:St}(T:Fy cs d ls τ)(h:f τ=.ok (.d (.str l)) τ)(hl:ls.length≤big)(n:∀τ',Fy cs d (ls++[l]) τ'→Bd (k τ') G):Bd (AP (A0 (AO Fv (En Au) (AB (N "lines")) (AD [f]))) k τ) G:=by
 obtain⟨τ',e,T'⟩:=T.app h hl
 exact Av e (n τ' T')
theorem Fy.set{d:D}{ls:List (List Nat)}{τ:St}{x:Str}(T:Fy cs d ls τ)(h1:N "unit" ≠x)(h2:N "lines" ≠x):Fy cs d ls (τ.setM x v):=⟨T.c,AM h1 T.u,AM h2 T.l⟩
theorem Ib{ws:List (List Nat)}(h:f σ=.ok (.d (.lst (ws.map .str))) σ)(hw:De ws≤big):AO JE (Gy Dd) (cF (.str [32])) (AD [f]) σ=.ok (.d (.str (AW [32] ws))) σ:=
 BG AJ rfl (AA h AC) (Jx rfl hw)
theorem Mu{ws:List (List Nat)}{a:List Nat}(h:f σ=.ok (.d (.lst (ws.map .str))) σ)(hw:ws.length≤1000):AG As (Bi (AD [cF (.str a)])) f σ=.ok (.d (.lst ((a::ws).map .str))) σ:=
 AE (Bq (AA AJ AC) rfl) h (Jy (by rw[List.length_map];show 1+_≤_;unfold big;lia))
theorem Qc{x:Str}(h:f σ=.ok v σ1):NM f x σ=.ok .next (σ1.setM x v):=bind_ok h
theorem Nr{xs:List D}(h:f σ=.ok (.d (.lst xs)) σ1):Ex f σ=.ok (.d (.lst xs)) σ1:=bind_ok h
theorem Sq{ws:List (List Nat)}(h:∀w∈ws,w.length≤60002)(hl:ws.length≤12):De ws≤big:=Nat.le_trans (EQ h) (Nat.le_trans (Nat.mul_le_mul_left _ hl) (by decide))
theorem Fk{p:Pl}(h:Jv p):(C0 p).length≤36:=by
 cases p with
 |none=>exact Nat.le_of_ble_eq_true rfl
 |some q=>
  obtain⟨b,n⟩:=q
  have:=Bf h
  show(Cx b++A9 n).length≤36
  rw[List.length_append]
  have:(Cx b).length≤5:=by cases b<;>exact Nat.le_of_ble_eq_true rfl
  lia
theorem Sr{p:Bool×Nat}(h:B7 p.2):(Oi p).length≤38:=by
 have:=Bf h
 unfold Oi
 rw[List.length_append]
 have:(if p.1 then sL "frame" else sL "closure").length≤7:=by cases p.1<;>exact Nat.le_of_ble_eq_true rfl
 lia
set_option tactic.hygienic true in
theorem XM(H:Qa h):(IZ h.name).length≤60002:=by
 unfold IZ
 split
 ·rename_i l e
  have:=(H.name l e).2
  exact Nat.le_trans I4 (by lia)
 ·exact Nat.le_of_ble_eq_true rfl
theorem Nt(H:Qa h):∀ws∈Ia h,(∀w∈ws,w.length≤60002)∧ws.length≤12:=by
 intro ws hws
 unfold Ia at hws
 simp only[List.mem_cons,List.not_mem_nil,or_false] at hws
 rcases hws with rfl|rfl|rfl|rfl|rfl|rfl
 ·refine⟨fun w hw=>?_,by unfold Dx;cases h.strict<;>cases h.args<;>exact Nat.le_of_ble_eq_true rfl⟩
  rcases List.mem_cons.mp hw with rfl|hw
  ·exact Nat.le_of_ble_eq_true rfl
  rcases List.mem_cons.mp hw with rfl|hw
  ·exact XM H
  unfold Dx at hw
  revert hw
  cases h.strict<;>cases h.args<;>intro hw<;>simp at hw<;>(first|(rcases hw with rfl|rfl)|subst hw)<;>exact Nat.le_of_ble_eq_true rfl
 ·refine⟨fun w hw=>?_,by rw[List.length_cons,List.length_map];exact Nat.succ_le_succ (Nat.le_trans H.lens.1 (by decide))⟩
  rcases List.mem_cons.mp hw with rfl|hw
  ·exact Nat.le_of_ble_eq_true rfl
  ·obtain⟨l,hl,rfl⟩:=List.mem_map.mp hw
   have:=(H.params l hl).2
   exact Nat.le_trans I4 (by lia)
 ·refine⟨fun w hw=>?_,by rw[List.length_cons,List.length_map];exact Nat.succ_le_succ (Nat.le_trans H.lens.2.2.2.2.2.1 (by decide))⟩
  rcases List.mem_cons.mp hw with rfl|hw
  ·exact Nat.le_of_ble_eq_true rfl
  ·obtain⟨l,hl,rfl⟩:=List.mem_map.mp hw
   exact Nat.le_trans (Fk (H.places.2.2 l hl)) (by decide)
 ·refine⟨fun w hw=>?_,Nat.le_of_ble_eq_true rfl⟩
  simp only[List.mem_cons,List.not_mem_nil,or_false] at hw
  rcases hw with rfl|rfl|rfl
  ·exact Nat.le_of_ble_eq_true rfl
  ·exact Nat.le_trans (Fk H.places.1) (by decide)
  ·exact Nat.le_trans (Fk H.places.2.1) (by decide)
 ·refine⟨fun w hw=>?_,Nat.le_of_ble_eq_true rfl⟩
  simp only[List.mem_cons,List.not_mem_nil,or_false] at hw
  rcases hw with rfl|rfl|rfl
  ·exact Nat.le_of_ble_eq_true rfl
  ·exact Nat.le_trans (Bf H.rooms.1) (by decide)
  ·exact Nat.le_trans (Bf H.rooms.2) (by decide)
 ·refine⟨fun w hw=>?_,by rw[List.length_cons,List.length_map];exact Nat.succ_le_succ (Nat.le_trans H.lens.2.2.2.2.1 (by decide))⟩
  rcases List.mem_cons.mp hw with rfl|hw
  ·exact Nat.le_of_ble_eq_true rfl
  ·obtain⟨l,hl,rfl⟩:=List.mem_map.mp hw
   exact Nat.le_trans (Sr (H.caps l hl)) (by decide)
end
section
variable {σ σ1 σ2:St} {cs:List AK} {h:Hd} {us:List D} {f g:St→R AV} {v w:AV} {G:R AF→Prop} {k:St→R AF}
noncomputable def Ep(h:Hd):List (List Nat):=(Ia h).map (AW [32])
theorem Jz{p:Pl}(hp:Jv p):∀b n,p=some (b,n)→(A9 n).length≤1000:=fun b n e=>by subst e;exact Nat.le_trans (Bf hp) (by decide)
theorem Qd(H:Qa h)(hc:clo cs.length cs=true):Dm [.d (.obj (h.flds us))] cs=.ok (.lst cs.length) (cs++[ak (Ep h)]):=by
 unfold Dm HG
 refine Ac (σ0:=(BJ cs).setM (N "unit") (.d (.obj (h.flds us)))) rfl (by kernel_rfl) ?_
 have v:((BJ cs).setM (N "unit") (.d (.obj (h.flds us)))).m (N "unit")=some (.d (.obj (h.flds us))):=AI
 obtain⟨hw1,hw2⟩:=Nt H _ (.head _)
 have hj:∀ws∈Ia h,De ws≤big:=fun ws m=>Sq (Nt H ws m).1 (Nt H ws m).2
 refine Av (AS (KZ (AA (Ib (ws:=[sL "unit",IZ h.name]++Dx h) (AE (Bq (AA AJ (AA (v:=.d (.str (IZ h.name))) (σ1:=(BJ cs).setM (N "unit") (.d (.obj (h.flds us)))) ?_ AC)) rfl) (AY (AA (AH v) AC) (Qb hc)) ((Jy ?_).trans (by rw[List.map_append];exact rfl))) (hj _ (.head _))) AC)) Ae) ?_
 ·cases e:h.name with
  |none=>exact BV (Ax (AE (Ab (AH v) Lg) AJ (by rw[e];exact rfl))) AJ
  |some l=>
   have hl:=H.name l e
   exact BM (Ax (AE (Ab (AH v) Lg) AJ (by rw[e];exact rfl))) (AY (AA ((Ab (AH v) Lg).trans (by rw[e];exact rfl)) AC) (GY hl.1 hl.2 hc))
 ·rw[List.length_map]
  unfold Dx;cases h.strict<;>cases h.args<;>exact Nat.le_of_ble_eq_true rfl
 have T1:Fy cs (.obj (h.flds us)) [AW [32] ([sL "unit",IZ h.name]++Dx h)] (({(BJ cs).setM (N "unit") (.d (.obj (h.flds us))) with cs:=cs++[.lst [.d (.str (AW [32] ([sL "unit",IZ h.name]++Dx h)))]]}:St).setM (N "lines") (.lst cs.length)):=⟨rfl,mv,AI⟩
 refine T1.seq (Ib (Mu (ws:=h.params.map DI) ((Iy D.str (fun l=>.str (DI l)) (BN (Ab (AH T1.u) Kf) rfl) (Nat.le_trans H.lens.1 (by decide)) fun l hl σ' h1 h2=>⟨_,_,Ae,AY (AA (AH AI) AC) (GY (H.params l hl).1 (H.params l hl).2 (by show clo σ'.cs.length σ'.cs=true;rw[h1];exact T1.clo hc)),h1,h2⟩).trans (by rw[List.map_map];exact rfl)) (by rw[List.length_map];exact Nat.le_trans H.lens.1 (by decide))) (hj _ (.tail _ (.head _)))) (Nat.le_of_ble_eq_true rfl) fun τ2 T2=>?_
 refine T2.seq (Ib (Mu (ws:=h.places.map C0) ((Iy Hm (fun p=>.str (C0 p)) (BN (Ab (AH T2.u) Sn) rfl) (Nat.le_trans H.lens.2.2.2.2.2.1 (by decide)) fun p hp σ' h1 h2=>⟨_,_,Ae,AY (AA (AH AI) AC) (HV (H.places.2.2 p hp) (Jz (H.places.2.2 p hp)) (by show clo σ'.cs.length σ'.cs=true;rw[h1];exact T2.clo hc)),h1,h2⟩).trans (by rw[List.map_map];exact rfl)) (by rw[List.length_map];exact Nat.le_trans H.lens.2.2.2.2.2.1 (by decide))) (hj _ (.tail _ (.tail _ (.head _))))) (Nat.le_of_ble_eq_true rfl) fun τ3 T3=>?_
 have l1:=Fk H.places.1
 have l2:=Fk H.places.2.1
 refine T3.seq (l:=AW [32] [sL "own",C0 h.self,C0 h.argp]) ((AE (AE (AE AJ (AY (AA (Ab (AH T3.u) Zi) AC) (HV H.places.1 (Jz H.places.1) (T3.clo hc))) (Fj (by show 4+_≤_;unfold big;lia))) AJ (Fj (by rw[List.length_append];show 4+_+1≤_;unfold big;lia))) (AY (AA (Ab (AH T3.u) Zj) AC) (HV H.places.2.1 (Jz H.places.2.1) (T3.clo hc))) (Fj (by rw[List.length_append,List.length_append];show 4+_+1+_≤_;unfold big;lia))).trans (congrArg (fun l=>R.ok (AV.d (.str l)) τ3) (by show(sL "own "++C0 h.self++[32])++C0 h.argp=sL "own"++[32]++(C0 h.self++[32]++C0 h.argp);simp only[List.append_assoc];exact rfl))) (Nat.le_of_ble_eq_true rfl) fun τ4 T4=>?_
 have l3:=Bf H.rooms.1
 have l4:=Bf H.rooms.2
 refine T4.seq (l:=AW [32] [sL "room",A9 h.lc,A9 h.cc]) ((AE (AE (AE AJ (Ao (AA (Ab (AH T4.u) iK) AC) (Eo H.rooms.1)) (Fj (by show 5+_≤_;unfold big;lia))) AJ (Fj (by rw[List.length_append];show 5+_+1≤_;unfold big;lia))) (Ao (AA (Ab (AH T4.u) iL) AC) (Eo H.rooms.2)) (Fj (by rw[List.length_append,List.length_append];show 5+_+1+_≤_;unfold big;lia))).trans (congrArg (fun l=>R.ok (AV.d (.str l)) τ4) (by show(sL "room "++A9 h.lc++[32])++A9 h.cc=sL "room"++[32]++(A9 h.lc++[32]++A9 h.cc);simp only[List.append_assoc];exact rfl))) (Nat.le_of_ble_eq_true rfl) fun τ5 T5=>?_
 refine Av (Qc ((Iy Le (fun p=>.str (Oi p)) (BN (Nr (Ab (AH T5.u) Zg)) rfl) (Nat.le_trans H.lens.2.2.2.2.1 (by decide)) fun p hp σ' h1 h2=>⟨(σ'.setM (N "is_frame") (.d (.bool p.1))).setM (N "index") (.d (.int p.2)),_,rfl,AE (a:=.d (.str (if p.1 then sL "frame" else sL "closure"))) (σ1:=(σ'.setM (N "is_frame") (.d (.bool p.1))).setM (N "index") (.d (.int p.2))) ?_ (Ao (AA (AH AI) AC) (Eo (H.caps p hp))) (Fj ?_),h1,h2⟩))) ?_
 ·exact Lf (Ax B0) (fun e=>by rw[e];exact AJ) fun e=>by rw[e];exact AJ
 ·have:=Sr (H.caps p hp)
  unfold Oi at this
  rw[List.length_append] at this
  unfold big;lia
 have T6:=T5.set (x:=N "told") (v:=.d (.lst (h.caps.map fun p=>.str (Oi p)))) (by decide+kernel) (by decide+kernel)
 refine T6.seq (Ib (Mu (ws:=h.caps.map Oi) ((AH AI).trans (by rw[List.map_map];exact rfl)) (by rw[List.length_map];exact Nat.le_trans H.lens.2.2.2.2.1 (by decide))) (hj _ (.tail _ (.tail _ (.tail _ (.tail _ (.tail _ (.head _)))))))) (Nat.le_of_ble_eq_true rfl) fun τ7 T7=>?_
 refine BY (AH T7.l) ?_
 show RC.ok _ τ7.cs=_
 rw[T7.c]
 rfl
end
noncomputable def Xm(x:Nat×Nat×Nat×Nat×Bool):List (List Nat):=[A9 x.1,A9 x.2.1,A9 x.2.2.1,A9 x.2.2.2.1,if x.2.2.2.2 then sL "finally" else sL "catch"]
noncomputable def J0(c:List Nat ⊕ Nat):List Nat:=AW [32] [sL "const",EP c]
noncomputable def dE(x:Nat×Nat×Nat×Nat×Bool):List Nat:=AW [32] (sL "handler"::Xm x)
mutual
noncomputable def U.dep:U→Nat
 |.mk _ us=>Us.dep us+1
noncomputable def Us.dep:List U→Nat
 |[]=>0
 |u::r=>max u.dep (Us.dep r)
end
noncomputable def dF(h:Hd):List (List Nat):=Ep h++h.consts.map J0++h.handlers.map dE++(List.range h.code.length).map (BI h)
mutual
noncomputable def U.lines:U→List (List Nat)
 |.mk h us=>dF h++Us.lines us++[sL "end"]
noncomputable def Us.lines:List U→List (List Nat)
 |[]=>[]
 |u::r=>u.lines++Us.lines r
end
mutual
noncomputable def iP:U→Prop
 |.mk h us=>Qa h∧fR us
noncomputable def fR:List U→Prop
 |[]=>True
 |u::r=>iP u∧fR r
end
section
variable {σ σ1 σ2:St} {cs:List AK} {h:Hd} {us:List D} {f g:St→R AV} {v w:AV} {G:R AF→Prop} {k:St→R AF} {d:D}
theorem Fy.for{ι:Type}{e:ι→D}{fi:St→R (List D)}{t:AV→St→R Unit}{b:St→R AF}{ls:List (List Nat)}{τ:St}(L:ι→List (List Nat))(items:List ι)(hf:fi τ=.ok (items.map e) τ)(T:Fy cs d ls τ)(hB:(ls++items.flatMap L).length≤big)
  (step:∀i∈items,∀ls' τ,Fy cs d ls' τ→ls'.length+(L i).length≤big→E2_3 (fun τ1 τ2=>t (.d (e i)) τ=.ok () τ1) (fun τ1 τ2=>b τ1=.ok .next τ2) (fun τ1 τ2=>Fy cs d (ls'++L i) τ2))(n:∀τ',Fy cs d (ls++items.flatMap L) τ'→Bd (k τ') G):Bd (AP (EF fi t b) k τ) G:=by
 refine L5 hf (fun xs σ=>E2_3 (fun pre post=>items=pre++post) (fun pre post=>xs=post.map e) (fun pre post=>Fy cs d (ls++pre.flatMap L) σ)) ⟨[],items,rfl,rfl,by rw[List.flatMap_nil,List.append_nil];exact T⟩ ?_ ?_
 ·rintro x xs σ ⟨pre,post,h1,h2,h3⟩
  cases post with
  |nil=>cases h2
  |cons i post=>
   cases h2
   subst h1
   have hb:(ls++pre.flatMap L).length+(L i).length≤big:=by
    refine Nat.le_trans ?_ hB
    simp only[List.flatMap_append,List.flatMap_cons,List.length_append]
    lia
   obtain⟨τ1,τ2,e1,e2,T2⟩:=step i (by simp) _ σ h3 hb
   refine⟨τ1,e1,.inl ⟨τ2,e2,pre++[i],post,by simp,rfl,?_⟩⟩
   rw[List.append_assoc] at T2
   rw[List.flatMap_append,List.flatMap_singleton]
   exact T2
 ·rintro σ ⟨pre,post,h1,h2,h3⟩
  cases post with
  |cons=>cases h2
  |nil=>rw[List.append_nil] at h1;subst h1;exact n σ h3
theorem C8{α β:Type}(f:α→β):∀l:List α,l.flatMap (fun a=>[f a])=l.map f
 |[]=>rfl
 |a::l=>by rw[List.flatMap_cons,C8 f l];rfl
theorem iQ{xs:List AV}{ys:List D}(e:σ.cs=cs++[.lst xs])(hl:xs.length+ys.length≤big):En KG (.lst cs.length) [.d (.lst ys)] σ=.ok (.d .none) {σ with cs:=cs++[.lst (xs++ys.map AV.d)]}:=by
 show(ofO (BL σ.cs cs.length) fun xs=>if xs.length+ys.length≤big then R.ok (AV.d .none) {σ with cs:=σ.cs.set cs.length (.lst (xs++ys.map AV.d))} else .stuck)=_
 rw[e,Gr]
 show(if xs.length+ys.length≤big then R.ok (AV.d .none) {σ with cs:=(cs++[AK.lst xs]).set cs.length (.lst (xs++ys.map AV.d))} else .stuck)=_
 rw[if_pos hl,Nq]
theorem Fy.ext{ls ms:List (List Nat)}{τ:St}(T:Fy cs d ls τ)(h:f τ=.ok (.d (.lst (ms.map .str))) τ)(hl:ls.length+ms.length≤big):Aj (fun τ'=>A0 (AO Fv (En KG) (AB (N "lines")) (AD [f])) τ=.ok .next τ') (fun τ'=>Fy cs d (ls++ms) τ'):=by
 refine⟨_,C2 (BG (AH T.l) ?_ (AA h AC) (iQ T.c (by rw[List.length_map,List.length_map];exact hl))),?_,T.u,T.l⟩
 ·show(BL τ.cs cs.length).isSome=true
  rw[T.c,Gr];rfl
 ·show cs++[_]=cs++[ak (ls++ms)]
  unfold ak
  rw[List.map_append,List.map_map];rfl
theorem fS{x:Nat×Nat×Nat×Nat×Bool}(H:B7 x.1∧B7 x.2.1∧B7 x.2.2.1∧B7 x.2.2.2.1):De (sL "handler"::Xm x)≤big:=by
 refine Sq (fun w hw=>?_) (Nat.le_of_ble_eq_true rfl)
 rcases List.mem_cons.mp hw with rfl|hw
 ·exact Nat.le_of_ble_eq_true rfl
 unfold Xm at hw
 rcases List.mem_cons.mp hw with rfl|hw
 ·exact Nat.le_trans (Bf H.1) (by decide)
 rcases List.mem_cons.mp hw with rfl|hw
 ·exact Nat.le_trans (Bf H.2.1) (by decide)
 rcases List.mem_cons.mp hw with rfl|hw
 ·exact Nat.le_trans (Bf H.2.2.1) (by decide)
 rcases List.mem_cons.mp hw with rfl|hw
 ·exact Nat.le_trans (Bf H.2.2.2) (by decide)
 obtain rfl:=List.mem_singleton.mp hw
 cases x.2.2.2.2<;>exact Nat.le_of_ble_eq_true rfl
end
section
variable {σ σ1 σ2:St} {cs:List AK} {h:Hd} {us:List U} {f g:St→R AV} {v w:AV} {G:R AF→Prop} {k:St→R AF} {d:D}
theorem DQ{k:AU}{fa:St→R (List AV)}{vs:List AV}{cs':List AK}(h:fa σ=.ok vs σ1)(h2:k vs σ1.cs=.ok v cs'):AN k fa σ=.ok v {σ1 with cs:=cs'}:=(bind_ok h).trans (by rw[h2];rfl)
theorem E8{n:Nat}(h:n<2^30):G2 (.rng 0 n 1)=some ((List.range n).map Aa):=by
 show(if(0:Int).natAbs<2^30∧(n:Int).natAbs<2^30∧((1:Int)=1∨(1:Int)=-1) then some (Ph 0 n 1) else none)=_
 rw[if_pos ⟨by decide,h,.inl rfl⟩]
 unfold Ph
 have:(Builtin.Range.rangeSize 0 n 1).toNat=n:=by unfold Builtin.Range.rangeSize;split<;>lia
 rw[this]
 exact congrArg some (List.map_congr_left fun i z0=>by show D.int (0+(i:Int)*1)=D.int i;rw[Int.zero_add,Int.mul_one])
theorem Ss:∀ls:List (List Nat),Fu (ls.map fun l=>AV.d (.str l))=some (ls.map .str)
 |[]=>rfl
 |a::ls=>by show(Fu _).map _=_;rw[Ss ls];rfl
theorem fT{ls:List (List Nat)}(hc:clo cs.length cs=true)(e:σ.cs=cs++[ak ls]):fin true cs.length (.ok (.ret (.lst cs.length)) σ)=.ok (.d (.lst (ls.map .str))) cs:=by
 have h1:Tl cs.length σ.cs (.lst cs.length)=some (.lst (ls.map .str)):=by
  show(if cs.length≤cs.length then(match σ.cs[cs.length]? with|some (.lst xs)=>(Fu xs).map D.lst|_=>none) else none)=_
  rw[if_pos (Nat.le_refl _),e,List.getElem?_append_right (Nat.le_refl _),Nat.sub_self]
  show(Fu _).map D.lst=_
  rw[Ss];rfl
 have h2:σ.cs.take cs.length=cs:=by rw[e,List.take_left]
 unfold fin
 simp only[LF,h1,h2,hc,if_true]
theorem MC:∀us:List U,(Us.D us).length=us.length
 |[]=>rfl
 |_::r=>congrArg Nat.succ (MC r)
theorem MD:∀us:List U,Us.D us=us.map U.D
 |[]=>rfl
 |_::r=>by show _::Us.D r=_;rw[MD r];rfl
theorem Qe:∀us:List U,Us.lines us=us.flatMap U.lines
 |[]=>rfl
 |_::r=>by show _++Us.lines r=_;rw[Qe r];rfl
theorem iR:∀{us:List U},fR us→∀u∈us,iP u
 |_::_,h,u,hu=>by
  rcases List.mem_cons.mp hu with rfl|hu
  ·exact h.1
  ·exact iR h.2 u hu
theorem Zn:∀{us:List U},∀u∈us,u.dep≤Us.dep us
 |u::r,x,hu=>by
  show _≤max u.dep (Us.dep r)
  rcases List.mem_cons.mp hu with rfl|hu
  ·exact Nat.le_max_left ..
  ·exact Nat.le_trans (Zn x hu) (Nat.le_max_right ..)
theorem Kj:∀(n:Nat) (u:U),u.dep≤n→iP u→u.lines.length≤big→∀{cs:List AK},clo cs.length cs=true→Co n [.d u.D] cs=.ok (.d (.lst (u.lines.map .str))) cs
 |0,.mk h us,hd,_,_,_,_=>absurd hd (Nat.not_succ_le_zero _)
 |n+1,.mk h us,hd,⟨H,HU⟩,hB,cs,hc=>by
  have ih:∀u∈us,u.lines.length≤big→∀{cs:List AK},clo cs.length cs=true→Co n [.d u.D] cs=.ok (.d (.lst (u.lines.map .str))) cs:=fun u hu hb=>Kj n u (Nat.le_trans (Zn u hu) (Nat.le_of_succ_le_succ hd)) (iR HU u hu) hb
  show Ar Ey true (Ez (Co n)) [.d (.obj (h.flds (Us.D us)))] cs=_
  unfold Ez
  refine Ac (σ0:=(BJ cs).setM (N "unit") (.d (.obj (h.flds (Us.D us))))) rfl (by kernel_rfl) ?_
  have hL:(U.mk h us).lines=dF h++Us.lines us++[sL "end"]:=rfl
  rw[hL] at hB ⊢
  rw[List.length_append,List.length_append] at hB
  have hB2:(Ep h++h.consts.map J0++h.handlers.map dE++(List.range h.code.length).map (BI h)).length+(Us.lines us).length+1≤big:=hB
  simp only[List.length_append] at hB2
  refine Av (σ1:=({(BJ cs).setM (N "unit") (.d (.obj (h.flds (Us.D us)))) with cs:=cs++[ak (Ep h)]}:St).setM (N "lines") (.lst cs.length)) (AS (DQ (AA (AH AI) AC) (Qd H hc)) Ae) ?_
  have T1:Fy cs (.obj (h.flds (Us.D us))) (Ep h) (({(BJ cs).setM (N "unit") (.d (.obj (h.flds (Us.D us)))) with cs:=cs++[ak (Ep h)]}:St).setM (N "lines") (.lst cs.length)):=⟨rfl,AM (by decide+kernel) (show((BJ cs).setM (N "unit") (.d (.obj (h.flds (Us.D us))))).m (N "unit")=_ from AI),AI⟩
  refine T1.for (fun c=>[J0 c]) h.consts (BN (Ab (AH T1.u) Gq) rfl) (by rw[C8,List.length_append];lia) (fun c hcm ls' τ T hb=>?_) fun τ2 T2=>?_
  ·have hk:=H.consts c hcm
   have hl:=I5 hk
   obtain⟨τ2,e2,T2⟩:=(T.set (x:=N "value") (v:=.d (cD c)) (by decide+kernel) (by decide+kernel)).app (l:=J0 c) (AE AJ (AY (AA (AH AI) AC) (Kh hk (T.clo hc))) (Fj (a:=sL "const ") (by show 6+_≤_;unfold big;lia))) (by lia)
   exact⟨_,_,Ae,e2,T2⟩
  rw[C8] at T2
  refine T2.for (fun x=>[dE x]) h.handlers (BN (Nr (Ab (AH T2.u) HW)) rfl) (by rw[C8,List.length_append,List.length_append];lia) (fun x hx ls' τ T hb=>?_) fun τ3 T3=>?_
  ·have hk:=H.handlers x hx
   have T':=((((T.set (x:=N "start") (v:=.d (Aa x.1)) (by decide+kernel) (by decide+kernel)).set (x:=N "end") (v:=.d (Aa x.2.1)) (by decide+kernel) (by decide+kernel)).set (x:=N "target") (v:=.d (Aa x.2.2.1)) (by decide+kernel) (by decide+kernel)).set (x:=N "depth") (v:=.d (Aa x.2.2.2.1)) (by decide+kernel) (by decide+kernel)).set (x:=N "is_finally") (v:=.d (.bool x.2.2.2.2)) (by decide+kernel) (by decide+kernel)
   obtain⟨τ2,e2,T2⟩:=(T'.set (x:=N "words") (v:=.d (.lst ((Xm x).map .str))) (by decide+kernel) (by decide+kernel)).app (l:=dE x) (Ib (Mu (ws:=Xm x) (AH AI) (Nat.le_of_ble_eq_true rfl)) (fS hk)) (by lia)
   refine⟨_,_,rfl,A6 (AS (Bq (ds:=(Xm x).map .str) (AA (Ao (AA B0 AC) (Eo hk.1)) (AA (Ao (AA B0 AC) (Eo hk.2.1)) (AA (Ao (AA B0 AC) (Eo hk.2.2.1)) (AA (Ao (AA B0 AC) (Eo hk.2.2.2)) (AA (v:=.d (.str (if x.2.2.2.2 then sL "finally" else sL "catch"))) ?_ AC))))) rfl) Ae) e2,T2⟩
   exact Lf (Ax (AH AI)) (fun e=>by rw[e];exact AJ) fun e=>by rw[e];exact AJ
  rw[C8] at T3
  have hcl:h.code.length<2^30:=Nat.lt_of_le_of_lt H.lens.2.2.1 (by decide)
  refine T3.for (fun pc=>[BI h pc]) (List.range h.code.length) (e:=Aa) (BN (Ao (AA (Ao (AA (Ab (AH T3.u) Jw) AC) (CI (by rw[List.length_map];exact Nat.le_trans H.lens.2.2.1 (by decide)))) AC) rfl) (by rw[List.length_map];exact E8 hcl)) (by rw[C8];simp only[List.length_append];lia) (fun pc hpc ls' τ T hb=>?_) fun τ4 T4=>?_
  ·obtain⟨τ2,e2,T2⟩:=(T.set (x:=N "pc") (v:=.d (Aa pc)) (by decide+kernel) (by decide+kernel)).app (l:=BI h pc) (AY (AA (AH (by exact(T.set (by decide+kernel) (by decide+kernel)).u)) (AA (AH AI) AC)) (So H (List.mem_range.mp hpc) (T.clo hc))) (by lia)
   exact⟨_,_,Ae,e2,T2⟩
  rw[C8] at T4
  have hU:=Qe us
  refine T4.for U.lines us (e:=U.D) (BN (Ab (AH T4.u) I3) (by rw[MD];rfl)) (by rw[←hU];simp only[List.length_append];lia) (fun u hu ls' τ T hb=>?_) fun τ5 T5=>?_
  ·obtain⟨τ2,e2,T2⟩:=(T.set (x:=N "inner") (v:=.d u.D) (by decide+kernel) (by decide+kernel)).ext (ms:=u.lines) (AY (AA (AH AI) AC) (ih u hu (by lia) (T.clo hc))) hb
   exact⟨_,_,Ae,e2,T2⟩
  rw[←hU] at T5
  refine T5.seq (l:=sL "end") AJ (by simp only[List.length_append];lia) fun τ6 T6=>BY (AH T6.l) (fT hc T6.c)
end
section
variable {σ σ1 σ2:St} {cs:List AK} {f g:St→R AV} {v w:AV} {G:R AF→Prop} {k:St→R AF} {d:D}
theorem XN(ls:List (List Nat)):ls.length≤De ls:=Nat.le_add_left ..
theorem Ic{u:U}(hd:u.dep≤8)(ok:iP u)(hB:De u.lines≤big)(hc:clo cs.length cs=true):Bz [.d u.D] cs=.ok (.d (.str (AW [10] u.lines))) cs:=by
 unfold Bz IA
 refine Ac (σ0:=(BJ cs).setM (N "unit") (.d u.D)) rfl (by kernel_rfl) ?_
 exact BY (BG AJ rfl (AA (AY (AA (AH AI) AC) (Kj 8 u hd ok (Nat.le_trans (XN _) hB) hc)) AC) (Jx rfl hB)) (BH hc rfl)
noncomputable abbrev Ai(l:List Nat):List (List Nat):=AT 32 l
noncomputable abbrev Ci(L:List (List Nat))(at_:Nat):AK:=.dict [(N "lines",.d (.lst (L.map .str))),(N "at",.d (.int at_))]
structure CY(cs:List AK)(i:Nat)(L:List (List Nat))(a:Nat):Prop where
 at_:cs[i]? =some (Ci L a)
 clo:Mine.Internal.clo cs.length cs=true
 len:L.length≤10000
 ok:∀l∈L,Ft l
theorem CY.lines{i a:Nat}{L:List (List Nat)}(R:CY σ.cs i L a):CH (N "lines") (.obj 405 i) σ=.ok (.d (.lst (L.map .str))) σ:=by
 show(if Hj 405=true then(ofO (Gg σ.cs i) fun fs=>(ofO (fs.lookup (N "lines")) fun v=>Mine.Internal.R.ok v σ)) else .stuck)=_
 unfold Gg;rw[R.at_];rfl
theorem CY.at'{i a:Nat}{L:List (List Nat)}(R:CY σ.cs i L a):CH (N "at") (.obj 405 i) σ=.ok (.d (.int a)) σ:=by
 show(if Hj 405=true then(ofO (Gg σ.cs i) fun fs=>(ofO (fs.lookup (N "at")) fun v=>Mine.Internal.R.ok v σ)) else .stuck)=_
 unfold Gg;rw[R.at_];rfl
theorem CY.isRd{i a:Nat}{L:List (List Nat)}{x:Str}(R:CY cs i L a)(h1:x≠N "lines")(h2:x≠N "at"):Mine.Internal.isRd x cs (.obj 405 i)=true:=by
 show((405:Nat)==405&&(match cs[i]? with|some (.dict fs)=>(fs.lookup x).isNone|_=>false))=true
 rw[R.at_]
 show(List.lookup x [(N "lines",_),(N "at",_)]).isNone=true
 rw[List.lookup_cons,beq_eq_false_iff_ne.mpr h1]
 show(List.lookup x [(N "at",_)]).isNone=true
 rw[List.lookup_cons,beq_eq_false_iff_ne.mpr h2]
 rfl
theorem Nu{n a:Nat}{L:List (List Nat)}:(Ci L a).lo n=true:=rfl
theorem Kk{i n:Nat}{c:AK}(h:clo n cs=true)(hc:c.lo n=true):clo n (cs.set i c)=true:=List.all_eq_true.mpr fun x hx=>by
 rcases List.mem_or_eq_of_mem_set hx with hx|rfl
 ·exact List.all_eq_true.mp h x hx
 ·exact hc
theorem CY.lt{i a:Nat}{L:List (List Nat)}(R:CY cs i L a):i<cs.length:=(List.getElem?_eq_some_iff.mp R.at_).1
theorem CY.move{i a:Nat}{L:List (List Nat)}(R:CY cs i L a)(b:Nat):CY (cs.set i (Ci L b)) i L b:=
 ⟨by rw[List.getElem?_set_self R.lt],by rw[List.length_set];exact Kk R.clo Nu,R.len,R.ok⟩
theorem CY.put{i a b:Nat}{L:List (List Nat)}(R:CY σ.cs i L a):UE (N "at") (.d (.int b)) (.obj 405 i) σ=.ok () {σ with cs:=σ.cs.set i (Ci L b)}:=by
 show(if Hj 405=true then(ofO (Gg σ.cs i) fun fs=>if fs.length≤900 then Mine.Internal.R.ok () {σ with cs:=σ.cs.set i (.dict (EZ (N "at") (.d (.int b)) fs))} else .stuck) else .stuck)=_
 unfold Gg;rw[R.at_];rfl
theorem Ck{fz:Bool}{cs:List AK}{σ:St}(hc:clo cs.length cs=true)(e:σ.cs=cs):fin fz cs.length (.exc σ:R AF)=.exc cs:=by
 unfold fin
 simp only[e,List.take_length,hc,if_true]
theorem fU{fz:Bool}{n:Nat}{σ:St}(hn:σ.cs.length=n)(hc:clo n σ.cs=true):fin fz n (.exc σ:R AF)=.exc σ.cs:=by
 subst hn
 unfold fin
 simp only[List.take_length,hc,if_true]
theorem Qf{n:Nat}{σ:St}{d:D}(hn:σ.cs.length=n)(hc:clo n σ.cs=true):fin true n (.ok (.ret (.d d)) σ)=.ok (.d d) σ.cs:=by
 subst hn
 unfold fin;simp only[LF,Tl,JQ,List.take_length,hc,if_true]
theorem Zo{n:Nat}{σ:St}(hn:σ.cs.length=n)(hc:clo n σ.cs=true):fin true n (.ok .next σ)=.ok (.d .none) σ.cs:=by
 subst hn
 unfold fin;simp only[LF,Tl,JQ,List.take_length,hc,if_true]
theorem cK{fa:St→R (List AV)}(h:fa σ=.ok [v] σ1)(q:G (.exc σ1)):Bd (DU fa σ) G:=⟨by rw[show DU fa σ=.exc σ1 from bind_ok h];exact q⟩
theorem Zp{fa:St→R (List AV)}(h:fa σ=.ok [v] σ1):DU fa σ=.exc σ1:=bind_ok h
theorem Qg{i a:Nat}{L:List (List Nat)}(R:CY cs i L a):Bo [.obj 405 i] cs=.exc cs:=by
 unfold Bo FQ
 refine Ac (σ0:=(BJ cs).setM (N "self") (.obj 405 i)) rfl (by kernel_rfl) ?_
 exact cK (AA (Ab (AH AI) (CY.at' R)) AC) (Ck R.clo rfl)
end
section
variable {σ σ1 σ2:St} {cs:List AK} {f g:St→R AV} {v w:AV} {G:R AF→Prop} {k:St→R AF} {d:D} {i a:Nat} {L:List (List Nat)} {x:Str} {r:AU} {fa:St→R (List AV)} {vs:List AV} {cs':List AK}
theorem Fl{q:RC}(X:CY σ.cs i L a)(ho:f σ=.ok (.obj 405 i) σ)(ha:fa σ=.ok vs σ)(h:r (.obj 405 i::vs) σ.cs=q)(h1:x≠N "lines":=by decide+kernel)(h2:x≠N "at":=by decide+kernel):AO (isRd x) (Ad r) f fa σ=q.on σ:=
 BG ho (X.isRd h1 h2) ha (by show(r (.obj 405 i::vs) σ.cs).on σ=_;rw[h])
noncomputable def Su{α:Type}(e:α→D)(o:Option α)(cs:List AK):RC:=match o with
 |some y=>.ok (.d (e y)) cs
 |none=>.exc cs
noncomputable def BW(L:List (List Nat))(a:Nat):Option (List (List Nat)):=L[a]?.map Ai
noncomputable def Fm(ws:List (List Nat)):D:=.lst (ws.map .str)
theorem V5(X:CY cs i L a){l:List Nat}(e:L[a]? =some l):Ft l∧a<10000:=⟨X.ok l (List.mem_of_getElem? e),Nat.lt_of_lt_of_le (List.getElem?_eq_some_iff.mp e).1 X.len⟩
theorem Mv{l:List Nat}{c:Nat}(h:l.length≤big):Gy Gz (.d (.str l)) [.d (.str [c])] σ=.ok (.d (.lst ((AT c l).map .str))) σ:=if_pos h
theorem Mw(X:CY cs i L a):Am [.obj 405 i] cs=Su Fm (BW L a) cs:=by
 unfold Am Eg
 refine Ac (σ0:=(BJ cs).setM (N "self") (.obj 405 i)) rfl (by kernel_rfl) ?_
 have v:((BJ cs).setM (N "self") (.obj 405 i)).m (N "self")=some (.obj 405 i):=AI
 have X':CY ((BJ cs).setM (N "self") (.obj 405 i)).cs i L a:=X
 have cond:∀{b:Bool},decide ((L.map D.str).length≤(a:Int))=b→BQ (AG (CC fun a b=>decide (b≤a)) (AQ (N "at") (AB (N "self"))) (BK BA (AD [AQ (N "lines") (AB (N "self"))]))) ((BJ cs).setM (N "self") (.obj 405 i))=.ok b ((BJ cs).setM (N "self") (.obj 405 i)):=fun hb=>by
  subst hb
  exact Ax (AE (Ab (AH v) X'.at') (Ao (AA (Ab (AH v) X'.lines) AC) (CI (by rw[List.length_map];exact Nat.le_trans X.len (by decide)))) rfl)
 rw[List.length_map] at cond
 cases e:L[a]? with
 |none=>
  rw[show BW L a=none by unfold BW;rw[e];rfl]
  exact Bx (BV (cond (decide_eq_true (Int.ofNat_le.mpr (List.getElem?_eq_none_iff.mp e)))) (CR (Fl X' (AH v) AC (Qg X)))) (Ck X.clo rfl)
 |some l=>
  obtain⟨hl,ha⟩:=V5 X e
  rw[show BW L a=some (Ai l) by unfold BW;rw[e];rfl]
  exact Av (BM (cond (decide_eq_false fun z=>absurd (Int.ofNat_le.mp z) (Nat.not_le.mpr (List.getElem?_eq_some_iff.mp e).1))) Cq) (BY (BG (AE (Ab (AH v) X'.lines) (Ab (AH v) X'.at') (B8 (x:=.str l) (by rw[List.getElem?_map,e];rfl) (by unfold big;lia))) rfl (AA AJ AC) (Mv hl.big)) (BH X.clo rfl))
theorem Kl{τ:St}(X:CY τ.cs i L a)(v:τ.m (N "self")=some (.obj 405 i)):DU (AD [AG (Ay K8) (AQ (N "at") (AB (N "self"))) (cF (D.int 1))]) τ=.exc τ:=
 Zp (AA (AE (Ab (AH v) X.at') AJ rfl) AC)
theorem ER{t:St→R Bool}{c:Bool}{l k':St→R AF}(h:t σ=.ok c σ)(hT:c=true→k' σ=.exc σ∧G (.exc σ))(hF:c=false→Bd (l σ) G):Bd (AP (CG t k' BX) l σ) G:=
 Vu h (fun e=>⟨by rw[(hT e).1];exact .inr ⟨_,rfl,(hT e).2⟩⟩) hF
theorem Sv{w:List Nat}(X:CY cs i L a)(hw:Ft w):AZ [.obj 405 i,.d (.str w)] cs=Su D.int (if 0≤AX w then some (AX w) else none) cs:=by
 unfold AZ D4
 refine Ac (σ0:=((BJ cs).setM (N "self") (.obj 405 i)).setM (N "word") (.d (.str w))) rfl (by kernel_rfl) ?_
 refine Av (AS (AY (AA (AH AI) AC) (Fg hw X.clo)) Ae) (ER (Ax (AE (AH AI) AJ rfl)) (fun e=>?_) fun e=>?_)
 ·rw[if_neg (by have:=of_decide_eq_true e;lia)]
  exact⟨Kl X (AM (by decide+kernel) (AM (by decide+kernel) AI)),Ck X.clo rfl⟩
 ·rw[if_pos (by have:=of_decide_eq_false e;lia)]
  exact BY (AH AI) (BH X.clo rfl)
theorem U9{w:List Nat}(X:CY cs i L a)(hw:Ft w):Bp [.obj 405 i,.d (.str w)] cs=Su D.str (Be w) cs:=by
 unfold Bp FV
 refine Ac (σ0:=((BJ cs).setM (N "self") (.obj 405 i)).setM (N "word") (.d (.str w))) rfl (by kernel_rfl) ?_
 refine Av (AS (AY (AA (AH AI) AC) (Me hw X.clo)) Ae) ?_
 cases e:Be w with
 |none=>exact ER (c:=true) (Ax (AE (AH AI) AJ rfl)) (fun z0=>⟨Kl X (AM (by decide+kernel) (AM (by decide+kernel) AI)),Ck X.clo rfl⟩) fun e=>nomatch e
 |some t=>exact ER (c:=false) (Ax (AE (AH AI) AJ rfl)) (fun e=>nomatch e) fun z0=>BY (AH AI) (BH X.clo rfl)
theorem V6{w:List Nat}(X:CY cs i L a)(hw:Ft w):Bt [.obj 405 i,.d (.str w)] cs=Su Hm (By w) cs:=by
 unfold Bt Ei
 refine Ac (σ0:=((BJ cs).setM (N "self") (.obj 405 i)).setM (N "word") (.d (.str w))) rfl (by kernel_rfl) ?_
 have e1:=AY (k:=D2) (σ:=((BJ cs).setM (N "self") (.obj 405 i)).setM (N "word") (.d (.str w))) (AA (AH AI) AC) (U6 hw X.clo)
 cases e:By w with
 |none=>
  rw[e] at e1
  exact Av (AS e1 rfl) (ER (c:=true) (IU (Ax (AH (AM (by decide+kernel) AI)))) (fun z0=>⟨Kl X (AM (by decide+kernel) (AM (by decide+kernel) (AM (by decide+kernel) AI))),Ck X.clo rfl⟩) fun e=>nomatch e)
 |some t=>
  rw[e] at e1
  exact Av (AS e1 rfl) (ER (c:=false) (IU (Ax (AH (AM (by decide+kernel) AI)))) (fun e=>nomatch e) fun z0=>BY (AH AI) (BH X.clo rfl))
noncomputable def jl(b:Bool)(cs:List AK):RC:=if b then .ok (.d .none) cs else .exc cs
theorem fV{b:Bool}(X:CY cs i L a):An [.obj 405 i,.d (.bool b)] cs=jl b cs:=by
 unfold An FX
 refine Ac (σ0:=((BJ cs).setM (N "self") (.obj 405 i)).setM (N "is_right") (.d (.bool b))) rfl (by kernel_rfl) ?_
 cases b with
 |true=>exact Si (k:=CG _ _ _) (BM (IU (Ax (AH AI))) Cq) (iJ X.clo rfl)
 |false=>exact Si (k:=CG _ _ _) (BV (IU (Ax (AH AI))) (Kl X (AM (by decide+kernel) AI))) (Ck X.clo rfl)
end
noncomputable def A8(L:List (List Nat))(a:Nat)(w:List Nat):Option (List (List Nat)):=match BW L a with
 |some (x::xs)=>if x=w then some xs else none
 |_=>none
noncomputable def jm{α:Type}(e:α→D)(o:Option α)(cs cs':List AK):RC:=match o with
 |some y=>.ok (.d (e y)) cs'
 |none=>.exc cs
noncomputable def Er(w:List Nat):Option (Bool×Nat):=
 if w.take 5=sL "frame" then(if 0≤AX (w.drop 5) then some (true,(AX (w.drop 5)).toNat) else none)
 else if w.take 7=sL "closure" then(if 0≤AX (w.drop 7) then some (false,(AX (w.drop 7)).toNat) else none) else none
section
variable {σ σ1 σ2:St} {cs:List AK} {f g:St→R AV} {v w:AV} {G:R AF→Prop} {k:St→R AF} {d:D} {i a:Nat} {L:List (List Nat)} {x:Str} {r:AU} {fa:St→R (List AV)} {vs:List AV} {cs':List AK}
theorem Ft.take{w:List Nat}(h:Ft w)(n:Nat):Ft (w.take n):=⟨fun c hc=>h.1 c (List.mem_of_mem_take hc),by rw[List.length_take];exact Nat.le_trans (Nat.min_le_right ..) h.2⟩
theorem Ft.drop{w:List Nat}(h:Ft w)(n:Nat):Ft (w.drop n):=⟨fun c hc=>h.1 c (List.mem_of_mem_drop hc),by rw[List.length_drop];exact Nat.le_trans (Nat.sub_le ..) h.2⟩
theorem PB(c:Nat):∀l:List Nat,((AT c l).map List.length).sum+(AT c l).length=l.length+1
 |[]=>rfl
 |a::l=>by
  have ih:=PB c l
  unfold AT
  split
  ·rw[List.map_cons,List.sum_cons,List.length_cons,List.length_cons];simp only[List.length_nil];lia
  ·cases e:AT c l with
   |nil=>exact absurd e (CZ c l)
   |cons p ps=>
    rw[e] at ih
    simp only[List.map_cons,List.sum_cons,List.length_cons] at ih ⊢
    lia
theorem Nv:∀{ls:List (List Nat)} {p:List Nat},p∈ls→p.length≤(ls.map List.length).sum
 |q::ls,p,h=>by
  rw[List.map_cons,List.sum_cons]
  rcases List.mem_cons.mp h with rfl|h
  ·lia
  ·have:=Nv h;lia
theorem PC(c:Nat):∀(l:List Nat) {p:List Nat},p∈AT c l→∀x∈p,x∈l
 |[],p,h,x,hx=>by
  obtain rfl:p=[]:=List.mem_singleton.mp h
  cases hx
 |a::l,p,h,x,hx=>by
  have ih:=fun q (h:q∈AT c l)=>PC c l h
  unfold AT at h
  split at h
  ·rcases List.mem_cons.mp h with rfl|h
   ·cases hx
   ·exact .tail _ (ih _ h x hx)
  ·cases e:AT c l with
   |nil=>exact absurd e (CZ c l)
   |cons q ps=>
    rw[e] at h ih
    rcases List.mem_cons.mp h with rfl|h
    ·rcases List.mem_cons.mp hx with rfl|hx
     ·exact .head _
     ·exact .tail _ (ih _ (.head _) x hx)
    ·exact .tail _ (ih _ (.tail _ h) x hx)
theorem Sw{l:List Nat}(h:Ft l):(∀w∈Ai l,Ft w)∧(Ai l).length≤10001:=by
 have hs:=PB 32 l
 refine⟨fun w hw=>⟨fun c hc=>h.1 c (PC 32 l hw c hc),?_⟩,by have:=h.2;unfold Ai;lia⟩
 have:=Nv hw
 have h2:=h.2
 have hp:0<(AT 32 l).length:=List.length_pos_iff.mpr (CZ 32 l)
 unfold Ai at this
 lia
theorem Nw{l:List D}{lo:Int}(hf:f σ=.ok (.d (.lst l)) σ)(hh:g σ=.ok (.d (.int lo)) σ)(h2:0≤lo)(hl:l.length≤big):CD f (some g) none σ=.ok (.d (.lst (l.drop lo.toNat))) σ:=
 (bind_ok hf).trans ((bind_ok (a:=(some lo,none)) (σ:=σ) ((bind_ok (a:=some lo) ((bind_ok hh).trans (if_pos h2))).trans (bind_ok (a:=none) (σ:=σ) rfl))).trans (if_pos hl))
theorem Nx{l:List D}{hi:Int}(hf:f σ=.ok (.d (.lst l)) σ)(hh:g σ=.ok (.d (.int hi)) σ)(h2:0≤hi)(hl:l.length≤big):CD f none (some g) σ=.ok (.d (.lst (l.take hi.toNat))) σ:=
 (bind_ok hf).trans ((bind_ok (a:=(none,some hi)) (σ:=σ) ((bind_ok (a:=none) (σ:=σ) rfl).trans (bind_ok (a:=some hi) ((bind_ok hh).trans (if_pos h2))))).trans (if_pos hl))
theorem Fo(X:CY cs i L a){ws:List (List Nat)}(e:BW L a=some ws):ws≠[]∧(∀w∈ws,Ft w)∧ws.length≤10001∧a<10000:=by
 unfold BW at e
 obtain⟨l,h1,rfl⟩:=Option.map_eq_some_iff.mp e
 obtain⟨h2,h3⟩:=V5 X h1
 exact⟨CZ 32 l,(Sw h2).1,(Sw h2).2,h3⟩
theorem fW{w:List Nat}(X:CY cs i L a)(hw:Gb w=true):Ah [.obj 405 i,.d (.str w)] cs=jm Fm (A8 L a w) cs (cs.set i (Ci L (a+1))):=by
 unfold Ah FS
 refine Ac (σ0:=((BJ cs).setM (N "self") (.obj 405 i)).setM (N "word") (.d (.str w))) rfl (by kernel_rfl) ?_
 have v:(((BJ cs).setM (N "self") (.obj 405 i)).setM (N "word") (.d (.str w))).m (N "self")=some (.obj 405 i):=AM (by decide+kernel) AI
 have e1:=Fl (x:=N "words") (r:=Am) (σ:=((BJ cs).setM (N "self") (.obj 405 i)).setM (N "word") (.d (.str w))) X (AH v) AC (Mw X)
 cases e:BW L a with
 |none=>
  rw[e] at e1
  rw[show A8 L a w=none by unfold A8;rw[e]]
  exact Bx (EB e1) (Ck X.clo rfl)
 |some ws=>
  obtain⟨h1,h2,h3,h4⟩:=Fo X e
  rw[e] at e1
  cases ws with
  |nil=>exact absurd rfl h1
  |cons y ys=>
   generalize hτ:(((BJ cs).setM (N "self") (.obj 405 i)).setM (N "word") (.d (.str w))).setM (N "words") (.d (Fm (y::ys)))=τ
   have ts:τ.m (N "self")=some (.obj 405 i):=by rw[←hτ];exact AM (by decide+kernel) v
   have tw:τ.m (N "words")=some (.d (Fm (y::ys))):=by rw[←hτ];exact AI
   have tx:τ.m (N "word")=some (.d (.str w)):=by rw[←hτ];exact AM (by decide+kernel) AI
   have tc:τ.cs=cs:=by rw[←hτ];rfl
   have X':CY τ.cs i L a:=by rw[tc];exact X
   refine Av (σ1:=τ) (by rw[←hτ];exact AS e1 Ae) ?_
   refine ER (c:=!decide (y=w)) (Ax (AE (AE (AH tw) AJ (B8 (n:=0) rfl (by decide))) (AH tx) (O7 (h2 y (.head _)).ok hw))) (fun q=>⟨CR (Fl X' (AH ts) AC (Qg X')),?_⟩) fun q=>?_
   ·rw[show A8 L a w=none by unfold A8;rw[e];exact if_neg (by simpa using q)]
    exact(Ck X.clo tc).trans rfl
   ·rw[show A8 L a w=some ys by unfold A8;rw[e];exact if_pos (by simpa using q)]
    refine Av (AS (AE (Ab (AH ts) X'.at') AJ rfl) (JM (AH ts) (X'.put (b:=a+1)))) (BY (Nw (l:=(y::ys).map .str) (AH tw) AJ (by decide) (by rw[List.length_map];exact Nat.le_trans h3 (by decide))) ?_)
    rw[tc]
    exact Qf (σ:=⟨cs.set i (Ci L (a+1)),_,_⟩) (List.length_set ..) (Kk X.clo Nu)
end
noncomputable def Gs(b:Bool):List Nat:=if b then sL "frame" else sL "closure"
section
variable {σ σ1 σ2:St} {cs:List AK} {f g:St→R AV} {v w:AV} {G:R AF→Prop} {k:St→R AF} {d:D} {i a:Nat} {L:List (List Nat)} {x:Str} {r:AU} {fa:St→R (List AV)} {vs:List AV} {cs':List AK}
theorem V7(h:fa σ=.exc σ1):CU fa σ=.exc σ1:=bind_exc h
theorem Km{r:List (St→R AV)}(h:f σ=.ok v σ1)(h2:AD r σ1=.exc σ2):AD (f::r) σ=.exc σ2:=(bind_ok h).trans (bind_exc h2)
theorem V8{t:AV→St→R Unit}{b:St→R AF}{x:D}{xs:List D}(h1:t (.d x) σ=.ok () σ1)(h2:b σ1=.exc σ2):NJ t b (x::xs) σ=.exc σ2:=(bind_ok h1).trans (bind_exc h2)
theorem XO{w:List Nat}(X:CY cs i L a)(hw:Ft w):CQ [.obj 405 i,.d (.str w)] cs=Su Le (Er w) cs:=by
 unfold CQ Dr
 refine Ac (σ0:=((BJ cs).setM (N "self") (.obj 405 i)).setM (N "word") (.d (.str w))) rfl (by kernel_rfl) ?_
 generalize hτ:((BJ cs).setM (N "self") (.obj 405 i)).setM (N "word") (.d (.str w))=τ
 have ts:τ.m (N "self")=some (.obj 405 i):=by rw[←hτ];exact AM (by decide+kernel) AI
 have tw:τ.m (N "word")=some (.d (.str w)):=by rw[←hτ];exact AI
 have tc:τ.cs=cs:=by rw[←hτ];rfl
 have hk5:∀b,(Gs b).length≤big:=fun b=>by cases b<;>exact Nat.le_of_ble_eq_true rfl
 have hcond:∀(b:Bool) (τ:St) {c:Bool},τ.m (N "word")=some (.d (.str w))→τ.m (N "kind")=some (.d (.str (Gs b)))→decide (w.take (Gs b).length=Gs b)=c→
   BQ (AG C5 (CD (AB (N "word")) none (some (BK BA (AD [AB (N "kind")])))) (AB (N "kind"))) τ=.ok c τ:=fun b τ c t1 t2 hc=>
  Ax (AE (QU (AH t1) (Ao (AA (AH t2) AC) (Kd (hk5 b))) (Int.natCast_nonneg _) hw.big) (AH t2) (El (hw.take _).ok (by cases b<;>rfl) hc))
 have hnum:∀(b:Bool) (τ:St),τ.cs=cs→τ.m (N "self")=some (.obj 405 i)→τ.m (N "word")=some (.d (.str w))→τ.m (N "kind")=some (.d (.str (Gs b)))→
   AO (isRd (N "number")) (Ad AZ) (AB (N "self")) (AD [CD (AB (N "word")) (some (BK BA (AD [AB (N "kind")]))) none]) τ=(Su D.int (if 0≤AX (w.drop (Gs b).length) then some (AX (w.drop (Gs b).length)) else none) τ.cs).on τ:=fun b τ t0 t1 t2 t3=>
  Fl (by rw[t0];exact X) (AH t1) (AA (QV (AH t2) (Ao (AA (AH t3) AC) (Kd (hk5 b))) (Int.natCast_nonneg _) hw.big) AC) (Sv (by rw[t0];exact X) (hw.drop _))
 have hret:∀(b:Bool) (τ:St),τ.cs=cs→τ.m (N "self")=some (.obj 405 i)→τ.m (N "word")=some (.d (.str w))→τ.m (N "kind")=some (.d (.str (Gs b)))→
   ∀q,(if 0≤AX (w.drop (Gs b).length) then some (b,(AX (w.drop (Gs b).length)).toNat) else none)=q→
   (Aj (fun σ2=>A3 (CU (AD [AG C5 (AB (N "kind")) (cF (.str (N "frame").cps.toList)),AO (isRd (N "number")) (Ad AZ) (AB (N "self")) (AD [CD (AB (N "word")) (some (BK BA (AD [AB (N "kind")]))) none])])) τ=(match q with|some p=>.ok (.ret (.d (Le p))) σ2|none=>.exc σ2)) (fun σ2=>fin true cs.length (match q with|some p=>.ok (.ret (.d (Le p))) σ2|none=>.exc σ2)=Su Le q cs)):=fun b τ t0 t1 t2 t3 q hq=>by
  have e0:AG C5 (AB (N "kind")) (cF (.str (N "frame").cps.toList)) τ=.ok (.d (.bool b)) τ:=AE (AH t3) AJ (El (by cases b<;>rfl) rfl (by cases b<;>rfl))
  have e1:=hnum b τ t0 t1 t2 t3
  by_cases h:0≤AX (w.drop (Gs b).length)
  ·rw[if_pos h] at e1 hq
   subst hq
   exact⟨τ,DJ (BU (AA e0 (AA e1 AC)) (by show some [_,D.int _]=some [_,D.int (Int.ofNat _)];rw[Int.ofNat_eq_natCast,Int.toNat_of_nonneg h])),BH X.clo t0⟩
  ·rw[if_neg h] at e1 hq
   subst hq
   exact⟨_,Vt (V7 (Km e0 (DF e1))),Ck X.clo t0⟩
 have sk:∀b,(τ.setM (N "kind") (.d (.str (Gs b)))).cs=cs∧(τ.setM (N "kind") (.d (.str (Gs b)))).m (N "self")=some (.obj 405 i)∧(τ.setM (N "kind") (.d (.str (Gs b)))).m (N "word")=some (.d (.str w)):=fun b=>⟨tc,AM (by decide+kernel) ts,AM (by decide+kernel) tw⟩
 have hit:A7 (CU (AD [cF (.str (N "frame").cps.toList),cF (.str (N "closure").cps.toList)])) τ=.ok [.str (Gs true),.str (Gs false)] τ:=BN (BU (AA AJ (AA AJ AC)) rfl) rfl
 obtain⟨k1,k2,k3⟩:=sk true
 by_cases c1:w.take 5=sL "frame"
 ·have hq:Er w=if 0≤AX (w.drop 5) then some (true,(AX (w.drop 5)).toNat) else none:=if_pos c1
  obtain⟨σ2,e,hf⟩:=hret true _ k1 k2 k3 AI (Er w) hq.symm
  revert e hf
  cases Er w with
  |some p=>exact fun e hf=>No (Ff hit (Mr Ae (BV (hcond true _ k3 AI (decide_eq_true c1)) e))) hf
  |none=>exact fun e hf=>Bx (Ff hit (V8 Ae (BV (hcond true _ k3 AI (decide_eq_true c1)) e))) hf
 ·have sk2:∀u,((τ.setM (N "kind") u).setM (N "kind") (.d (.str (Gs false)))).cs=cs∧((τ.setM (N "kind") u).setM (N "kind") (.d (.str (Gs false)))).m (N "self")=some (.obj 405 i)∧((τ.setM (N "kind") u).setM (N "kind") (.d (.str (Gs false)))).m (N "word")=some (.d (.str w)):=fun u=>⟨tc,AM (by decide+kernel) (AM (by decide+kernel) ts),AM (by decide+kernel) (AM (by decide+kernel) tw)⟩
  obtain⟨l1,l2,l3⟩:=sk2 (.d (.str (Gs true)))
  by_cases c2:w.take 7=sL "closure"
  ·have hq:Er w=if 0≤AX (w.drop 7) then some (false,(AX (w.drop 7)).toNat) else none:=(if_neg c1).trans (if_pos c2)
   obtain⟨σ2,e,hf⟩:=hret false _ l1 l2 l3 AI (Er w) hq.symm
   revert e hf
   cases Er w with
   |some p=>exact fun e hf=>No (Ff hit (HS Ae (BM (hcond true _ k3 AI (decide_eq_false c1)) Cq) (Mr Ae (BV (hcond false _ l3 AI (decide_eq_true c2)) e)))) hf
   |none=>exact fun e hf=>Bx (Ff hit (HS Ae (BM (hcond true _ k3 AI (decide_eq_false c1)) Cq) (V8 Ae (BV (hcond false _ l3 AI (decide_eq_true c2)) e)))) hf
  ·rw[show Er w=none from(if_neg c1).trans (if_neg c2)]
   exact Av (Ff hit (HS Ae (BM (hcond true _ k3 AI (decide_eq_false c1)) Cq) (HS Ae (BM (hcond false _ l3 AI (decide_eq_false c2)) Cq) Vz))) (Si (Kl (by rw[l1];exact X) l2) (Ck X.clo l1))
end
noncomputable def Br(w:List Nat):Option Nat:=if 0≤AX w then some (AX w).toNat else none
noncomputable def DG(ws:List (List Nat)):Option (List Nat ⊕ Nat):=match ws with
 |[w]=>if w.take 1=[34] then(Be w).map .inl else(Br w).map .inr
 |_=>none
noncomputable def Df{α β:Type}(o:α→Option β):List α→Option (List β)
 |[]=>some []
 |x::xs=>match o x with
  |some y=>(Df o xs).map (y:: ·)
  |none=>none
noncomputable def Mf{α:Type}(e:α→D)(o:Option α)(σ:St):R AV:=match o with
 |some y=>.ok (.d (e y)) σ
 |none=>.exc σ
section
variable {σ σ1 σ2:St} {cs:List AK} {f g o:St→R AV} {v w:AV} {G:R AF→Prop} {k:St→R AF} {d:D} {i a:Nat} {L:List (List Nat)} {x:Str} {r:AU} {fa:St→R (List AV)} {vs:List AV} {cs':List AK}
set_option tactic.hygienic true in
theorem I8{w:List Nat}(X:CY cs i L a)(hw:Ft w):AZ [.obj 405 i,.d (.str w)] cs=Su Aa (Br w) cs:=by
 rw[Sv X hw]
 unfold Br
 split
 ·rename_i h
  show RC.ok (.d (.int _)) cs=RC.ok (.d (.int (Int.ofNat _))) cs
  rw[Int.ofNat_eq_natCast,Int.toNat_of_nonneg h]
 ·rfl
theorem VB{α:Type}{e:α→D}{o:Option α}:(Su e o σ.cs).on σ=Mf e o σ:=by cases o<;>rfl
theorem Fp{α:Type}{e:α→D}{q:Option α}(X:CY σ.cs i L a)(ho:o σ=.ok (.obj 405 i) σ)(ha:fa σ=.ok vs σ)(h:r (.obj 405 i::vs) σ.cs=Su e q σ.cs)(h1:x≠N "lines":=by decide+kernel)(h2:x≠N "at":=by decide+kernel):AO (isRd x) (Ad r) o fa σ=Mf e q σ:=
 (Fl X ho ha h h1 h2).trans VB
theorem Db{b:Bool}(X:CY σ.cs i L a)(ho:o σ=.ok (.obj 405 i) σ)(h:f σ=.ok (.d (.bool b)) σ)(hF:b=false→G (.exc σ))(hT:b=true→Bd (k σ) G):Bd (AP (A0 (AO (isRd (N "need")) (Ad An) o (AD [f]))) k σ) G:=by
 have e:=Fl (x:=N "need") (r:=An) X ho (AA h AC) (fV X)
 cases b with
 |true=>exact Av (C2 e) (hT rfl)
 |false=>exact Bx (CR e) (hF rfl)
theorem Es{b c:Bool}(h:f σ=.ok (.d (.bool b)) σ)(h2:b=true→g σ=.ok (.d (.bool c)) σ):FA (Eu .And) [f,g] σ=.ok (.d (.bool (b&&c))) σ:=by
 refine(bind_ok h).trans ((bind_ok (a:=b) rfl).trans ?_)
 cases b with
 |true=>exact h2 rfl
 |false=>rfl
theorem PD{ι κ:Type}{t:AV→St→R Unit}{f:St→R AV}{cs:List AK}{b:Str→Option AV}(e:ι→D)(emb:κ→D)(q:ι→Option κ):∀(xs:List ι) (σ:St),σ.cs=cs→σ.b=b→
  (∀x∈xs,∀σ:St,σ.cs=cs→σ.b=b→JO (fun σ1 σ2=>t (.d (e x)) σ=.ok () σ1) (fun σ1 σ2=>f σ1=Mf emb (q x) σ2) (fun σ1 σ2=>σ2.cs=cs) (fun σ1 σ2=>σ2.b=b))→
  EU (fun σ'=>DN t f (xs.map e) σ=(match Df q xs with|some ys=>.ok (ys.map emb) σ'|none=>.exc σ')) (fun σ'=>σ'.cs=cs) (fun σ'=>σ'.b=b)
 |[],σ,h1,h2,_=>⟨σ,rfl,h1,h2⟩
 |x::xs,σ,h1,h2,step=>by
  obtain⟨σ1,σ2,e1,e2,h3,h4⟩:=step x (.head _) σ h1 h2
  unfold Df
  cases hq:q x with
  |none=>
   rw[hq] at e2
   exact⟨σ2,(bind_ok e1).trans (bind_exc e2),h3,h4⟩
  |some y=>
   rw[hq] at e2
   obtain⟨σ',e3,h5,h6⟩:=PD e emb q xs σ2 h3 h4 fun y hy=>step y (.tail _ hy)
   refine⟨σ',(bind_ok e1).trans ((bind_ok e2).trans ?_),h5,h6⟩
   show(DN t f (xs.map e) σ2).bind _=_
   rw[e3]
   cases Df q xs<;>rfl
theorem Sx{ι κ:Type}{fi:St→R (List D)}{t:AV→St→R Unit}{f:St→R AV}{xs:List ι}(e:ι→D)(emb:κ→D)(q:ι→Option κ)(hf:fi σ=.ok (xs.map e) σ1)(hl:xs.length≤big)
  (step:∀x∈xs,∀σ:St,σ.cs=σ1.cs→σ.b=σ1.b→JO (fun σ' σ2=>t (.d (e x)) σ=.ok () σ') (fun σ' σ2=>f σ'=Mf emb (q x) σ2) (fun σ' σ2=>σ2.cs=σ1.cs) (fun σ' σ2=>σ2.b=σ1.b)):Bg fi t f σ=Mf (fun ys=>D.lst (ys.map emb)) (Df q xs) σ1:=by
 obtain⟨σ',e',h1,h2⟩:=PD e emb q xs (inner σ1) rfl rfl step
 have:compI fi t f σ=(match Df q xs with|some ys=>.ok (ys.map emb) σ1|none=>.exc σ1):=by
  refine(bind_ok hf).trans ((if_pos (by rw[List.length_map];exact hl)).trans ?_)
  rw[e']
  have hs:({σ' with m:=σ1.m}:St)=σ1:=by
   show St.mk σ'.cs σ1.m σ'.b=σ1
   rw[h1,h2];rfl
  cases Df q xs
  ·show R.exc _=_
   rw[hs]
  ·show R.ok _ _=_
   rw[hs]
 unfold Bg
 rw[this]
 cases Df q xs<;>rfl
theorem VC{ws:List (List Nat)}(X:CY cs i L a)(hw:∀w∈ws,Ft w)(hl:ws.length≤10001):Bj [.obj 405 i,.d (Fm ws)] cs=Su cD (DG ws) cs:=by
 unfold Bj DW
 refine Ac (σ0:=((BJ cs).setM (N "self") (.obj 405 i)).setM (N "words") (.d (Fm ws))) rfl (by kernel_rfl) ?_
 generalize hτ:((BJ cs).setM (N "self") (.obj 405 i)).setM (N "words") (.d (Fm ws))=τ
 have ts:τ.m (N "self")=some (.obj 405 i):=by rw[←hτ];exact AM (by decide+kernel) AI
 have tw:τ.m (N "words")=some (.d (Fm ws)):=by rw[←hτ];exact AI
 have tc:τ.cs=cs:=by rw[←hτ];rfl
 have X':CY τ.cs i L a:=by rw[tc];exact X
 refine Db X' (AH ts) (AE (Ao (AA (AH tw) AC) (CI (by rw[List.length_map];exact Nat.le_trans hl (by decide)))) AJ EO) (fun e=>?_) fun e=>?_
 ·rw[show DG ws=none by
   unfold DG
   split
   ·exact absurd rfl (of_decide_eq_false e)
   ·rfl]
  exact Ck X.clo tc
 ·match ws,hw,tw,e with
  |[w],hw,tw,e=>
   have hok:=hw w (.head _)
   have e0:AG Af (AB (N "words")) (cF (.int 0)) τ=.ok (.d (.str w)) τ:=AE (AH tw) AJ (B8 (n:=0) rfl (by decide))
   have ec:∀{b:Bool},decide (w.take 1=[34])=b→BQ (AG C5 (CD (AG Af (AB (N "words")) (cF (.int 0))) none (some (cF (.int 1)))) (cF (.str (N "\"").cps.toList))) τ=.ok b τ:=fun hb=>
    Ax (AE (QU e0 AJ (by decide) hok.big) AJ (El (hok.take _).ok rfl hb))
   by_cases h:w.take 1=[34]
   ·have et:=Fp (x:=N "text") X' (AH ts) (AA e0 AC) (U9 X' hok)
    rw[show DG [w]=(Be w).map .inl from if_pos h]
    revert et
    cases Be w with
    |none=>exact fun et=>Zc (BV (ec (decide_eq_true h)) et) (Ck X.clo tc)
    |some t=>exact fun et=>BY (BV (ec (decide_eq_true h)) et) (BH X.clo tc)
   ·have et:=Fp (x:=N "number") X' (AH ts) (AA e0 AC) (I8 X' hok)
    rw[show DG [w]=(Br w).map .inr from if_neg h]
    revert et
    cases Br w with
    |none=>exact fun et=>Zc (BM (ec (decide_eq_false h)) et) (Ck X.clo tc)
    |some t=>exact fun et=>BY (BM (ec (decide_eq_false h)) et) (BH X.clo tc)
  |[],hw,tw,e=>exact absurd e (by decide)
  |_::_::_,hw,tw,e=>
   have:=of_decide_eq_true e
   simp at this
   lia
end
noncomputable def Ie(ws:List (List Nat)):Option (Nat×Nat×Nat×Nat×Bool):=match ws with
 |[p,q,r,s,z]=>if z∈[sL "finally",sL "catch"] then(match Br p,Br q,Br r,Br s with
  |some a,some b,some c,some d=>some (a,b,c,d,decide (z=sL "finally"))
  |_,_,_,_=>none) else none
 |_=>none
noncomputable def GJ(L:List (List Nat))(a:Nat):Option Unit:=match BW L a with
 |some ws=>if ws=[sL "end"] then some () else none
 |none=>none
section
variable {σ σ1 σ2:St} {cs:List AK} {f g o:St→R AV} {v w:AV} {G:R AF→Prop} {k:St→R AF} {d:D} {i a:Nat} {L:List (List Nat)} {x:Str} {r:AU} {fa:St→R (List AV)} {vs:List AV} {cs':List AK}
theorem Kn{x:Str}(h:f σ=.exc σ1):NM f x σ=.exc σ1:=bind_exc h
theorem XQ{ws:List (List Nat)}(X:CY cs i L a)(hw:∀w∈ws,Ft w)(hl:ws.length≤10001):Bs [.obj 405 i,.d (Fm ws)] cs=Su L9 (Ie ws) cs:=by
 unfold Bs Dt
 refine Ac (σ0:=((BJ cs).setB (N "self") (.obj 405 i)).setM (N "words") (.d (Fm ws))) rfl (by kernel_rfl) ?_
 generalize hτ:((BJ cs).setB (N "self") (.obj 405 i)).setM (N "words") (.d (Fm ws))=τ
 have ts:τ.b (N "self")=some (.obj 405 i):=by rw[←hτ];exact(show((BJ cs).setB (N "self") (.obj 405 i)).b (N "self")=_ from b_hit)
 have tw:τ.m (N "words")=some (.d (Fm ws)):=by rw[←hτ];exact AI
 have tc:τ.cs=cs:=by rw[←hτ];rfl
 have X':CY τ.cs i L a:=by rw[tc];exact X
 have hlen:BK BA (AD [AB (N "words")]) τ=.ok (.d (.int ws.length)) τ:=Ao (AA (AH tw) AC) ((CI (by rw[List.length_map];exact Nat.le_trans hl (by decide))).trans (by rw[List.length_map]))
 match ws,hw,hl,tw,hlen with
 |[p,q,r,s,z],hw,hl,tw,hlen=>
  have hz:=hw z (by simp)
  have e4:AG Af (AB (N "words")) (cF (.int 4)) τ=.ok (.d (.str z)) τ:=AE (AH tw) AJ (B8 (n:=4) rfl (by decide))
  refine Db X' (Fx ts) (Es (b:=true) (AE hlen AJ EO) fun z0=>AE e4 (BU (AA AJ (AA AJ AC)) rfl) (dD (bs:=[sL "finally",sL "catch"]) hz.ok rfl)) (fun e=>?_) fun e=>?_
  ·rw[show Ie [p,q,r,s,z]=none from if_neg (of_decide_eq_false e)]
   exact Ck X.clo tc
  ·have hd:Ie [p,q,r,s,z]=_:=if_pos (of_decide_eq_true e)
   have ec:Bg (A7 (CD (AB (N "words")) none (some (cF (.int 4))))) (Az (N "word")) (AO (isRd (N "number")) (Ad AZ) (Aq (N "self")) (AD [AB (N "word")])) τ=Mf (fun ys=>D.lst (ys.map Aa)) (Df Br [p,q,r,s]) τ:=
    Sx D.str Aa Br (BN (Nx (AH tw) AJ (by decide) (Nat.le_of_ble_eq_true rfl)) rfl) (Nat.le_of_ble_eq_true rfl) fun x hx σ' h1 h2=>
     ⟨_,_,Ae,Fp (by show CY σ'.cs i L a;rw[h1];exact X') (Fx (by show σ'.b _=_;rw[h2];exact ts)) (AA (AH AI) AC) (I8 (by show CY σ'.cs i L a;rw[h1];exact X') (hw x (by simp only[List.mem_cons,List.not_mem_nil,or_false] at hx ⊢;rcases hx with h|h|h|h<;>simp[h]))),h1,h2⟩
   rw[hd]
   revert ec
   unfold Df Df Df Df Df
   cases Br p with
   |none=>exact fun ec=>Bx (Kn ec) (Ck X.clo tc)
   |some n1=>
    cases Br q with
    |none=>exact fun ec=>Bx (Kn ec) (Ck X.clo tc)
    |some n2=>
     cases Br r with
     |none=>exact fun ec=>Bx (Kn ec) (Ck X.clo tc)
     |some n3=>
      cases Br s with
      |none=>exact fun ec=>Bx (Kn ec) (Ck X.clo tc)
      |some n4=>
       intro ec
       refine Av (Qc ec) ?_
       have tn:(τ.setM (N "numbers") (.d (.lst ([n1,n2,n3,n4].map Aa)))).m (N "numbers")=some (.d (.lst ([n1,n2,n3,n4].map Aa))):=AI
       exact BY (BU (AA (AE (AH tn) AJ (B8 (n:=0) rfl (by decide))) (AA (AE (AH tn) AJ (B8 (n:=1) rfl (by decide))) (AA (AE (AH tn) AJ (B8 (n:=2) rfl (by decide))) (AA (AE (AH tn) AJ (B8 (n:=3) rfl (by decide))) (AA (AE (AE (AH (AM (by decide+kernel) tw)) AJ (B8 (n:=4) rfl (by decide))) AJ (L7 hz.ok rfl)) AC))))) rfl) (BH X.clo tc)
 |[],hw,hl,tw,hlen=>exact Db X' (Fx ts) (Es (b:=false) (c:=true) (AE hlen AJ EO) fun e=>nomatch e) (fun z0=>Ck X.clo tc) fun e=>nomatch e
 |[_],hw,hl,tw,hlen=>exact Db X' (Fx ts) (Es (b:=false) (c:=true) (AE hlen AJ EO) fun e=>nomatch e) (fun z0=>Ck X.clo tc) fun e=>nomatch e
 |[_,_],hw,hl,tw,hlen=>exact Db X' (Fx ts) (Es (b:=false) (c:=true) (AE hlen AJ EO) fun e=>nomatch e) (fun z0=>Ck X.clo tc) fun e=>nomatch e
 |[_,_,_],hw,hl,tw,hlen=>exact Db X' (Fx ts) (Es (b:=false) (c:=true) (AE hlen AJ EO) fun e=>nomatch e) (fun z0=>Ck X.clo tc) fun e=>nomatch e
 |[_,_,_,_],hw,hl,tw,hlen=>exact Db X' (Fx ts) (Es (b:=false) (c:=true) (AE hlen AJ EO) fun e=>nomatch e) (fun z0=>Ck X.clo tc) fun e=>nomatch e
 |_::_::_::_::_::_::ws,hw,hl,tw,hlen=>
  refine Db X' (Fx ts) (Es (b:=false) (c:=true) ((AE hlen AJ EO).trans ?_) fun e=>nomatch e) (fun z0=>Ck X.clo tc) fun e=>nomatch e
  refine congrArg (fun b=>R.ok (AV.d (.bool b)) τ) (decide_eq_false ?_)
  simp only[List.length_cons]
  lia
end
section
variable {σ σ1 σ2:St} {cs:List AK} {f g o:St→R AV} {v w:AV} {G:R AF→Prop} {k:St→R AF} {d:D} {i a:Nat} {L:List (List Nat)} {x:Str} {r:AU} {fa:St→R (List AV)} {vs:List AV} {cs':List AK}
noncomputable abbrev Oj(l:List Nat):PyData:=.str (so l)
theorem Ny:∀a:List (List Nat),EX (a.map .str)=some (a.map Oj)
 |[]=>rfl
 |l::a=>by
  show(match MI (.str l),EX (a.map .str) with|some p,some ps=>some (p::ps)|_,_=>none)=_
  rw[Ny a];rfl
theorem V9:∀{a:List (List Nat)},a.all Gb=true→PyData.canLayAll0 (a.map Oj)=true
 |[],_=>by rw[List.map_nil,PyData.canLayAll0]
 |l::a,h=>by
  rw[List.all_cons,Bool.and_eq_true] at h
  rw[List.map_cons,PyData.canLayAll0,V9 h.2,Bool.and_true]
  exact SeqAt.canLay_of_shaped (HO h.1)
theorem WA:∀a:List (List Nat),PyData.depthAll (a.map Oj)=0
 |[]=>by rw[List.map_nil,PyData.depthAll]
 |l::a=>by rw[List.map_cons,PyData.depthAll,WA a,PyData.depth];rfl
theorem WC:∀a b:List (List Nat),PyData.eqvAll (a.map Oj) (b.map Oj)=decide (a=b)
 |[],[]=>by rw[List.map_nil,PyData.eqvAll];rfl
 |[],_::_=>by rw[List.map_nil,List.map_cons,PyData.eqvAll];rfl
 |_::_,[]=>by rw[List.map_nil,List.map_cons,PyData.eqvAll];rfl
 |l::a,m::b=>by
  rw[List.map_cons,List.map_cons,PyData.eqvAll,WC a b,PyData.eqv,dC,←Bool.decide_and]
  exact decide_eq_decide.mpr (by rw[List.cons.injEq])
theorem Sy{a b:List (List Nat)}(ha:a.all Gb=true)(hb:b.all Gb=true):OP cs (.d (.lst (a.map .str))) (.d (.lst (b.map .str)))=some (decide (a=b)):=by
 have hs:∀{a:List (List Nat)},a.all Gb=true→SeqAt.shaped (.list (a.map Oj))=true:=fun h=>by
  unfold SeqAt.shaped
  rw[PyData.canLay0,V9 h,PyData.depth,WA];rfl
 show(match(EX (a.map .str)).map PyData.list,(EX (b.map .str)).map PyData.list with|some p,some q=>if SeqAt.shaped p&&SeqAt.shaped q then some (PyData.eqv p q) else none|_,_=>none)=_
 rw[Ny,Ny]
 show(if SeqAt.shaped (.list (a.map Oj))&&SeqAt.shaped (.list (b.map Oj)) then some (PyData.eqv (.list (a.map Oj)) (.list (b.map Oj))) else none)=_
 rw[hs ha,hs hb,PyData.eqv,WC];rfl
theorem Ko{ws:List (List Nat)}(h:∀w∈ws,Ft w):ws.all Gb=true:=List.all_eq_true.mpr fun w hw=>(h w hw).ok
theorem VD(X:CY cs i L a):B2 [.obj 405 i] cs=(match GJ L a with|some _=>.ok (.d .none) (cs.set i (Ci L (a+1)))|none=>.exc cs):=by
 unfold B2 DY
 refine Ac (σ0:=(BJ cs).setM (N "self") (.obj 405 i)) rfl (by kernel_rfl) ?_
 generalize hτ:(BJ cs).setM (N "self") (.obj 405 i)=τ
 have ts:τ.m (N "self")=some (.obj 405 i):=by rw[←hτ];exact AI
 have tc:τ.cs=cs:=by rw[←hτ];rfl
 have X':CY τ.cs i L a:=by rw[tc];exact X
 have e1:=Fp (x:=N "words") X' (AH ts) AC (Mw X')
 cases e:BW L a with
 |none=>
  rw[e] at e1
  rw[show GJ L a=none by unfold GJ;rw[e]]
  exact Bx (bind_exc (ZY (Ix e1))) (Ck X.clo tc)
 |some ws=>
  obtain⟨h1,h2,h3,h4⟩:=Fo X e
  rw[e] at e1
  have hn:Iq (.d (Fm ws)) (.d (.lst [.str (sL "end")])) τ=.ok (.d (.bool (!decide (ws=[sL "end"])))) τ:=by
   unfold Iq
   rw[show OP τ.cs (.d (Fm ws)) (.d (.lst [.str (sL "end")]))=_ from Sy (b:=[sL "end"]) (Ko h2) rfl];rfl
  refine ER (Ax (AE e1 (Bq (AA AJ AC) rfl) hn)) (fun q=>⟨CR (Fl X' (AH ts) AC (Qg X')),?_⟩) fun q=>?_
  ·rw[show GJ L a=none by unfold GJ;rw[e];exact if_neg (by simpa using q)]
   exact(Ck X.clo tc).trans rfl
  ·rw[show GJ L a=some () by unfold GJ;rw[e];exact if_pos (by simpa using q)]
   refine Si (AS (AE (Ab (AH ts) X'.at') AJ rfl) (JM (AH ts) (X'.put (b:=a+1)))) ?_
   rw[tc]
   exact Zo (σ:=⟨cs.set i (Ci L (a+1)),_,_⟩) (List.length_set ..) (Kk X.clo Nu)
end
noncomputable def Qh(n:Nat)(h:Hd):AK:=.dict [(N "name",.d (Ek h.name)),(N "params",.d (.lst (h.params.map .str))),(N "code",.lst (n+1)),(N "consts",.lst (n+2)),(N "units",.lst (n+3)),(N "handlers",.lst (n+4)),(N "lines",.lst (n+5)),
 (N "local_count",.d (Aa h.lc)),(N "cell_count",.d (Aa h.cc)),(N "captures",.d (.lst (h.caps.map Le))),(N "is_strict",.d (.bool h.strict)),(N "uses_arguments",.d (.bool h.args)),(N "self_slot",.d (Hm h.self)),(N "arguments_place",.d (Hm h.argp)),(N "param_places",.d (.lst (h.places.map Hm)))]
noncomputable def B9(l:List D):AK:=.lst (l.map AV.d)
noncomputable def Ap(n:Nat)(h:Hd)(us:List D):List AK:=[Qh n h,B9 (h.code.map Hl),B9 (h.consts.map cD),B9 us,B9 (h.handlers.map L9),B9 (h.lines.map Aa)]
noncomputable def K6(name:Option (List Nat))(params:List (List Nat)):Hd:=⟨name,params,[],[],[],[],0,0,[],false,false,none,none,[]⟩
section
variable {σ σ1 σ2:St} {cs:List AK} {f g o:St→R AV} {v w:AV} {G:R AF→Prop} {k:St→R AF} {d:D}
theorem J1{n:Str}{c j:Nat}{fs:List (Str×AV)}{τ:St}(hc:Hj c=true)(h:τ.cs[j]? =some (.dict fs))(hl:fs.length≤900):UE n v (.obj c j) τ=.ok () {τ with cs:=τ.cs.set j (.dict (EZ n v fs))}:=by
 refine(if_pos hc).trans ?_
 rw[show Gg τ.cs j=some fs by unfold Gg;rw[h];rfl]
 exact if_pos hl
theorem Ig{b:List AK}{c:AK}{ys:List AK}:(b++c::ys)[b.length]? =some c:=by rw[List.getElem?_append_right (Nat.le_refl _),Nat.sub_self];rfl
theorem HX{b:List AK}{c d:AK}{ys:List AK}:(b++c::ys).set b.length d=b++d::ys:=by rw[List.set_append_right _ _ (Nat.le_refl _),Nat.sub_self];rfl
structure Mk(b:List AK)(fs:List (Str×AV))(ys:List AK)(nm pr:AV)(τ:St):Prop where
 c:τ.cs=b++.dict fs::ys
 s:τ.m (N "self")=some (.obj 117 b.length)
 n:τ.m (N "name")=some nm
 p:τ.m (N "params")=some pr
theorem Mk.put{b:List AK}{fs:List (Str×AV)}{ys:List AK}{nm pr:AV}{τ:St}{x:Str}(M:Mk b fs ys nm pr τ)(h:f τ=.ok v τ)(hl:Nat.ble fs.length 900=true)(n:∀τ',Mk b (EZ x v fs) ys nm pr τ'→Bd (k τ') G):Bd (AP (Ag f (EE x (AB (N "self")))) k τ) G:=by
 refine Av (AS h (JM (AH M.s) (J1 rfl (by rw[M.c];exact Ig) (Nat.le_of_ble_eq_true hl)))) (n _ ⟨?_,M.s,M.n,M.p⟩)
 show τ.cs.set b.length _=_
 rw[M.c,HX]
theorem Mk.putL{b:List AK}{fs:List (Str×AV)}{ys:List AK}{nm pr:AV}{τ:St}{x:Str}{j:Nat}(M:Mk b fs ys nm pr τ)(hj:ys.length=j)(hl:Nat.ble fs.length 900=true)(n:∀τ',Mk b (EZ x (.lst (b.length+(j+1))) fs) (ys++[.lst []]) nm pr τ'→Bd (k τ') G):Bd (AP (Ag (KE (AD [])) (EE x (AB (N "self")))) k τ) G:=by
 have hlen:τ.cs.length=b.length+(j+1):=by rw[M.c,List.length_append,List.length_cons,hj]
 have h1:(b++AK.dict fs::ys)++[.lst []]=b++.dict fs::(ys++[.lst []]):=by rw[List.append_assoc];rfl
 refine Av (AS (KZ AC) (JM (AH M.s) (J1 (fs:=fs) rfl (by show(τ.cs++[AK.lst []])[b.length]? =_;rw[M.c,h1];exact Ig) (Nat.le_of_ble_eq_true hl)))) (n _ ⟨?_,M.s,M.n,M.p⟩)
 show(τ.cs++[AK.lst []]).set b.length _=_
 rw[hlen,M.c,h1,HX]
theorem Sz{b:List AK}{nm:Option (List Nat)}{ps:List (List Nat)}:EI [.obj 117 b.length,.d (Ek nm),.d (.lst (ps.map .str))] (b++[.dict []])=.ok (.d .none) (b++Ap b.length (K6 nm ps) []):=by
 unfold EI H3
 refine Ac (σ0:=(((BJ (b++[.dict []])).setM (N "self") (.obj 117 b.length)).setM (N "name") (.d (Ek nm))).setM (N "params") (.d (.lst (ps.map .str)))) rfl (by kernel_rfl) ?_
 have M:Mk b [] [] (.d (Ek nm)) (.d (.lst (ps.map .str))) ((((BJ (b++[.dict []])).setM (N "self") (.obj 117 b.length)).setM (N "name") (.d (Ek nm))).setM (N "params") (.d (.lst (ps.map .str)))):=
  ⟨rfl,AM (by decide+kernel) (AM (by decide+kernel) AI),AM (by decide+kernel) AI,AI⟩
 refine M.put (AH M.n) rfl fun τ M=>M.put (AH M.p) rfl fun τ M=>M.putL rfl rfl fun τ M=>M.putL rfl rfl fun τ M=>M.putL rfl rfl fun τ M=>M.putL rfl rfl fun τ M=>M.putL rfl rfl fun τ M=>
  M.put AJ rfl fun τ M=>M.put AJ rfl fun τ M=>M.put (Bq AC rfl) rfl fun τ M=>M.put AJ rfl fun τ M=>M.put AJ rfl fun τ M=>M.put AJ rfl fun τ M=>M.put AJ rfl fun τ M=>?_
 refine Si (AS (Bq AC rfl) (JM (AH M.s) (J1 rfl (by rw[M.c];exact Ig) (Nat.le_of_ble_eq_true rfl)))) ?_
 show RC.ok (.d .none) (τ.cs.set b.length _)=_
 rw[M.c,HX]
 kernel_rfl
theorem Zq{b:List AK}{nm:Option (List Nat)}{ps:List (List Nat)}:FH [.d (Ek nm),.d (.lst (ps.map .str))] b=.ok (.obj 117 b.length) (b++Ap b.length (K6 nm ps) []):=by
 show(match EI (.obj 117 b.length::_) (b++[.dict []]) with|.ok (.d .none) cs'=>RC.ok (.obj 117 b.length) cs'|_=>.stuck)=_
 rw[Sz]
end
section
variable {σ σ1 σ2:St} {cs:List AK} {f g o:St→R AV} {v w:AV} {G:R AF→Prop} {k:St→R AF} {d:D} {b:List AK} {h:Hd} {us:List D}
theorem Lh{ys:List AK}(j:Nat):(b++ys)[b.length+j]? =ys[j]? :=by rw[List.getElem?_append_right (Nat.le_add_right ..),Nat.add_sub_cancel_left]
theorem S7{ys:List AK}{c:AK}(j:Nat):(b++ys).set (b.length+j) c=b++ys.set j c:=by rw[List.set_append_right _ _ (Nat.le_add_right ..),Nat.add_sub_cancel_left]
theorem I9{n:Str}{c j:Nat}{fs:List (Str×AV)}(hc:Hj c=true)(h:σ.cs[j]? =some (.dict fs))(hl:fs.lookup n=some v):CH n (.obj c j) σ=.ok v σ:=by
 refine(if_pos hc).trans ?_
 rw[show Gg σ.cs j=some fs by unfold Gg;rw[h];rfl]
 show ofO (fs.lookup n) _=_
 rw[hl];rfl
theorem XR(e:σ.cs=b++Ap b.length h us):σ.cs[b.length]? =some (Qh b.length h):=by rw[e];exact Lh 0
theorem VE(e:σ.cs=b++Ap b.length h us):CH (N "code") (.obj 117 b.length) σ=.ok (.lst (b.length+1)) σ:=I9 rfl (XR e) (by kernel_rfl)
theorem Zr(e:σ.cs=b++Ap b.length h us):CH (N "consts") (.obj 117 b.length) σ=.ok (.lst (b.length+2)) σ:=I9 rfl (XR e) (by kernel_rfl)
theorem cL(e:σ.cs=b++Ap b.length h us):CH (N "units") (.obj 117 b.length) σ=.ok (.lst (b.length+3)) σ:=I9 rfl (XR e) (by kernel_rfl)
theorem VF(e:σ.cs=b++Ap b.length h us):CH (N "handlers") (.obj 117 b.length) σ=.ok (.lst (b.length+4)) σ:=I9 rfl (XR e) (by kernel_rfl)
theorem WD(e:σ.cs=b++Ap b.length h us):CH (N "lines") (.obj 117 b.length) σ=.ok (.lst (b.length+5)) σ:=I9 rfl (XR e) (by kernel_rfl)
theorem Zs{i:Nat}{xs:List AV}(h:BL σ.cs i=some xs)(hl:xs.length≤big):En Au (.lst i) [v] σ=.ok (.d .none) {σ with cs:=σ.cs.set i (.lst (xs++[v]))}:=by
 show(ofO (BL σ.cs i) fun xs=>if xs.length≤big then Mine.Internal.R.ok (AV.d .none) {σ with cs:=σ.cs.set i (.lst (xs++[v]))} else .stuck)=_
 rw[h];exact if_pos hl
theorem WF(l:List D)(x:D):AK.lst (l.map AV.d++[AV.d x])=B9 (l++[x]):=by unfold B9;rw[List.map_append];rfl
theorem WG{j:Nat}{l:List D}{x:D}(e:σ.cs=b++Ap b.length h us)(hj:(Ap b.length h us)[j]? =some (B9 l))(hl:l.length≤big):En Au (.lst (b.length+j)) [.d x] σ=.ok (.d .none) {σ with cs:=b++(Ap b.length h us).set j (B9 (l++[x]))}:=by
 have:=Zs (σ:=σ) (i:=b.length+j) (xs:=l.map AV.d) (v:=.d x) (by unfold BL;rw[e,Lh,hj];rfl) (by rw[List.length_map];exact hl)
 rw[this,WF,e,S7]
theorem PE{j:Nat}{l:List D}(e:σ.cs=b++Ap b.length h us)(hj:(Ap b.length h us)[j]? =some (B9 l)):Fv σ.cs (.lst (b.length+j))=true:=by
 show(BL σ.cs (b.length+j)).isSome=true
 unfold BL;rw[e,Lh,hj];rfl
theorem Qi:∀l:List D,Fu (l.map AV.d)=some l
 |[]=>rfl
 |a::l=>by show(Fu _).map _=_;rw[Qi l];rfl
theorem Ih{n:Nat}{j:Nat}{l:List D}{ys:List AK}(hj:ys[j]? =some (B9 l)):JQ b.length (b++ys) (.lst (b.length+j))=some (.lst l):=by
 show(if b.length≤b.length+j then(match(b++ys)[b.length+j]? with|some (.lst xs)=>(Fu xs).map D.lst|_=>none) else none)=_
 rw[if_pos (Nat.le_add_right ..),Lh,hj]
 show(Fu _).map D.lst=_
 rw[Qi];rfl
theorem dG:Tl b.length (b++Ap b.length h us) (.obj 117 b.length)=some (.obj (h.flds us)):=by
 show(if(117:Nat)=117∧b.length≤b.length then(match(b++Ap b.length h us)[b.length]? with|some (.dict fs)=>(Hn b.length (b++Ap b.length h us) JI fs).map D.obj|_=>none) else none)=_
 rw[if_pos ⟨rfl,Nat.le_refl _⟩,show(b++Ap b.length h us)[b.length]? =some (Qh b.length h) from Lh 0]
 have h1:=Ih (n:=0) (b:=b) (ys:=Ap b.length h us) (j:=1) (l:=h.code.map Hl) rfl
 have h2:=Ih (n:=0) (b:=b) (ys:=Ap b.length h us) (j:=2) (l:=h.consts.map cD) rfl
 have h3:=Ih (n:=0) (b:=b) (ys:=Ap b.length h us) (j:=3) (l:=us) rfl
 have h4:=Ih (n:=0) (b:=b) (ys:=Ap b.length h us) (j:=4) (l:=h.handlers.map L9) rfl
 have h5:=Ih (n:=0) (b:=b) (ys:=Ap b.length h us) (j:=5) (l:=h.lines.map Aa) rfl
 have hL:∀(x:Str) ns (u:AV) r e es,JQ b.length (b++Ap b.length h us) u=some e→Hn b.length (b++Ap b.length h us) ns r=some es→Hn b.length (b++Ap b.length h us) (x::ns) ((x,u)::r)=some (e::es):=fun x ns u r e es q1 q2=>by
  unfold Hn;rw[if_pos rfl,q1,q2]
 show(Hn _ _ JI _).map D.obj=_
 have:Hn b.length (b++Ap b.length h us) JI [(N "name",.d (Ek h.name)),(N "params",.d (.lst (h.params.map .str))),(N "code",.lst (b.length+1)),(N "consts",.lst (b.length+2)),(N "units",.lst (b.length+3)),(N "handlers",.lst (b.length+4)),(N "lines",.lst (b.length+5)),
  (N "local_count",.d (Aa h.lc)),(N "cell_count",.d (Aa h.cc)),(N "captures",.d (.lst (h.caps.map Le))),(N "is_strict",.d (.bool h.strict)),(N "uses_arguments",.d (.bool h.args)),(N "self_slot",.d (Hm h.self)),(N "arguments_place",.d (Hm h.argp)),(N "param_places",.d (.lst (h.places.map Hm)))]=some (h.flds us):=
  hL _ _ _ _ _ _ rfl (hL _ _ _ _ _ _ rfl (hL _ _ _ _ _ _ h1 (hL _ _ _ _ _ _ h2 (hL _ _ _ _ _ _ h3 (hL _ _ _ _ _ _ h4 (hL _ _ _ _ _ _ h5 (hL _ _ _ _ _ _ rfl (hL _ _ _ _ _ _ rfl (hL _ _ _ _ _ _ rfl (hL _ _ _ _ _ _ rfl (hL _ _ _ _ _ _ rfl (hL _ _ _ _ _ _ rfl (hL _ _ _ _ _ _ rfl (hL _ _ _ _ _ _ rfl rfl))))))))))))))
 rw[this];rfl
end
section
variable {σ σ1 σ2:St} {cs:List AK} {f g o:St→R AV} {v w:AV} {G:R AF→Prop} {k:St→R AF} {d:D} {b:List AK} {h:Hd} {us:List D} {i a:Nat} {L:List (List Nat)}
theorem Ii{n:Nat}(l:List D):(B9 l).lo n=true:=by
 show(l.map AV.d).all (AV.lo n)=true
 rw[List.all_map]
 exact List.all_eq_true.mpr fun z0 z0=>rfl
theorem iS{n m:Nat}(hm:n+6≤m):(Qh n h).lo m=true:=by
 have q:∀j,j<6→(AV.lst (n+j)).lo m=true:=fun j hj=>decide_eq_true (Nat.lt_of_lt_of_le (Nat.add_lt_add_left hj n) hm)
 show(true&&(true&&((AV.lst (n+1)).lo m&&((AV.lst (n+2)).lo m&&((AV.lst (n+3)).lo m&&((AV.lst (n+4)).lo m&&((AV.lst (n+5)).lo m&&(true&&(true&&(true&&(true&&(true&&(true&&(true&&(true&&true)))))))))))))))=true
 rw[q 1 (by decide),q 2 (by decide),q 3 (by decide),q 4 (by decide),q 5 (by decide)]
 rfl
theorem Qj(hb:clo b.length b=true):clo (b++Ap b.length h us).length (b++Ap b.length h us)=true:=by
 rw[List.length_append]
 show clo (b.length+6) _=true
 unfold clo
 rw[List.all_append,Bool.and_eq_true]
 refine⟨Sp (Nat.le_add_right ..) hb,?_⟩
 show((Qh b.length h).lo (b.length+6)&&((B9 _).lo _&&((B9 _).lo _&&((B9 _).lo _&&((B9 _).lo _&&((B9 _).lo _&&true))))))=true
 rw[iS (Nat.le_refl _),Ii,Ii,Ii,Ii,Ii];rfl
theorem WH(X:CY b i L a):CY (b++Ap b.length h us) i L a:=⟨by rw[List.getElem?_append_left X.lt];exact X.at_,Qj X.clo,X.len,X.ok⟩
theorem Kq{ys:List AK}(X:CY b i L a)(c:AK):(b++ys).set i c=b.set i c++ys:=List.set_append_left _ _ X.lt
theorem Nz(X:CY b i L a):b.set i (Ci L a)=b:=by
 refine List.ext_getElem? fun j=>?_
 by_cases q:i=j
 ·subst q;rw[List.getElem?_set_self X.lt,X.at_]
 ·rw[List.getElem?_set_ne q]
noncomputable def CA(ws:List (List Nat)):List (List Nat):=if sL ";" ∈ws then ws.take (ws.idxOf (sL ";")) else ws
noncomputable def Dz(ws:List (List Nat))(n:Nat):Option ((Nat×Option Nat)×Nat):=match CA ws with
 |[p,q,r]=>if Br p=some n∧0≤Ch r∧Cg (Ch r).toNat=[] then(Br q).map fun l=>(((Ch r).toNat,none),l) else none
 |[p,q,r,s]=>if Br p=some n∧0≤Ch r∧Cg (Ch r).toNat≠[] then(match Br s,Br q with
  |some c,some l=>some (((Ch r).toNat,some c),l)
  |_,_=>none) else none
 |_=>none
theorem dH{p q:Bool}:C5 (.d (.bool p)) (.d (.bool q)) σ=.ok (.d (.bool (p==q))) σ:=by
 have:OP σ.cs (.d (.bool p)) (.d (.bool q))=some (p==q):=by
  show(if SeqAt.shaped (.bool p)&&SeqAt.shaped (.bool q) then some (PyData.eqv (.bool p) (.bool q)) else none)=_
  have:∀p,SeqAt.shaped (.bool p)=true:=fun p=>by unfold SeqAt.shaped;rw[PyData.depth,PyData.canLay0];rfl
  rw[this,this,PyData.eqv];rfl
 unfold C5;rw[this];rfl
theorem iU{ws:List (List Nat)}{w:List Nat}(h:w∈ws)(hl:ws.length≤big):NC NE (.d (.lst (ws.map .str))) [.d (.str w)] σ=.ok (.d (.int (ws.idxOf w))) σ:=by
 show(ofO (Di (ws.map D.str)) fun ls=>if ls.length≤big then(if w∈ls then R.ok (AV.d (.int (ls.idxOf w))) σ else .stuck) else .stuck)=_
 rw[show Di (ws.map D.str)=_ from Ev ws]
 show(if ws.length≤big then(if w∈ws then R.ok (AV.d (.int (ws.idxOf w))) σ else .stuck) else .stuck)=_
 rw[if_pos hl,if_pos h]
theorem S8{ws:List (List Nat)}(hw:∀w∈ws,Ft w)(hl:ws.length≤10001)(tw:σ.m (N "words")=some (.d (Fm ws))):
  CG (BQ (AG Ot (cF (.str (N ";").cps.toList)) (AB (N "words")))) (CD (AB (N "words")) none (some (AO PZ (NC NE) (AB (N "words")) (AD [cF (.str (N ";").cps.toList)])))) (AB (N "words")) σ=.ok (.d (Fm (CA ws))) σ:=by
 have hl':ws.length≤big:=Nat.le_trans hl (by decide)
 refine Lf (Ax (AE AJ (AH tw) (Zm (a:=sL ";") rfl (Ko hw)))) (fun e=>?_) fun e=>?_
 ·have e':=of_decide_eq_true e
  rw[show Fm (CA ws)=.lst ((ws.map .str).take (ws.idxOf (sL ";"))) by unfold CA;rw[if_pos e'];unfold Fm;rw[List.map_take]]
  exact(Nx (AH tw) (BG (AH tw) rfl (AA AJ AC) (iU e' hl')) (Int.natCast_nonneg _) (by rw[List.length_map];exact hl')).trans (by rw[Int.toNat_natCast])
 ·rw[show CA ws=ws from if_neg (of_decide_eq_false e)]
  exact AH tw
end
section
variable {σ σ1 σ2 τ:St} {cs:List AK} {f g o:St→R AV} {v w:AV} {G:R AF→Prop} {k:St→R AF} {d:D} {b:List AK} {h:Hd} {us:List D} {i a:Nat} {L:List (List Nat)}
theorem VG{n:Int}:Ot (.d (.int n)) (.d (.tup [.int 3,.int 4])) σ=.ok (.d (.bool (decide (3=n)||(decide (4=n)||false)))) σ:=by
 show(ofO (Pd σ.cs (.d (.int n)) [.int 3,.int 4]) fun r=>R.ok (AV.d (.bool r)) σ)=_
 have:Pd σ.cs (.d (.int n)) [.int 3,.int 4]=some (decide (3=n)||(decide (4=n)||false)):=by
  show(match OP σ.cs (.d (.int 3)) (.d (.int n)),(match OP σ.cs (.d (.int 4)) (.d (.int n)),some false with|some a,some b=>some (a||b)|_,_=>none) with|some a,some b=>some (a||b)|_,_=>none)=_
  rw[Iz,Iz]
 rw[this];rfl
theorem PF{w:List Nat}:∀(rs:List (List Nat×List Nat×Int×Int)) (i:Nat),IY w i rs<i+rs.length∧(IY w i rs=-1∨(i:Int)≤IY w i rs)
 |[],i=>⟨by show(-1:Int)<_;lia,.inl rfl⟩
 |r::rs,i=>by
  have ih:=PF (w:=w) rs (i+1)
  unfold IY
  rw[List.length_cons]
  split
  ·exact⟨by lia,.inr (Int.le_refl _)⟩
  ·exact⟨by lia,by lia⟩
theorem Qk{w:List Nat}(h:0≤Ch w):Aj (fun(n:Nat)=>Ch w=n) (fun(n:Nat)=>n<85):=by
 have:=(PF (w:=w) C1 0).1
 rw[Mt] at this
 exact⟨(Ch w).toNat,(Int.toNat_of_nonneg h).symm,by unfold Ch at h ⊢;lia⟩
theorem WI(X:CY σ.cs i L a)(ho:o σ=.ok (.obj 405 i) σ)(h:f σ=.exc σ)(hF:G (.exc σ)):Bd (AP (A0 (AO (isRd (N "need")) (Ad An) o (AD [f]))) k σ) G:=
 Bx (CR (Fe ho (X.isRd (by decide+kernel) (by decide+kernel)) (DF h))) hF
theorem Zt(h:f σ=.ok (.d (.bool true)) σ)(h2:g σ=.exc σ):FA (Eu .And) [f,g] σ=.exc σ:=(bind_ok h).trans ((bind_ok (a:=true) rfl).trans h2)
structure Rw(b:List AK)(h:Hd)(us:List D)(i:Nat)(ws:List (List Nat))(τ:St):Prop where
 c:τ.cs=b++Ap b.length h us
 s:τ.m (N "self")=some (.obj 405 i)
 m:τ.m (N "made")=some (.obj 117 b.length)
 w:τ.m (N "words")=some (.d (Fm ws))
theorem Rw.set{ws:List (List Nat)}{x:Str}(T:Rw b h us i ws τ)(h1:N "self" ≠x)(h2:N "made" ≠x)(h3:N "words" ≠x):Rw b h us i ws (τ.setM x v):=⟨T.c,AM h1 T.s,AM h2 T.m,AM h3 T.w⟩
theorem Rw.rd{ws:List (List Nat)}(T:Rw b h us i ws τ)(X:CY b i L a):CY τ.cs i L a:=by rw[T.c];exact WH X
theorem Rw.num{ws:List (List Nat)}{j:Nat}{p:List Nat}(T:Rw b h us i ws τ)(X:CY b i L a)(hw:∀w∈ws,Ft w)(hp:ws[j]? =some p)(hj:j≤10){jI:Int}(hjI:jI=j):
  AO (isRd (N "number")) (Ad AZ) (AB (N "self")) (AD [AG Af (AB (N "words")) (cF (.int jI))]) τ=Mf Aa (Br p) τ:=by
 subst hjI
 exact Fp (T.rd X) (AH T.s) (AA (AE (AH T.w) AJ (B8 (x:=.str p) (by rw[List.getElem?_map,hp];rfl) (by unfold big;lia))) AC) (I8 (T.rd X) (hw p (List.mem_of_getElem? hp)))
theorem Rw.len{ws:List (List Nat)}(T:Rw b h us i ws τ)(hl:ws.length≤10001):BK BA (AD [AB (N "words")]) τ=.ok (.d (.int ws.length)) τ:=
 Ao (AA (AH T.w) AC) ((CI (by rw[List.length_map];exact Nat.le_trans hl (by decide))).trans (by rw[List.length_map]))
theorem Zu{j:Nat}{xs:List AV}(h:BL σ.cs j=some xs)(hl:xs.length≤big):BA [.lst j] σ=.ok (.d (.int xs.length)) σ:=by
 show(ofO (BL σ.cs j) fun xs=>if xs.length≤big then R.ok (AV.d (.int xs.length)) σ else .stuck)=_
 rw[h];exact if_pos hl
theorem Rw.codes{ws:List (List Nat)}(T:Rw b h us i ws τ)(hl:h.code.length≤10000):BK BA (AD [AQ (N "code") (AB (N "made"))]) τ=.ok (.d (.int h.code.length)) τ:=
 Ao (AA (Ab (AH T.m) (VE T.c)) AC) ((Zu (xs:=(h.code.map Hl).map AV.d) (by unfold BL;rw[T.c,Lh];rfl) (by rw[List.length_map,List.length_map];exact Nat.le_trans hl (by decide))).trans (by rw[List.length_map,List.length_map]))
end
noncomputable def iV:St→R AV:=CG (BQ (AG C5 (BK BA (AD [AB (N "words")])) (cF (.int 4)))) (AO (isRd (N "number")) (Ad AZ) (AB (N "self")) (AD [AG Af (AB (N "words")) (cF (.int 3))])) (cF .none)
section
variable {σ σ1 σ2 τ:St} {cs:List AK} {f g o:St→R AV} {v w:AV} {G:R AF→Prop} {k:St→R AF} {d:D} {b:List AK} {h:Hd} {us:List D} {i a:Nat} {L:List (List Nat)}
noncomputable def J2(ws:List (List Nat))(q r:List Nat)(arg:Option (Option Nat)):Option ((Nat×Option Nat)×Nat):=
 if 0≤Ch r∧(decide ((ws.length:Int)=4)== !decide (Cg (Ch r).toNat=[]))=true then(match arg,Br q with
  |some c,some l=>some (((Ch r).toNat,c),l)
  |_,_=>none) else none
theorem WJ{ws:List (List Nat)}{q r:List Nat}{arg:Option (Option Nat)}(X:CY b i L a)(T:Rw b h us i ws τ)(hw:∀w∈ws,Ft w)(hl:ws.length≤10001)(hq:ws[1]? =some q)(hr:ws[2]? =some r)(hc:h.code.length≤10000)(hn:h.lines.length≤10000)
  (ha:∀τ,Rw b h us i ws τ→iV τ=Mf IX arg τ)
  (gx:∀τ h',τ.cs=b++Ap b.length h' us→J2 ws q r arg=none→G (.exc τ))
  (gk:∀τ c l,τ.cs=b++Ap b.length {h with code:=h.code++[c],lines:=h.lines++[l]} us→J2 ws q r arg=some (c,l)→G (.ok .next τ)):
  Bd (AP (Ag (AN Iv (AD [AG Af (AB (N "words")) (cF (.int 2))])) (Az (N "op")))
   (AP (A0 (AO (isRd (N "need")) (Ad An) (AB (N "self")) (AD [FA (Eu .And) [AG (CC fun a b=>decide (b≤a)) (AB (N "op")) (cF (.int 0)),AG C5 (AG C5 (BK BA (AD [AB (N "words")])) (cF (.int 4))) (AG Iq (AG Af (AG Af (cF (.lst ML)) (AB (N "op"))) (cF (.int 1))) (cF (.str (N "").cps.toList)))]])))
    (AP (A0 (AO Fv (En Au) (AQ (N "code") (AB (N "made"))) (AD [CU (AD [AB (N "op"),iV])])))
     (A0 (AO Fv (En Au) (AQ (N "lines") (AB (N "made"))) (AD [AO (isRd (N "number")) (Ad AZ) (AB (N "self")) (AD [AG Af (AB (N "words")) (cF (.int 1))])]))))) τ) G:=by
 have hrk:=hw r (List.mem_of_getElem? hr)
 refine Av (AS (AY (AA (AE (AH T.w) AJ (B8 (n:=2) (x:=.str r) (by rw[List.getElem?_map,hr];rfl) (by decide))) AC) (cJ hrk (T.rd X).clo)) Ae) ?_
 have T':Rw b h us i ws (τ.setM (N "op") (.d (.int (Ch r)))):=T.set (by decide+kernel) (by decide+kernel) (by decide+kernel)
 have to:(τ.setM (N "op") (.d (.int (Ch r)))).m (N "op")=some (.d (.int (Ch r))):=AI
 generalize τ.setM (N "op") (.d (.int (Ch r)))=τ at T' to
 clear T
 by_cases h0:0≤Ch r
 ·obtain⟨op,e,hop⟩:=Qk h0
  rw[e] at to
  refine Db (T'.rd X) (AH T'.s) (Es (b:=true) ((AE (AH to) AJ rfl).trans (congrArg (fun b=>R.ok (AV.d (.bool b)) τ) (decide_eq_true (Int.natCast_nonneg op)))) fun z0=>AE (AE (T'.len hl) AJ EO) (AE (AE (AE AJ (AH to) (Zk hop)) AJ (PA (n:=1) (x:=.str (Cg op)) rfl (by decide))) AJ (O7 (Kg hop).1.2 rfl)) dH) (fun qe=>?_) fun qe=>?_
  ·exact gx τ h T'.c (if_neg fun z=>by rw[e,Int.toNat_natCast] at z;rw[Bool.true_and] at qe;exact absurd (z.2.symm.trans qe) (by decide))
  ·have hre:J2 ws q r arg=_:=if_pos (by rw[e,Int.toNat_natCast];rw[Bool.true_and] at qe;exact⟨Int.natCast_nonneg op,qe⟩)
   rw[hre,e,Int.toNat_natCast] at gx gk
   have hA:=ha τ T'
   cases arg with
   |none=>exact Bx (CR (Fe (Ab (AH T'.m) (VE T'.c)) (PE T'.c rfl) (DF (V7 (Km (AH to) (DF hA)))))) (gx τ h T'.c rfl)
   |some c=>
    refine Av (C2 (BG (Ab (AH T'.m) (VE T'.c)) (PE T'.c rfl) (AA (BU (ds:=[Aa op,IX c]) (AA (AH to) (AA hA AC)) rfl) AC) (WG (l:=h.code.map Hl) T'.c rfl (by rw[List.length_map];exact Nat.le_trans hc (by decide))))) ?_
    have T2:Rw b {h with code:=h.code++[(op,c)]} us i ws {τ with cs:=b++(Ap b.length h us).set 1 (B9 (h.code.map Hl++[.tup [Aa op,IX c]]))}:=
     ⟨by show b++_=b++_;congr 1;show[_,B9 _,_,_,_,_]=[_,B9 _,_,_,_,_];rw[List.map_append];rfl,T'.s,T'.m,T'.w⟩
    generalize({τ with cs:=b++(Ap b.length h us).set 1 (B9 (h.code.map Hl++[.tup [Aa op,IX c]]))}:St)=τ2 at T2
    have eN:=T2.num X hw hq (by decide) (jI:=1) rfl
    cases hN:Br q with
    |none=>
     rw[hN] at eN gx
     exact Si (CR (Fe (Ab (AH T2.m) (WD T2.c)) (PE T2.c rfl) (DF eN))) (gx τ2 _ T2.c rfl)
    |some l=>
     rw[hN] at eN gk
     refine Si (C2 (BG (Ab (AH T2.m) (WD T2.c)) (PE T2.c rfl) (AA eN AC) (WG (l:=h.lines.map Aa) T2.c rfl (by rw[List.length_map];exact Nat.le_trans hn (by decide))))) (gk _ (op,c) l ?_ rfl)
     show b++[_,_,_,_,_,B9 (h.lines.map Aa++[Aa l])]=b++[_,_,_,_,_,B9 ((h.lines++[l]).map Aa)]
     rw[List.map_append (l₁:=h.lines)];rfl
 ·refine Db (T'.rd X) (AH T'.s) (Es (b:=false) (c:=true) ((AE (AH to) AJ rfl).trans (congrArg (fun b=>R.ok (AV.d (.bool b)) τ) (decide_eq_false h0))) fun e=>nomatch e) (fun z0=>gx τ h T'.c (if_neg fun z=>h0 z.1)) fun e=>nomatch e
end
section
variable {σ σ1 σ2 τ:St} {cs:List AK} {f g o:St→R AV} {v w:AV} {G:R AF→Prop} {k:St→R AF} {d:D} {b:List AK} {h:Hd} {us:List D} {i a:Nat} {L:List (List Nat)}
theorem Zv{F:Fn}{fz:Bool}{B:St→R AF}{bs:List AV}{cs:List AK}{σ0:St}(Q:RC→Prop)(hl:bs.length=F.names.length)(hs:Ct (BR F.s) F.names cs bs=σ0)(h:Bd (B σ0) (fun r=>Q (fin fz cs.length r))):Q (Ar F fz B bs cs):=by
 unfold Ar;rw[if_pos hl,hs];exact h.h
noncomputable def XS(b:List AK)(h:Hd)(us:List D)(i a:Nat)(L:List (List Nat))(q:Option ((Nat×Option Nat)×Nat))(r:RC):Prop:=match q with
 |some (c,l)=>r=.ok (.d .none) (b.set i (Ci L (a+1))++Ap b.length {h with code:=h.code++[c],lines:=h.lines++[l]} us)
 |none=>∃a' h',r=.exc (b.set i (Ci L a')++Ap b.length h' us)
theorem S9{ws:List (List Nat)}(hw:∀w∈ws,Ft w)(hl:ws.length≤10001):(∀w∈CA ws,Ft w)∧(CA ws).length≤10001:=by
 unfold CA
 split
 ·exact⟨fun w h=>hw w (List.mem_of_mem_take h),by rw[List.length_take];exact Nat.le_trans (Nat.min_le_right ..) hl⟩
 ·exact⟨hw,hl⟩
theorem Zw{b':List AK}{h':Hd}(hb:b'.length=b.length)(hc:clo b'.length b'=true)(e:σ.cs=b'++Ap b'.length h' us):fin true (b++Ap b.length h us).length (.exc σ:R AF)=.exc (b'++Ap b.length h' us):=by
 have:=fU (fz:=true) (σ:=σ) (n:=(b++Ap b.length h us).length) (by rw[e,List.length_append,List.length_append,hb];rfl) (by
  rw[e,List.length_append,←hb]
  have:=Qj (h:=h') (us:=us) hc
  rw[List.length_append] at this
  exact this)
 rw[this,e,hb]
theorem fX{b':List AK}{h':Hd}(hb:b'.length=b.length)(hc:clo b'.length b'=true)(e:σ.cs=b'++Ap b'.length h' us):fin true (b++Ap b.length h us).length (.ok .next σ)=.ok (.d .none) (b'++Ap b.length h' us):=by
 have:=Zo (σ:=σ) (n:=(b++Ap b.length h us).length) (by rw[e,List.length_append,List.length_append,hb];rfl) (by
  rw[e,List.length_append,←hb]
  have:=Qj (h:=h') (us:=us) hc
  rw[List.length_append] at this
  exact this)
 rw[this,e,hb]
theorem Rw.ends{ws:List (List Nat)}(T:Rw b h us i ws τ)(n:∀τ,Rw b h us i ws τ→Bd (k τ) G):Bd (k τ) G:=n τ T
theorem iW(X:CY b i L a)(hc:h.code.length≤10000)(hn:h.lines.length≤10000):XS b h us i a L ((BW L a).bind fun ws=>Dz ws h.code.length) (Bm [.obj 405 i,.obj 117 b.length] (b++Ap b.length h us)):=by
 unfold Bm GW
 refine Zv (XS b h us i a L _) (σ0:=((BJ (b++Ap b.length h us)).setM (N "self") (.obj 405 i)).setM (N "made") (.obj 117 b.length)) rfl (by kernel_rfl) ?_
 have v:(((BJ (b++Ap b.length h us)).setM (N "self") (.obj 405 i)).setM (N "made") (.obj 117 b.length)).m (N "self")=some (.obj 405 i):=AM (by decide+kernel) AI
 have X':=WH (h:=h) (us:=us) X
 have e1:=Fp (x:=N "words") (σ:=((BJ (b++Ap b.length h us)).setM (N "self") (.obj 405 i)).setM (N "made") (.obj 117 b.length)) X' (AH v) AC (Mw X')
 cases e:BW L a with
 |none=>
  rw[e] at e1
  exact Bx (EB e1) ⟨a,h,by rw[Nz X];exact Zw rfl X.clo rfl⟩
 |some ws=>
  obtain⟨h1,h2,h3,h4⟩:=Fo X e
  obtain⟨k2,k3⟩:=S9 h2 h3
  rw[e] at e1
  have X1:=X.move (a+1)
  have hb:(b.set i (Ci L (a+1))).length=b.length:=List.length_set ..
  have gx:∀τ h',τ.cs=b.set i (Ci L (a+1))++Ap (b.set i (Ci L (a+1))).length h' us→Dz ws h.code.length=none→XS b h us i a L ((some ws).bind fun ws=>Dz ws h.code.length) (fin true (b++Ap b.length h us).length (.exc τ)):=fun τ h' q1 q2=>by
   show XS b h us i a L (Dz ws h.code.length) _
   rw[q2]
   exact⟨a+1,h',Zw hb X1.clo q1⟩
  have gk:∀τ c l,τ.cs=b.set i (Ci L (a+1))++Ap (b.set i (Ci L (a+1))).length {h with code:=h.code++[c],lines:=h.lines++[l]} us→Dz ws h.code.length=some (c,l)→XS b h us i a L ((some ws).bind fun ws=>Dz ws h.code.length) (fin true (b++Ap b.length h us).length (.ok .next τ)):=fun τ c l q1 q2=>by
   show XS b h us i a L (Dz ws h.code.length) _
   rw[q2]
   exact fX hb X1.clo q1
  have vw:((((BJ (b++Ap b.length h us)).setM (N "self") (.obj 405 i)).setM (N "made") (.obj 117 b.length)).setM (N "words") (.d (Fm ws))).m (N "words")=some (.d (Fm ws)):=AI
  have vs:((((BJ (b++Ap b.length h us)).setM (N "self") (.obj 405 i)).setM (N "made") (.obj 117 b.length)).setM (N "words") (.d (Fm ws))).m (N "self")=some (.obj 405 i):=AM (by decide+kernel) v
  have vm:((((BJ (b++Ap b.length h us)).setM (N "self") (.obj 405 i)).setM (N "made") (.obj 117 b.length)).setM (N "words") (.d (Fm ws))).m (N "made")=some (.obj 117 b.length):=AM (by decide+kernel) AI
  refine Av (AS e1 Ae) (Av (AS (AE (Ab (AH (AM (by decide+kernel) v)) X'.at') AJ rfl) (JM (AH (AM (by decide+kernel) v)) (X'.put (b:=a+1)))) (Av (AS (S8 h2 h3 (by exact vw)) Ae) ?_))
  refine Rw.ends (b:=b.set i (Ci L (a+1))) (h:=h) (us:=us) (i:=i) (ws:=CA ws) ⟨by rw[hb];exact Kq X _,AM (by decide+kernel) (by exact vs),by rw[hb];exact AM (by decide+kernel) (by exact vm),AI⟩ fun τ T=>?_
  have hri:∀rs,CA ws=rs→Dz ws h.code.length=(match rs with
   |[p,q,r]=>if Br p=some h.code.length∧0≤Ch r∧Cg (Ch r).toNat=[] then(Br q).map fun l=>(((Ch r).toNat,none),l) else none
   |[p,q,r,s]=>if Br p=some h.code.length∧0≤Ch r∧Cg (Ch r).toNat≠[] then(match Br s,Br q with
    |some c,some l=>some (((Ch r).toNat,some c),l)
    |_,_=>none) else none
   |_=>none):=fun rs e=>by subst e;rfl
  generalize CA ws=rs at k2 k3 T hri
  have hri:=hri rs rfl
  have hbad:(decide ((3:Int)=rs.length)||(decide ((4:Int)=rs.length)||false))=false→Dz ws h.code.length=none:=fun q=>by
   rw[hri]
   split
   ·cases q
   ·cases q
   ·rfl
  by_cases h34:(decide ((3:Int)=rs.length)||(decide ((4:Int)=rs.length)||false))=true
  ·match rs,k2,k3,T,hri,h34 with
   |[p,q,r],k2,k3,T,hri,h34=>
    have h3':Dz ws h.code.length=if Br p=some h.code.length then J2 [p,q,r] q r (some none) else none:=by
     rw[hri]
     dsimp only
     unfold J2
     by_cases q1:Br p=some h.code.length
     ·by_cases q2:0≤Ch r
      ·by_cases q3:Cg (Ch r).toNat=[]
       ·rw[if_pos ⟨q1,q2,q3⟩,if_pos q1,if_pos ⟨q2,by rw[decide_eq_true q3];rfl⟩]
        cases Br q<;>rfl
       ·rw[if_neg fun z=>q3 z.2.2,if_pos q1,if_neg fun z=>absurd z.2 (by rw[decide_eq_false q3];exact Bool.false_ne_true)]
      ·rw[if_neg fun z=>q2 z.2.1,if_pos q1,if_neg fun z=>q2 z.1]
     ·rw[if_neg fun z=>q1 z.1,if_neg q1]
    have eN:=T.num X1 k2 (j:=0) (p:=p) rfl (by decide) (jI:=0) rfl
    have ei:AG Ot (BK BA (AD [AB (N "words")])) (CU (AD [cF (.int 3),cF (.int 4)])) τ=.ok (.d (.bool true)) τ:=AE (T.len k3) (BU (AA AJ (AA AJ AC)) rfl) VG
    cases hN:Br p with
    |none=>
     rw[hN] at eN h3'
     exact WI (T.rd X1) (AH T.s) (Zt ei (Ix eN)) (gx τ h T.c h3')
    |some m=>
     rw[hN] at eN h3'
     refine Db (T.rd X1) (AH T.s) (Es ei fun z0=>AE eN (T.codes hc) EO) (fun e=>gx τ h T.c (h3'.trans (if_neg fun z=>?_))) fun e=>?_
     ·rw[Bool.true_and] at e
      exact of_decide_eq_false e (congrArg Int.ofNat (Option.some.inj z))
     ·rw[Bool.true_and] at e
      have hm:m=h.code.length:=Int.ofNat_inj.mp (of_decide_eq_true e)
      rw[if_pos (congrArg some hm)] at h3'
      exact WJ X1 T k2 k3 rfl rfl hc hn (fun τ T=>BM (Ax (AE (T.len k3) AJ EO)) AJ) (fun τ h' c e=>gx τ h' c (h3'.trans e)) fun τ c l q e=>gk τ c l q (h3'.trans e)
   |[p,q,r,s],k2,k3,T,hri,h34=>
    have h3':Dz ws h.code.length=if Br p=some h.code.length then J2 [p,q,r,s] q r ((Br s).map some) else none:=by
     rw[hri]
     dsimp only
     unfold J2
     by_cases q1:Br p=some h.code.length
     ·by_cases q2:0≤Ch r
      ·by_cases q3:Cg (Ch r).toNat=[]
       ·rw[if_neg fun z=>z.2.2 q3,if_pos q1,if_neg fun z=>absurd z.2 (by rw[decide_eq_true q3];exact Bool.false_ne_true)]
       ·rw[if_pos ⟨q1,q2,q3⟩,if_pos q1,if_pos ⟨q2,by rw[decide_eq_false q3];rfl⟩]
        cases Br s<;>cases Br q<;>rfl
      ·rw[if_neg fun z=>q2 z.2.1,if_pos q1,if_neg fun z=>q2 z.1]
     ·rw[if_neg fun z=>q1 z.1,if_neg q1]
    have eN:=T.num X1 k2 (j:=0) (p:=p) rfl (by decide) (jI:=0) rfl
    have ei:AG Ot (BK BA (AD [AB (N "words")])) (CU (AD [cF (.int 3),cF (.int 4)])) τ=.ok (.d (.bool true)) τ:=AE (T.len k3) (BU (AA AJ (AA AJ AC)) rfl) VG
    cases hN:Br p with
    |none=>
     rw[hN] at eN h3'
     exact WI (T.rd X1) (AH T.s) (Zt ei (Ix eN)) (gx τ h T.c h3')
    |some m=>
     rw[hN] at eN h3'
     refine Db (T.rd X1) (AH T.s) (Es ei fun z0=>AE eN (T.codes hc) EO) (fun e=>gx τ h T.c (h3'.trans (if_neg fun z=>?_))) fun e=>?_
     ·rw[Bool.true_and] at e
      exact of_decide_eq_false e (congrArg Int.ofNat (Option.some.inj z))
     ·rw[Bool.true_and] at e
      have hm:m=h.code.length:=Int.ofNat_inj.mp (of_decide_eq_true e)
      rw[if_pos (congrArg some hm)] at h3'
      exact WJ X1 T k2 k3 rfl rfl hc hn (fun τ T=>BV (Ax (AE (T.len k3) AJ EO)) ((T.num X1 k2 (j:=3) (p:=s) rfl (by decide) (jI:=3) rfl).trans (by cases Br s<;>rfl))) (fun τ h' c e=>gx τ h' c (h3'.trans e)) fun τ c l q e=>gk τ c l q (h3'.trans e)
   |[],_,_,_,_,h34=>exact absurd h34 (by decide)
   |[_],_,_,_,_,h34=>exact absurd h34 Bool.false_ne_true
   |[_,_],_,_,_,_,h34=>exact absurd h34 Bool.false_ne_true
   |_::_::_::_::_::ws,_,_,_,_,h34=>
    simp only[List.length_cons,Bool.or_false,Bool.or_eq_true,decide_eq_true_eq] at h34
    lia
  ·refine Db (T.rd X1) (AH T.s) (Es (c:=true) (AE (T.len k3) (BU (AA AJ (AA AJ AC)) rfl) VG) fun q=>absurd q h34) (fun z0=>gx τ h T.c (hbad (by simpa using h34))) fun q=>absurd (Bool.and_eq_true_iff.mp q).1 h34
end
noncomputable def Ql(ws:List (List Nat)):Bool:=decide ((ws.length:Int)>0)&&decide (ws.drop 1∈[[],[sL "strict"],[sL "arguments"],[sL "strict",sL "arguments"]])
noncomputable def J3:List (List Nat)→Option (Option (List Nat))
 |w::_=>if w=sL "none" then some none else(Be w).map some
 |[]=>none
noncomputable def Mg{α:Type}(q:List Nat→Option α):List (List Nat)→Option (α×α)
 |[x,y]=>match q x with
  |some u=>(q y).map fun v=>(u,v)
  |none=>none
 |_=>none
noncomputable def iX(q:Option (List (List Nat)))(σ:St)(i:Nat)(L:List (List Nat))(a:Nat):R AV:=match q with
 |some xs=>.ok (.d (Fm xs)) {σ with cs:=σ.cs.set i (Ci L (a+1))}
 |none=>.exc σ
section
variable {σ σ1 σ2 τ:St} {cs:List AK} {f g o:St→R AV} {v w:AV} {G:R AF→Prop} {k:St→R AF} {d:D} {b:List AK} {h:Hd} {us:List D} {i a:Nat} {L:List (List Nat)}
theorem Mx{w:List Nat}(X:CY σ.cs i L a)(ho:o σ=.ok (.obj 405 i) σ)(hw:Gb w=true:=by rfl):AO (isRd (N "rest")) (Ad Ah) o (AD [cF (.str w)]) σ=iX (A8 L a w) σ i L a:=by
 refine(Fl X ho (AA AJ AC) (fW X hw)).trans ?_
 cases A8 L a w<;>rfl
set_option tactic.hygienic true in
theorem Kr(X:CY cs i L a){w:List Nat}{ws:List (List Nat)}(e:A8 L a w=some ws):(∀w∈ws,Ft w)∧ws.length≤10000∧a<10000:=by
 unfold A8 at e
 split at e
 ·rename_i x xs q
  obtain⟨h1,h2,h3,h4⟩:=Fo X q
  split at e
  ·cases e
   exact⟨fun w hw=>h2 w (.tail _ hw),by rw[List.length_cons] at h3;lia,h4⟩
  ·cases e
 ·cases e
theorem TE{ws:List (List Nat)}(hw:ws.all Gb=true):∀{bs:List (List (List Nat))},(∀b∈bs,b.all Gb=true)→Pd cs (.d (Fm ws)) (bs.map Fm)=some (decide (ws∈bs))
 |[],_=>rfl
 |b::bs,hb=>by
  show(match OP cs (.d (Fm b)) (.d (Fm ws)),Pd cs (.d (Fm ws)) (bs.map Fm) with|some a,some b=>some (a||b)|_,_=>none)=_
  rw[show OP cs (.d (Fm b)) (.d (Fm ws))=_ from Sy (hb b (.head _)) hw,TE hw fun c hc=>hb c (.tail _ hc)]
  show some (decide (b=ws)||decide (ws∈bs))=_
  rw[←Bool.decide_or]
  exact congrArg some (decide_eq_decide.mpr (by rw[List.mem_cons,eq_comm]))
theorem fY{ws:List (List Nat)}{bs:List (List (List Nat))}(hw:ws.all Gb=true)(hb:∀b∈bs,b.all Gb=true):Ot (.d (Fm ws)) (.d (.tup (bs.map Fm))) σ=.ok (.d (.bool (decide (ws∈bs)))) σ:=by
 show(ofO (Pd σ.cs (.d (Fm ws)) (bs.map Fm)) fun r=>R.ok (AV.d (.bool r)) σ)=_
 rw[TE hw hb];rfl
theorem WK{l:List (List Nat)}(hf:f σ=.ok (.d (Fm l)) σ)(hl:l.length≤10000):CD f (some (cF (.int 1))) none σ=.ok (.d (Fm (l.drop 1))) σ:=
 (Nw (l:=l.map .str) hf AJ (by decide) (by rw[List.length_map];exact Nat.le_trans hl (by decide))).trans (by unfold Fm;rw[List.map_drop];rfl)
end
noncomputable def Cf(L:List (List Nat))(a:Nat):Option Hd:=match A8 L a (sL "unit") with
 |none=>none
 |some w1=>if Ql w1=false then none else match J3 w1 with
  |none=>none
  |some nm=>match(A8 L (a+1) (sL "params")).bind (Df Be) with
   |none=>none
   |some ps=>match(A8 L (a+2) (sL "places")).bind (Df By) with
    |none=>none
    |some pl=>match(A8 L (a+3) (sL "own")).bind (Mg By) with
     |none=>none
     |some ow=>match(A8 L (a+4) (sL "room")).bind (Mg Br) with
      |none=>none
      |some ro=>match(A8 L (a+5) (sL "captures")).bind (Df Er) with
       |none=>none
       |some ca=>some ⟨nm,ps,[],[],[],[],ro.1,ro.2,ca,decide (sL "strict" ∈w1.drop 1),decide (sL "arguments" ∈w1.drop 1),ow.1,ow.2,pl⟩
noncomputable def Zx(b:List AK)(i a:Nat)(L:List (List Nat))(q:Option Hd)(r:RC):Prop:=match q with
 |some h=>r=.ok (.obj 117 b.length) (b.set i (Ci L (a+6))++Ap b.length h [])
 |none=>∃a',r=.exc (b.set i (Ci L a'))
section
variable {σ σ1 σ2 τ:St} {cs:List AK} {f g o:St→R AV} {v w:AV} {G:R AF→Prop} {k:St→R AF} {d:D} {b:List AK} {h:Hd} {us:List D} {i a:Nat} {L:List (List Nat)}
theorem Zy{a':Nat}{ys:List AK}(X:CY b i L a)(e:σ.cs=b.set i (Ci L a')++ys):fin false b.length (.exc σ:R AF)=.exc (b.set i (Ci L a')):=by
 have:σ.cs.take b.length=b.set i (Ci L a'):=by rw[e,List.take_append_of_le_length (by rw[List.length_set];exact Nat.le_refl _),List.take_of_length_le (by rw[List.length_set];exact Nat.le_refl _)]
 unfold fin
 simp only[this,Kk (i:=i) X.clo (Nu (L:=L) (a:=a')),if_true]
theorem set_set{p q:Nat}:(b.set i (Ci L p)).set i (Ci L q)=b.set i (Ci L q):=List.set_set ..
structure Hb(b:List AK)(i a:Nat)(L:List (List Nat))(ws:List (List Nat))(τ:St):Prop where
 c:τ.cs=b.set i (Ci L a)
 s:τ.b (N "self")=some (.obj 405 i)
 w:τ.m (N "words")=some (.d (Fm ws))
theorem Hb.rd{a0:Nat}{ws:List (List Nat)}(T:Hb b i a L ws τ)(X:CY b i L a0):CY τ.cs i L a:=by rw[T.c];exact X.move a
theorem Hb.name{a0:Nat}{ws:List (List Nat)}(T:Hb b i a L ws τ)(X:CY b i L a0)(hw:∀w∈ws,Ft w)(hp:ws≠[]):
  CG (BQ (AG C5 (AG Af (AB (N "words")) (cF (.int 0))) (cF (.str (N "none").cps.toList)))) (cF .none) (AO (isRd (N "text")) (Ad Bp) (Aq (N "self")) (AD [AG Af (AB (N "words")) (cF (.int 0))])) τ=Mf Ek (J3 ws) τ:=by
 cases ws with
 |nil=>exact absurd rfl hp
 |cons x xs=>
  have hx:=hw x (.head _)
  have e0:AG Af (AB (N "words")) (cF (.int 0)) τ=.ok (.d (.str x)) τ:=AE (AH T.w) AJ (B8 (n:=0) rfl (by decide))
  by_cases q:x=sL "none"
  ·rw[show J3 (x::xs)=some none from if_pos q]
   exact BV (Ax (AE e0 AJ (El hx.ok rfl (decide_eq_true q)))) AJ
  ·rw[show J3 (x::xs)=(Be x).map some from if_neg q]
   refine BM (Ax (AE e0 AJ (El hx.ok rfl (decide_eq_false q)))) ((Fp (x:=N "text") (T.rd X) (Fx T.s) (AA e0 AC) (U9 (T.rd X) hx)).trans ?_)
   cases Be x<;>rfl
end
section
variable {σ σ1 σ2 τ:St} {cs:List AK} {f g o:St→R AV} {v w:AV} {G:R AF→Prop} {k:St→R AF} {d:D} {b:List AK} {h:Hd} {us:List D} {i a:Nat} {L:List (List Nat)}
theorem Ij{κ:Type}{e:κ→D}{q:List Nat→Option κ}{r:AU}{x:Str}{w:List Nat}(X:CY σ.cs i L a)(ts:σ.b (N "self")=some (.obj 405 i))(hq:∀cs,CY cs i L (a+1)→∀y,Ft y→r [.obj 405 i,.d (.str y)] cs=Su e (q y) cs)
  (hw:Gb w=true:=by rfl)(h1:x≠N "lines":=by decide+kernel)(h2:x≠N "at":=by decide+kernel):
  ∃a',Bg (A7 (AO (isRd (N "rest")) (Ad Ah) (Aq (N "self")) (AD [cF (.str w)]))) (Az (N "word")) (AO (isRd x) (Ad r) (Aq (N "self")) (AD [AB (N "word")])) σ=
   (match(A8 L a w).bind (Df q) with|some ys=>.ok (.d (.lst (ys.map e))) {σ with cs:=σ.cs.set i (Ci L (a+1))}|none=>.exc {σ with cs:=σ.cs.set i (Ci L a')}):=by
 have e1:=Mx (w:=w) X (Fx ts) hw
 cases er:A8 L a w with
 |none=>
  rw[er] at e1
  refine⟨a,?_⟩
  show Bg _ _ _ σ=.exc {σ with cs:=σ.cs.set i (Ci L a)}
  rw[Nz X]
  exact bind_exc (bind_exc (bind_exc e1))
 |some ws=>
  rw[er] at e1
  obtain⟨k1,k2,k3⟩:=Kr X er
  have X1:=X.move (a+1)
  refine⟨a+1,(Sx (σ1:={σ with cs:=σ.cs.set i (Ci L (a+1))}) D.str e q (BN e1 rfl) (Nat.le_trans k2 (by decide)) fun y hy σ' q1 q2=>⟨_,_,Ae,Fp (x:=x) (q:=q y) (by show CY σ'.cs i L (a+1);rw[q1];exact X1) (Fx (by show σ'.b _=_;rw[q2];exact ts)) (AA (AH AI) AC) (hq _ (by show CY σ'.cs i L (a+1);rw[q1];exact X1) y (k1 y hy)) h1 h2,q1,q2⟩).trans ?_⟩
  show Mf _ (Df q ws) _=(match Df q ws with|some ys=>_|none=>_)
  cases Df q ws<;>rfl
end
section
variable {σ σ1 σ2 τ:St} {cs:List AK} {f g o:St→R AV} {v w:AV} {G:R AF→Prop} {k:St→R AF} {d:D} {b:List AK} {h h':Hd} {us us':List D} {i a:Nat} {L:List (List Nat)}
noncomputable def AK.fs:AK→List (Str×AV)
 |.dict fs=>fs
 |.lst _=>[]
theorem iY{x:Str}(e:σ.cs=b++Ap b.length h us)(hs:∀n,(Ap n h us).set 0 (.dict (EZ x v (Qh n h).fs))=Ap n h' us'):UE x v (.obj 117 b.length) σ=.ok () {σ with cs:=b++Ap b.length h' us'}:=by
 refine(J1 (fs:=(Qh b.length h).fs) rfl (XR e) (Nat.le_of_ble_eq_true rfl)).trans ?_
 have:σ.cs.set b.length (.dict (EZ x v (Qh b.length h).fs))=b++Ap b.length h' us':=by rw[e,←hs b.length];exact S7 0
 rw[this]
theorem Zz{x:Bool}:∀n,(Ap n h us).set 0 (.dict (EZ (N "is_strict") (.d (.bool x)) (Qh n h).fs))=Ap n (h.wstrict x) us:=fun n=>by kernel_rfl
theorem fZ{x:Bool}:∀n,(Ap n h us).set 0 (.dict (EZ (N "uses_arguments") (.d (.bool x)) (Qh n h).fs))=Ap n (h.wargs x) us:=fun n=>by kernel_rfl
theorem Z0{x:List Pl}:∀n,(Ap n h us).set 0 (.dict (EZ (N "param_places") (.d (.lst (x.map Hm))) (Qh n h).fs))=Ap n (h.wplaces x) us:=fun n=>by kernel_rfl
theorem fc{x:Pl}:∀n,(Ap n h us).set 0 (.dict (EZ (N "self_slot") (.d (Hm x)) (Qh n h).fs))=Ap n (h.wself x) us:=fun n=>by kernel_rfl
theorem ff{x:Pl}:∀n,(Ap n h us).set 0 (.dict (EZ (N "arguments_place") (.d (Hm x)) (Qh n h).fs))=Ap n (h.wargp x) us:=fun n=>by kernel_rfl
theorem jn{x:Nat}:∀n,(Ap n h us).set 0 (.dict (EZ (N "local_count") (.d (Aa x)) (Qh n h).fs))=Ap n (h.wlc x) us:=fun n=>by kernel_rfl
theorem jo{x:Nat}:∀n,(Ap n h us).set 0 (.dict (EZ (N "cell_count") (.d (Aa x)) (Qh n h).fs))=Ap n (h.wcc x) us:=fun n=>by kernel_rfl
theorem fg{x:List (Bool×Nat)}:∀n,(Ap n h us).set 0 (.dict (EZ (N "captures") (.d (.lst (x.map Le))) (Qh n h).fs))=Ap n (h.wcaps x) us:=fun n=>by kernel_rfl
structure Hu(b:List AK)(i a:Nat)(L:List (List Nat))(h:Hd)(us:List D)(τ:St):Prop where
 c:τ.cs=b.set i (Ci L a)++Ap b.length h us
 s:τ.b (N "self")=some (.obj 405 i)
 m:τ.m (N "made")=some (.obj 117 b.length)
theorem Hu.c'(T:Hu b i a L h us τ):τ.cs=b.set i (Ci L a)++Ap (b.set i (Ci L a)).length h us:=by rw[List.length_set];exact T.c
theorem Hu.rd{a0:Nat}(T:Hu b i a L h us τ)(X:CY b i L a0):CY τ.cs i L a:=by rw[T.c'];exact WH (X.move a)
theorem Hu.put{x:Str}(T:Hu b i a L h us τ)(hs:∀n,(Ap n h us).set 0 (.dict (EZ x v (Qh n h).fs))=Ap n h' us):EU (fun τ'=>EE x (AB (N "made")) v τ=.ok () τ') (fun τ'=>Hu b i a L h' us τ') (fun τ'=>τ'.m=τ.m):=by
 have:=iY (b:=b.set i (Ci L a)) T.c' hs
 rw[List.length_set] at this
 exact⟨_,JM (AH T.m) this,⟨rfl,T.s,T.m⟩,rfl⟩
theorem Hu.move{c a0:Nat}{ys:List AK}(T:Hu b i a L h us τ)(X:CY b i L a0):Hu b i c L h us {τ with cs:=τ.cs.set i (Ci L c)}:=
 ⟨by show τ.cs.set i _=_;rw[T.c,Kq (X.move a),set_set],T.s,T.m⟩
end
section
variable {σ σ1 σ2 τ:St} {cs:List AK} {f g o:St→R AV} {v w:AV} {G:R AF→Prop} {k:St→R AF} {d:D} {b:List AK} {h h':Hd} {us us':List D} {i a:Nat} {L:List (List Nat)}
theorem Hb.ends{ws:List (List Nat)}(T:Hb b i a L ws τ)(n:∀τ,Hb b i a L ws τ→Bd (k τ) G):Bd (k τ) G:=n τ T
theorem Hu.ends(T:Hu b i a L h us τ)(n:∀τ,Hu b i a L h us τ→Bd (k τ) G):Bd (k τ) G:=n τ T
theorem Hu.ends2{ws:List (List Nat)}(T:Hu b i a L h us τ)(hw:τ.m (N "words")=some (.d (Fm ws)))(n:∀τ,Hu b i a L h us τ→τ.m (N "words")=some (.d (Fm ws))→Bd (k τ) G):Bd (k τ) G:=n τ T hw
theorem Ks{fa:St→R (List AV)}{ts:List (AV→St→R Unit)}{vs:List AV}(h:fa σ=.ok vs σ1)(h2:Dj ts vs σ1=.ok () σ2)(h3:vs.length=ts.length:=by rfl)(h4:Nat.ble vs.length big=true:=by rfl):F9 fa ts σ=.ok .next σ2:=
 (bind_ok h).trans ((if_pos ⟨h3,Nat.le_of_ble_eq_true h4⟩).trans (bind_ok h2))
theorem Qm{t1 t2:AV→St→R Unit}(e1:t1 v σ=.ok () σ1)(e2:t2 w σ1=.ok () σ2):Dj [t1,t2] [v,w] σ=.ok () σ2:=(bind_ok e1).trans ((bind_ok e2).trans rfl)
theorem dI{κ:Type}{e:κ→D}{q:List Nat→Option κ}{r:AU}{x n1 n2:Str}{w:List Nat}{F1:κ→Hd}{F2:κ→κ→Hd}(T:Hu b i a L h us τ){a0:Nat}(X:CY b i L a0)(hq:∀cs,CY cs i L (a+1)→∀y,Ft y→r [.obj 405 i,.d (.str y)] cs=Su e (q y) cs)
  (p1:∀u n,(Ap n h us).set 0 (.dict (EZ n1 (.d (e u)) (Qh n h).fs))=Ap n (F1 u) us)(p2:∀u v n,(Ap n (F1 u) us).set 0 (.dict (EZ n2 (.d (e v)) (Qh n (F1 u)).fs))=Ap n (F2 u v) us)
  (gx:∀τ a',τ.cs=b.set i (Ci L a')++Ap b.length h us→(A8 L a w).bind (Mg q)=none→G (.exc τ))(gk:∀u v,(A8 L a w).bind (Mg q)=some (u,v)→∀τ,Hu b i (a+1) L (F2 u v) us τ→Bd (k τ) G)
  (hw:Gb w=true:=by rfl)(h1:x≠N "lines":=by decide+kernel)(h2:x≠N "at":=by decide+kernel):
  Bd (AP (Ag (AO (isRd (N "rest")) (Ad Ah) (Aq (N "self")) (AD [cF (.str w)])) (Az (N "words")))
   (AP (A0 (AO (isRd (N "need")) (Ad An) (Aq (N "self")) (AD [AG C5 (BK BA (AD [AB (N "words")])) (cF (.int 2))])))
    (AP (F9 (AD [AO (isRd x) (Ad r) (Aq (N "self")) (AD [AG Af (AB (N "words")) (cF (.int 0))]),AO (isRd x) (Ad r) (Aq (N "self")) (AD [AG Af (AB (N "words")) (cF (.int 1))])]) [EE n1 (AB (N "made")),EE n2 (AB (N "made"))]) k)) τ) G:=by
 have e1:=Mx (w:=w) (T.rd X) (Fx T.s) hw
 cases er:A8 L a w with
 |none=>
  rw[er] at e1 gx
  exact Bx (EB e1) (gx τ a T.c rfl)
 |some ws=>
  rw[er] at e1 gx gk
  obtain⟨k1,k2,k3⟩:=Kr (T.rd X) er
  have T1:=T.move (c:=a+1) X (ys:=[])
  refine Av (AS e1 Ae) (Hu.ends2 (b:=b) (i:=i) (a:=a+1) (L:=L) (h:=h) (us:=us) (ws:=ws) ⟨T1.c,T1.s,AM (by decide+kernel) T1.m⟩ AI fun τ T tw=>?_)
  have hl:BK BA (AD [AB (N "words")]) τ=.ok (.d (.int ws.length)) τ:=Ao (AA (AH tw) AC) ((CI (by rw[List.length_map];exact Nat.le_trans k2 (by decide))).trans (by rw[List.length_map]))
  refine Db (T.rd X) (Fx T.s) (AE hl AJ EO) (fun z=>gx τ (a+1) T.c ?_) fun z=>?_
  ·show Mg q ws=none
   unfold Mg
   split
   ·exact absurd rfl (of_decide_eq_false z)
   ·rfl
  ·match ws,k1,tw,gx,gk,z with
   |[y1,y2],k1,tw,gx,gk,z=>
    have m1:=Fp (x:=x) (r:=r) (q:=q y1) (T.rd X) (Fx T.s) (AA (AE (AH tw) AJ (B8 (n:=0) (x:=.str y1) rfl (by decide))) AC) (hq _ (T.rd X) y1 (k1 y1 (by simp))) h1 h2
    have m2:=Fp (x:=x) (r:=r) (q:=q y2) (T.rd X) (Fx T.s) (AA (AE (AH tw) AJ (B8 (n:=1) (x:=.str y2) rfl (by decide))) AC) (hq _ (T.rd X) y2 (k1 y2 (by simp))) h1 h2
    have ht:(some [y1,y2]).bind (Mg q)=(match q y1 with|some u=>(q y2).map fun v=>(u,v)|none=>none):=rfl
    rw[ht] at gx gk
    cases q1:q y1 with
    |none=>
     rw[q1] at m1 gx
     exact Bx (bind_exc (DF m1)) (gx τ (a+1) T.c rfl)
    |some u=>
     rw[q1] at m1 gx gk
     cases q2:q y2 with
     |none=>
      rw[q2] at m2 gx
      exact Bx (bind_exc (Km m1 (DF m2))) (gx τ (a+1) T.c rfl)
     |some v=>
      rw[q2] at m2 gk
      obtain⟨τ3,p3,T3,_⟩:=T.put (p1 u)
      obtain⟨τ4,p4,T4,_⟩:=T3.put (p2 u v)
      exact Av (Ks (AA m1 (AA m2 AC)) (Qm p3 p4)) (gk u v rfl τ4 T4)
   |[],_,_,_,_,z=>exact absurd z Bool.false_ne_true
   |[_],_,_,_,_,z=>exact absurd z Bool.false_ne_true
   |_::_::_::_,_,_,_,_,z=>
    have:=of_decide_eq_true z
    simp only[List.length_cons] at this
    lia
theorem fj(X:CY b i L a):Zx b i a L (Cf L a) (C7 [.obj 405 i] b):=by
 unfold C7 FZ
 refine Zv (Zx b i a L _) (σ0:=(BJ b).setB (N "self") (.obj 405 i)) rfl (by kernel_rfl) ?_
 have hx:∀τ a' ys,τ.cs=b.set i (Ci L a')++ys→Cf L a=none→Zx b i a L (Cf L a) (fin false b.length (.exc τ)):=fun τ a' ys e q=>by rw[q];exact⟨a',Zy X e⟩
 have ts:((BJ b).setB (N "self") (.obj 405 i)).b (N "self")=some (.obj 405 i):=b_hit
 have e1:=Mx (w:=sL "unit") (σ:=(BJ b).setB (N "self") (.obj 405 i)) X (Fx ts)
 have hI:Cf L a=Cf L a:=rfl
 conv at hI=>rhs;unfold Cf
 cases er1:A8 L a (sL "unit") with
 |none=>
  rw[er1] at e1 hI
  exact Bx (EB e1) (hx _ a [] (by rw[Nz X,List.append_nil];rfl) hI)
 |some w1=>
  rw[er1] at e1 hI
  obtain⟨k1,k2,k3⟩:=Kr X er1
  refine Av (AS e1 Ae) (Hb.ends (b:=b) (i:=i) (a:=a+1) (L:=L) (ws:=w1) ⟨rfl,by exact ts,AI⟩ fun τ T=>?_)
  have X1:=T.rd X
  have hd1:(∀w∈w1.drop 1,Ft w):=fun w hw=>k1 w (List.mem_of_mem_drop hw)
  have es:CD (AB (N "words")) (some (cF (.int 1))) none τ=.ok (.d (Fm (w1.drop 1))) τ:=WK (AH T.w) k2
  refine Db (b:=Ql w1) X1 (Fx T.s) (Es (AE (Ao (AA (AH T.w) AC) ((CI (by rw[List.length_map];exact Nat.le_trans k2 (by decide))).trans (by rw[List.length_map]))) AJ rfl) fun z0=>AE es (BU (ds:=[[],[sL "strict"],[sL "arguments"],[sL "strict",sL "arguments"]].map Fm) (AA (Bq AC rfl) (AA (Bq (AA AJ AC) rfl) (AA (Bq (AA AJ AC) rfl) (AA (Bq (AA AJ (AA AJ AC)) rfl) AC)))) rfl) (fY (Ko hd1) (by decide+kernel))) (fun e=>?_) fun e=>?_
  ·exact hx τ (a+1) [] (by rw[List.append_nil];exact T.c) (hI.trans (if_pos e))
  ·have hI2:=hI.trans (if_neg (by rw[e];decide))
   have hne:w1≠[]:=fun z=>by subst z;exact absurd e (by decide)
   have e3:=T.name X k1 hne
   cases en:J3 w1 with
   |none=>
    rw[en] at e3 hI2
    exact Bx (EB e3) (hx τ (a+1) [] (by rw[List.append_nil];exact T.c) hI2)
   |some nm=>
    rw[en] at e3 hI2
    refine Av (AS e3 Ae) ?_
    have tn:(τ.setM (N "name") (.d (Ek nm))).m (N "name")=some (.d (Ek nm)):=AI
    have X2:CY (τ.setM (N "name") (.d (Ek nm))).cs i L (a+1):=X1
    obtain⟨a',ep⟩:=Ij (x:=N "text") (w:=sL "params") (σ:=τ.setM (N "name") (.d (Ek nm))) X2 T.s (fun cs Y y hy=>U9 Y hy)
    cases ePs:(A8 L (a+1) (sL "params")).bind (Df Be) with
    |none=>
     rw[ePs] at ep hI2
     refine Bx (EB (Sh (Km (AH tn) (DF ep)))) (hx _ a' [] ?_ hI2)
     show τ.cs.set i _=_
     rw[T.c,set_set,List.append_nil]
    |some ps=>
     rw[ePs] at ep hI2
     have hlen:(τ.cs.set i (Ci L (a+1+1))).length=b.length:=by rw[List.length_set,T.c,List.length_set]
     refine Av (AS (DQ (AA (AH tn) (AA ep AC)) Zq) Ae) (Hu.ends2 (b:=b) (i:=i) (a:=a+2) (L:=L) (h:=K6 nm ps) (us:=[]) (ws:=w1) ⟨?_,by exact T.s,AI.trans (by show some (AV.obj 117 (τ.cs.set i (Ci L (a+1+1))).length)=_;rw[hlen])⟩ (AM (by decide+kernel) (show(τ.setM (N "name") (.d (Ek nm))).m (N "words")=_ from AM (by decide+kernel) T.w)) fun τ2 T2 tw2=>?_)
     ·show(τ.cs.set i (Ci L (a+1+1)))++Ap (τ.cs.set i (Ci L (a+1+1))).length (K6 nm ps) []=_
      rw[T.c,set_set,List.length_set]
     ·have es2:CD (AB (N "words")) (some (cF (.int 1))) none τ2=.ok (.d (Fm (w1.drop 1))) τ2:=WK (AH tw2) k2
      obtain⟨τ3,p3,T3,_⟩:=T2.put (Zz (x:=decide (sL "strict" ∈w1.drop 1)))
      obtain⟨τ4,p4,T4,_⟩:=T3.put (fZ (x:=decide (sL "arguments" ∈w1.drop 1)))
      refine Av (Ks (AA (AE AJ es2 (Zm (a:=sL "strict") rfl (Ko hd1))) (AA (AE AJ es2 (Zm (a:=sL "arguments") rfl (Ko hd1))) AC)) (Qm p3 p4)) (T4.ends fun τ5 T5=>?_)
      obtain⟨a6,e6⟩:=Ij (x:=N "place") (w:=sL "places") (T5.rd X) T5.s (fun cs Y y hy=>V6 Y hy)
      cases ePl:(A8 L (a+2) (sL "places")).bind (Df By) with
      |none=>
       rw[ePl] at e6 hI2
       exact Bx (EB e6) (hx _ a6 _ (T5.move (c:=a6) X (ys:=[])).c hI2)
      |some pl=>
       rw[ePl] at e6 hI2
       obtain⟨τ7,p7,T7,_⟩:=(T5.move (c:=a+3) X (ys:=[])).put (Z0 (x:=pl))
       refine Av (AS e6 p7) (T7.ends fun τ8 T8=>?_)
       refine dI (q:=By) (e:=Hm) (w:=sL "own") (x:=N "place") T8 X (fun cs Y y hy=>V6 Y hy) (fun u=>fc (x:=u)) (fun u v=>ff (x:=v)) (fun τ a' hc hN=>?_) fun u v hS τ9 T9=>?_
       ·rw[hN] at hI2
        exact hx τ a' _ hc hI2
       ·rw[hS] at hI2
        refine dI (q:=Br) (e:=Aa) (w:=sL "room") (x:=N "number") T9 X (fun cs Y y hy=>I8 Y hy) (fun u=>jn (x:=u)) (fun u v=>jo (x:=v)) (fun τ a' hc hN=>?_) fun u' v' hS' τ10 T10=>?_
        ·rw[hN] at hI2
         exact hx τ a' _ hc hI2
        ·rw[hS'] at hI2
         obtain⟨a11,e11⟩:=Ij (x:=N "capture") (w:=sL "captures") (T10.rd X) T10.s (fun cs Y y hy=>XO Y hy)
         cases eCa:(A8 L (a+5) (sL "captures")).bind (Df Er) with
         |none=>
          rw[eCa] at hI2
          rw[show(A8 L (a+2+1+1+1) (sL "captures")).bind (Df Er)=none from eCa] at e11
          exact Bx (EB e11) (hx _ a11 _ (T10.move (c:=a11) X (ys:=[])).c hI2)
         |some ca=>
          rw[eCa] at hI2
          rw[show(A8 L (a+2+1+1+1) (sL "captures")).bind (Df Er)=some ca from eCa] at e11
          obtain⟨τ12,p12,T12,_⟩:=(T10.move (c:=a+6) X (ys:=[])).put (fg (x:=ca))
          refine Av (AS e11 p12) (BY (AH T12.m) ?_)
          rw[hI2]
          show RC.ok _ τ12.cs=_
          rw[T12.c]
          rfl
end
noncomputable def many{α:Type}(L:List (List Nat))(test:List Nat→Bool)(step:Nat→Nat→Option (α×Nat)):Nat→Nat→Nat→Option (List α×Nat)
 |0,_,_=>none
 |n+1,a,c=>match BW L a with
  |some (w::_)=>if test w then(match step a c with
   |some (x,a')=>(match many L test step n a' (c+1) with
    |some (xs,e)=>some (x::xs,e)
    |none=>none)
   |none=>none) else some ([],a)
  |_=>none
noncomputable def GK(L:List (List Nat))(a _c:Nat):Option ((List Nat ⊕ Nat)×Nat):=((A8 L a (sL "const")).bind DG).map fun x=>(x,a+1)
noncomputable def ME(L:List (List Nat))(a _c:Nat):Option ((Nat×Nat×Nat×Nat×Bool)×Nat):=((A8 L a (sL "handler")).bind Ie).map fun x=>(x,a+1)
noncomputable def JN(L:List (List Nat))(a c:Nat):Option (((Nat×Option Nat)×Nat)×Nat):=((BW L a).bind fun ws=>Dz ws c).map fun x=>(x,a+1)
noncomputable def PG(s:List Nat)(w:List Nat):Bool:=decide (w=s)
noncomputable def Kt(w:List Nat):Bool:=decide (0≤AX w)
noncomputable def J4(L:List (List Nat)):Nat→Nat→Option (U×Nat)
 |0,_=>none
 |k+1,a=>match Cf L a with
  |none=>none
  |some h=>match many L (PG (sL "const")) (GK L) (L.length+1) (a+6) 0 with
   |none=>none
   |some (cs,a1)=>match many L (PG (sL "handler")) (ME L) (L.length+1) a1 0 with
    |none=>none
    |some (hs,a2)=>match many L Kt (JN L) (L.length+1) a2 0 with
     |none=>none
     |some (rs,a3)=>match many L (PG (sL "unit")) (fun a z0=>J4 L k a) (L.length+1) a3 0 with
      |none=>none
      |some (us,a4)=>match GJ L a4 with
       |some _=>some (.mk {h with consts:=cs,handlers:=hs,code:=rs.map (·.1),lines:=rs.map (·.2)} us,a4+1)
       |none=>none
section
variable {σ σ1 σ2 τ:St} {cs:List AK} {f g o:St→R AV} {v w:AV} {G:R AF→Prop} {k:St→R AF} {d:D} {b:List AK} {h h':Hd} {us us':List D} {i a:Nat} {L:List (List Nat)}
noncomputable def fq(o:Option (List (List Nat)))(τ:St):R AV:=match o with
 |some (w::_)=>.ok (.d (.str w)) τ
 |_=>.exc τ
theorem TF(X:CY τ.cs i L a)(ts:τ.m (N "self")=some (.obj 405 i)):AG Af (AO (isRd (N "words")) (Ad Am) (AB (N "self")) (AD [])) (cF (.int 0)) τ=fq (BW L a) τ:=by
 have e1:=Fp (x:=N "words") X (AH ts) AC (Mw X)
 cases e:BW L a with
 |none=>rw[e] at e1;exact Ix e1
 |some ws=>
  rw[e] at e1
  obtain⟨h1,_⟩:=Fo X e
  cases ws with
  |nil=>exact absurd rfl h1
  |cons y ys=>exact AE e1 AJ (B8 (n:=0) rfl (by decide))
noncomputable def Z1(t:List Nat→Bool)(o:Option (List (List Nat)))(τ:St):R Bool:=match o with
 |some (w::_)=>.ok (t w) τ
 |_=>.exc τ
theorem Qn{s:List Nat}(X:CY τ.cs i L a)(ts:τ.m (N "self")=some (.obj 405 i))(hs:Gb s=true):
  BQ (AG C5 (AG Af (AO (isRd (N "words")) (Ad Am) (AB (N "self")) (AD [])) (cF (.int 0))) (cF (.str s))) τ=Z1 (PG s) (BW L a) τ:=by
 have e1:=TF X ts
 cases e:BW L a with
 |none=>rw[e] at e1;exact ZY (Ix e1)
 |some ws=>
  rw[e] at e1
  obtain⟨h1,h2,_⟩:=Fo X e
  cases ws with
  |nil=>exact absurd rfl h1
  |cons y ys=>exact Ax (AE e1 AJ (L7 (h2 y (.head _)).ok hs))
theorem Z2(X:CY τ.cs i L a)(ts:τ.m (N "self")=some (.obj 405 i)):
  BQ (AG (CC fun a b=>decide (b≤a)) (AN BB (AD [AG Af (AO (isRd (N "words")) (Ad Am) (AB (N "self")) (AD [])) (cF (.int 0))])) (cF (.int 0))) τ=Z1 Kt (BW L a) τ:=by
 have e1:=TF X ts
 cases e:BW L a with
 |none=>rw[e] at e1;exact ZY (Ix (Sh (DF e1)))
 |some ws=>
  rw[e] at e1
  obtain⟨h1,h2,_⟩:=Fo X e
  cases ws with
  |nil=>exact absurd rfl h1
  |cons y ys=>exact Ax (AE (AY (AA e1 AC) (Fg (h2 y (.head _)) X.clo)) AJ rfl)
end
section
variable {σ σ1 σ2 τ:St} {cs:List AK} {f g o:St→R AV} {v w:AV} {G:R AF→Prop} {k:St→R AF} {d:D} {b:List AK} {h h':Hd} {us us':List D} {i a:Nat} {L:List (List Nat)}
structure Ru(b:List AK)(i a:Nat)(L:List (List Nat))(F:Hd×List D)(τ:St):Prop where
 c:τ.cs=b.set i (Ci L a)++Ap b.length F.1 F.2
 s:τ.m (N "self")=some (.obj 405 i)
 m:τ.m (N "made")=some (.obj 117 b.length)
theorem Qo{α:Type}{t:St→R Bool}{B:St→R AF}{test:List Nat→Bool}{step:Nat→Nat→Option (α×Nat)}{a0:Nat}(F:List α→Hd×List D)(hL:L.length<100000)
  (htest:∀τ a acc,Ru b i a L (F acc) τ→t τ=Z1 test (BW L a) τ)
  (hstep:∀τ a acc,Ru b i a L (F acc) τ→(Gc (fun w ws=>BW L a=some (w::ws)) (fun w ws=>test w=true))→acc.length<L.length→a0≤a→match step a acc.length with
   |some (x,a')=>a<a'∧Aj (fun τ'=>B τ=.ok .next τ') (fun τ'=>Ru b i a' L (F (acc++[x])) τ')
   |none=>WW (fun τ' a' ys=>B τ=.exc τ') (fun τ' a' ys=>τ'.cs=b.set i (Ci L a')++ys))
  (gx:∀τ a' ys,τ.cs=b.set i (Ci L a')++ys→many L test step (L.length+1) a0 0=none→G (.exc τ))
  (gk:∀xs a' τ,many L test step (L.length+1) a0 0=some (xs,a')→a0≤a'→Ru b i a' L (F xs) τ→Bd (k τ) G)
  (T:Ru b i a0 L (F []) τ):Bd (AP (CV t B big) k τ) G:=by
 refine QQ (fun n σ=>dQ (fun a acc m=>Ru b i a L (F acc) σ) (fun a acc m=>n=L.length-a) (fun a acc m=>n<m) (fun a acc m=>acc.length≤a) (fun a acc m=>a0≤a) (fun a acc m=>many L test step (L.length+1) a0 0=(match many L test step m a acc.length with|some (xs,e)=>some (acc++xs,e)|none=>none))) (n:=L.length-a0) (Nat.lt_of_le_of_lt (Nat.sub_le ..) (Nat.lt_trans hL (by decide)))
  ⟨a0,[],L.length+1,T,rfl,Nat.lt_succ_of_le (Nat.sub_le ..),Nat.zero_le _,Nat.le_refl _,by cases many L test step (L.length+1) a0 ([]:List α).length<;>rfl⟩ ?_
 rintro n σ ⟨a,acc,m,T,hn,hm,ha,h0,he⟩
 obtain⟨m,rfl⟩:∃m',m=m'+1:=⟨m-1,(Nat.succ_pred_eq_of_pos (Nat.zero_lt_of_lt hm)).symm⟩
 have et:=htest σ a acc T
 cases e:BW L a with
 |none=>
  rw[e] at et
  refine .inr (.inl ⟨σ,et,gx σ a _ T.c (he.trans ?_)⟩)
  unfold many;rw[e]
 |some ws=>
  cases ws with
  |nil=>
   rw[e] at et
   refine .inr (.inl ⟨σ,et,gx σ a _ T.c (he.trans ?_)⟩)
   unfold many;rw[e]
  |cons w ws=>
   rw[e] at et
   cases ht:test w with
   |false=>
    have hm1:many L test step (m+1) a acc.length=some ([],a):=by
     unfold many;rw[e];show(if test w=true then _ else _)=_;rw[ht];rfl
    rw[hm1] at he
    refine .inl ⟨σ,et.trans (by show R.ok (test w) σ=_;rw[ht]),gk acc a σ (he.trans (by show some (acc++[],a)=_;rw[List.append_nil])) h0 T⟩
   |true=>
    have hm1:many L test step (m+1) a acc.length=(match step a acc.length with
     |some (x,a')=>(match many L test step m a' (acc.length+1) with|some (xs,e)=>some (x::xs,e)|none=>none)
     |none=>none):=by
     conv=>lhs;unfold many
     rw[e];show(if test w=true then _ else _)=_;rw[ht];rfl
    rw[hm1] at he
    refine .inr (.inr ⟨σ,et.trans (by show R.ok (test w) σ=_;rw[ht]),?_⟩)
    have hal:a<L.length:=by
     unfold BW at e
     obtain⟨l,hl,_⟩:=Option.map_eq_some_iff.mp e
     exact(List.getElem?_eq_some_iff.mp hl).1
    have hs:=hstep σ a acc T ⟨w,ws,e,ht⟩ (Nat.lt_of_le_of_lt ha hal) h0
    cases q:step a acc.length with
    |none=>
     rw[q] at hs he
     obtain⟨τ',a',ys,e1,e2⟩:=hs
     exact .inr (.inr ⟨τ',e1,gx τ' a' ys e2 he⟩)
    |some p=>
     obtain⟨x,a'⟩:=p
     rw[q] at hs he
     obtain⟨hlt,τ',e1,T'⟩:=hs
     have h1:L.length-a'<n:=hn▸Nat.sub_lt_sub_left hal hlt
     refine .inl ⟨τ',L.length-a',e1,h1,a',acc++[x],m,T',rfl,Nat.lt_of_lt_of_le h1 (Nat.le_of_lt_succ hm),by rw[List.length_append];exact Nat.le_trans (Nat.succ_le_succ ha) hlt,Nat.le_trans h0 (Nat.le_of_lt hlt),he.trans ?_⟩
     rw[List.length_append]
     show(match(match many L test step m a' (acc.length+1) with|some (xs,e)=>some (x::xs,e)|none=>none) with|some (xs,e)=>some (acc++xs,e)|none=>none)=_
     show _=(match many L test step m a' (acc.length+1) with|some (xs,e)=>some (acc++[x]++xs,e)|none=>none)
     cases many L test step m a' (acc.length+1) with
     |none=>rfl
     |some r=>obtain⟨xs,e⟩:=r;show some (acc++x::xs,e)=some (acc++[x]++xs,e);rw[List.append_assoc];rfl
end
section
variable {σ σ1 σ2 τ:St} {cs:List AK} {f g o:St→R AV} {v w:AV} {G:R AF→Prop} {k:St→R AF} {d:D} {b:List AK} {h:Hd} {us:List D} {i a:Nat} {L:List (List Nat)} {F:Hd×List D}
theorem Ru.c'(T:Ru b i a L F τ):τ.cs=b.set i (Ci L a)++Ap (b.set i (Ci L a)).length F.1 F.2:=by rw[List.length_set];exact T.c
theorem Ru.rd{a0:Nat}(T:Ru b i a L F τ)(X:CY b i L a0):CY τ.cs i L a:=by rw[T.c'];exact WH (X.move a)
theorem Ru.move{c a0:Nat}(T:Ru b i a L F τ)(X:CY b i L a0):Ru b i c L F {τ with cs:=τ.cs.set i (Ci L c)}:=
 ⟨by show τ.cs.set i _=_;rw[T.c,Kq (X.move a),set_set],T.s,T.m⟩
theorem TG{κ:Type}{e:κ→D}{q:List (List Nat)→Option κ}{r:AU}{x fld:Str}{w:List Nat}{j a0:Nat}{l:List D}{F':κ→Hd×List D}(T:Ru b i a L F τ)(X:CY b i L a0)
  (hr:∀cs,CY cs i L (a+1)→∀ws,(∀w∈ws,Ft w)→ws.length≤10000→r [.obj 405 i,.d (Fm ws)] cs=Su e (q ws) cs)
  (hf:∀{σ:St} {b:List AK},σ.cs=b++Ap b.length F.1 F.2→CH fld (.obj 117 b.length) σ=.ok (.lst (b.length+j)) σ)(hj:∀n,(Ap n F.1 F.2)[j]? =some (B9 l))(hl:l.length≤big)
  (hs:∀y n,(Ap n F.1 F.2).set j (B9 (l++[e y]))=Ap n (F' y).1 (F' y).2)(hw:Gb w=true:=by rfl)(h1:x≠N "lines":=by decide+kernel)(h2:x≠N "at":=by decide+kernel):
  match(A8 L a w).bind q with
  |some y=>Aj (fun τ'=>A0 (AO Fv (En Au) (AQ fld (AB (N "made"))) (AD [AO (isRd x) (Ad r) (AB (N "self")) (AD [AO (isRd (N "rest")) (Ad Ah) (AB (N "self")) (AD [cF (.str w)])])])) τ=.ok .next τ') (fun τ'=>Ru b i (a+1) L (F' y) τ')
  |none=>WW (fun τ' a' ys=>A0 (AO Fv (En Au) (AQ fld (AB (N "made"))) (AD [AO (isRd x) (Ad r) (AB (N "self")) (AD [AO (isRd (N "rest")) (Ad Ah) (AB (N "self")) (AD [cF (.str w)])])])) τ=.exc τ') (fun τ' a' ys=>τ'.cs=b.set i (Ci L a')++ys):=by
 have hb:(b.set i (Ci L a)).length=b.length:=List.length_set ..
 have ea:AQ fld (AB (N "made")) τ=.ok (.lst (b.length+j)) τ:=by
  have:=hf T.c'
  rw[hb] at this
  exact Ab (AH T.m) this
 have eL:Fv τ.cs (.lst (b.length+j))=true:=by
  have:=PE T.c' (hj _)
  rw[hb] at this
  exact this
 have e1:=Mx (w:=w) (T.rd X) (AH T.s) hw
 cases er:A8 L a w with
 |none=>
  rw[er] at e1
  exact⟨τ,a,_,CR (Fe ea eL (DF (Fe (AH T.s) ((T.rd X).isRd h1 h2) (DF e1)))),T.c⟩
 |some ws=>
  rw[er] at e1
  obtain⟨k1,k2,k3⟩:=Kr (T.rd X) er
  have T1:=T.move (c:=a+1) X
  have X1:=T1.rd X
  have e2:AO (isRd x) (Ad r) (AB (N "self")) (AD [AO (isRd (N "rest")) (Ad Ah) (AB (N "self")) (AD [cF (.str w)])]) τ=Mf e (q ws) {τ with cs:=τ.cs.set i (Ci L (a+1))}:=
   (BG (AH T.s) ((T.rd X).isRd h1 h2) (AA e1 AC) (show(r [.obj 405 i,.d (Fm ws)] _).on _=_ by rw[hr _ X1 ws k1 k2])).trans VB
  show match q ws with|some y=>_|none=>_
  cases hq:q ws with
  |none=>
   rw[hq] at e2
   exact⟨_,a+1,_,CR (Fe ea eL (DF e2)),T1.c⟩
  |some y=>
   rw[hq] at e2
   have:=WG (x:=e y) T1.c' (hj _) hl
   rw[List.length_set] at this
   refine⟨_,C2 (BG ea eL (AA e2 AC) this),?_,T1.s,T1.m⟩
   show b.set i (Ci L (a+1))++_=_
   rw[hs y]
end
noncomputable def Aw(l:List Nat):Bool:=(Ai l).head? ==some (sL "unit")
noncomputable def cnt(L:List (List Nat))(a:Nat):Nat:=(L.drop a).countP Aw
noncomputable def TH(b:List AK)(i:Nat)(L:List (List Nat))(q:Option (U×Nat))(r:RC):Prop:=match q with
 |some (u,e)=>r=.ok (.d u.D) (b.set i (Ci L e))
 |none=>∃a',r=.exc (b.set i (Ci L a'))
section
variable {σ σ1 σ2 τ:St} {cs:List AK} {f g o:St→R AV} {v w:AV} {G:R AF→Prop} {k:St→R AF} {d:D} {b:List AK} {h:Hd} {us:List D} {i a:Nat} {L:List (List Nat)} {F:Hd×List D}
theorem N0(e:Cf L a=some h):h.code=[]∧h.consts=[]∧h.handlers=[]∧h.lines=[]∧∃ws,A8 L a (sL "unit")=some ws:=by
 unfold Cf at e
 repeat' split at e
 all_goals first|cases e;exact⟨rfl,rfl,rfl,rfl,_,by assumption⟩|cases e
theorem fu{a':Nat}{ys:List AK}(X:CY b i L a)(e:σ.cs=b.set i (Ci L a')++ys):fin true b.length (.exc σ:R AF)=.exc (b.set i (Ci L a')):=Zy X e
theorem iZ(X:CY b i L a){e:Nat}(hc:σ.cs=b.set i (Ci L e)++Ap b.length h us):fin true b.length (.ok (.ret (.obj 117 b.length)) σ)=.ok (.d (.obj (h.flds us))) (b.set i (Ci L e)):=by
 have hb:(b.set i (Ci L e)).length=b.length:=List.length_set ..
 have h1:Tl b.length σ.cs (.obj 117 b.length)=some (.obj (h.flds us)):=by
  have:=dG (b:=b.set i (Ci L e)) (h:=h) (us:=us)
  rw[hb] at this
  rw[hc];exact this
 have h2:σ.cs.take b.length=b.set i (Ci L e):=by rw[hc,←hb,List.take_left]
 unfold fin
 simp only[LF,h1,h2,Kk (i:=i) X.clo (Nu (L:=L) (a:=e)),if_true]
end
section
variable {σ σ1 σ2 τ:St} {cs:List AK} {f g o:St→R AV} {v w:AV} {G:R AF→Prop} {k:St→R AF} {d:D} {b:List AK} {h:Hd} {us:List D} {i a:Nat} {L:List (List Nat)} {F:Hd×List D}
theorem N1{c e:Nat}(l:c≤e):cnt L e≤cnt L c:=by
 unfold cnt
 obtain⟨k,rfl⟩:=Nat.exists_eq_add_of_le l
 rw[←List.drop_drop]
 exact(List.drop_sublist _ _).countP_le
theorem PH{w:List Nat}{ws:List (List Nat)}(e:BW L a=some (w::ws))(hw:w=sL "unit"):cnt L a=cnt L (a+1)+1:=by
 unfold BW at e
 obtain⟨l,hl,e⟩:=Option.map_eq_some_iff.mp e
 obtain⟨hlt,q⟩:=List.getElem?_eq_some_iff.mp hl
 unfold cnt
 rw[List.drop_eq_getElem_cons hlt,List.countP_cons,if_pos]
 unfold Aw
 rw[q,e,hw]
 exact beq_self_eq_true _
set_option tactic.hygienic true in
theorem Ik{w:List Nat}{ws:List (List Nat)}(e:A8 L a w=some ws):BW L a=some (w::ws):=by
 unfold A8 at e
 split at e
 ·rename_i x xs q
  split at e
  ·rename_i r;cases e;rw[q,r]
  ·cases e
 ·cases e
theorem TI(e:Cf L a=some h):cnt L a=cnt L (a+1)+1:=by
 obtain⟨_,_,_,_,ws,q⟩:=N0 e
 exact PH (Ik q) rfl
set_option tactic.hygienic true in
theorem Ku{α:Type}{t:List Nat→Bool}{s:Nat→Nat→Option (α×Nat)}(hs:∀a c x e,s a c=some (x,e)→a≤e):∀(n a c:Nat) (xs:List α) (e:Nat),many L t s n a c=some (xs,e)→a≤e
 |0,_,_,_,_,q=>by cases q
 |n+1,a,c,xs,e,q=>by
  unfold many at q
  split at q
  ·split at q
   ·split at q
    ·rename_i x a' e1
     split at q
     ·rename_i e2
      cases q
      exact Nat.le_trans (hs _ _ _ _ e1) (Ku hs n _ _ _ _ e2)
     ·cases q
    ·cases q
   ·cases q;exact Nat.le_refl _
  ·cases q
theorem J5{a c:Nat}{x}{e:Nat}(q:GK L a c=some (x,e)):e=a+1:=by
 obtain⟨y,_,r⟩:=Option.map_eq_some_iff.mp q;cases r;rfl
theorem N2{a c:Nat}{x}{e:Nat}(q:ME L a c=some (x,e)):e=a+1:=by
 obtain⟨y,_,r⟩:=Option.map_eq_some_iff.mp q;cases r;rfl
theorem N3{a c:Nat}{x}{e:Nat}(q:JN L a c=some (x,e)):e=a+1:=by
 obtain⟨y,_,r⟩:=Option.map_eq_some_iff.mp q;cases r;rfl
set_option tactic.hygienic true in
theorem Qp:∀(n:Nat) {a:Nat} {u:U} {e:Nat},J4 L n a=some (u,e)→a<e
 |0,_,_,_,q=>by cases q
 |n+1,a,u,e,q=>by
  unfold J4 at q
  repeat' split at q
  all_goals try cases q
  rename_i h1 _ _ _ h2 _ _ _ h3 _ _ _ h4 _ _ _ h5 _ _ _
  have k1:=Ku (fun a c x e q=>Nat.le_of_lt (by rw[J5 q];exact Nat.lt_succ_self _)) _ _ _ _ _ h2
  have k2:=Ku (fun a c x e q=>Nat.le_of_lt (by rw[N2 q];exact Nat.lt_succ_self _)) _ _ _ _ _ h3
  have k3:=Ku (fun a c x e q=>Nat.le_of_lt (by rw[N3 q];exact Nat.lt_succ_self _)) _ _ _ _ _ h4
  have k4:=Ku (fun a c x e q=>Nat.le_of_lt (Qp n q)) _ _ _ _ _ h5
  lia
theorem Z3{a0:Nat}(T:Ru b i a L (h,us) τ)(X:CY b i L a0)(hc:h.code.length≤10000)(hn:h.lines.length≤10000):
  match JN L a h.code.length with
  |some (x,a')=>a<a'∧Aj (fun τ'=>A0 (AO (isRd (N "row")) (Ad Bm) (AB (N "self")) (AD [AB (N "made")])) τ=.ok .next τ') (fun τ'=>Ru b i a' L ({h with code:=h.code++[x.1],lines:=h.lines++[x.2]},us) τ')
  |none=>WW (fun τ' a' ys=>A0 (AO (isRd (N "row")) (Ad Bm) (AB (N "self")) (AD [AB (N "made")])) τ=.exc τ') (fun τ' a' ys=>τ'.cs=b.set i (Ci L a')++ys):=by
 have q:=iW (h:=h) (us:=us) (X.move a) hc hn
 rw[List.length_set] at q
 have ev:∀r,Bm [.obj 405 i,.obj 117 b.length] τ.cs=r→AO (isRd (N "row")) (Ad Bm) (AB (N "self")) (AD [AB (N "made")]) τ=r.on τ:=fun r e=>Fl (T.rd X) (AH T.s) (AA (AH T.m) AC) e
 rw[T.c] at ev
 unfold JN
 cases e:(BW L a).bind fun ws=>Dz ws h.code.length with
 |none=>
  rw[e] at q
  obtain⟨a',h',q⟩:=q
  rw[List.length_set] at q
  rw[set_set] at q
  exact⟨_,a',_,CR (ev _ q),rfl⟩
 |some p=>
  rw[e] at q
  obtain⟨c,l⟩:=p
  have q:_=RC.ok _ ((b.set i (Ci L a)).set i _++Ap (b.set i (Ci L a)).length _ _):=q
  rw[List.length_set] at q
  rw[set_set] at q
  exact⟨Nat.lt_succ_self _,_,C2 (ev _ q),rfl,T.s,T.m⟩
end
section
variable {σ σ1 σ2 τ:St} {cs:List AK} {f g o:St→R AV} {v w:AV} {G:R AF→Prop} {k:St→R AF} {d:D} {b:List AK} {h:Hd} {us:List D} {i a:Nat} {L:List (List Nat)} {F:Hd×List D}
theorem Ru.ends(T:Ru b i a L F τ)(n:∀τ,Ru b i a L F τ→Bd (k τ) G):Bd (k τ) G:=n τ T
theorem XT{n a0:Nat}{acc:List U}{h:Hd}(T:Ru b i a L (h,Us.D acc) τ)(X:CY b i L a0)(hs:CY τ.cs i L a→TH τ.cs i L (J4 L n a) (BE n [.obj 405 i] τ.cs))(hl:acc.length≤big):
  match J4 L n a with
  |some (x,a')=>a<a'∧Aj (fun τ'=>A0 (AO Fv (En Au) (AQ (N "units") (AB (N "made"))) (AD [AO (isRd (N "unit")) (Ad (BE n)) (AB (N "self")) (AD [])])) τ=.ok .next τ') (fun τ'=>Ru b i a' L (h,Us.D (acc++[x])) τ')
  |none=>WW (fun τ' a' ys=>A0 (AO Fv (En Au) (AQ (N "units") (AB (N "made"))) (AD [AO (isRd (N "unit")) (Ad (BE n)) (AB (N "self")) (AD [])])) τ=.exc τ') (fun τ' a' ys=>τ'.cs=b.set i (Ci L a')++ys):=by
 have hb:(b.set i (Ci L a)).length=b.length:=List.length_set ..
 have ea:AQ (N "units") (AB (N "made")) τ=.ok (.lst (b.length+3)) τ:=by
  have:=cL T.c'
  rw[hb] at this
  exact Ab (AH T.m) this
 have eL:Fv τ.cs (.lst (b.length+3))=true:=by
  have:=PE (j:=3) T.c' rfl
  rw[hb] at this
  exact this
 have X1:=T.rd X
 have q:=hs X1
 have ev:∀r,BE n [.obj 405 i] τ.cs=r→AO (isRd (N "unit")) (Ad (BE n)) (AB (N "self")) (AD []) τ=r.on τ:=fun r e=>Fl (x:=N "unit") X1 (AH T.s) AC e
 have hset:∀e,τ.cs.set i (Ci L e)=b.set i (Ci L e)++Ap b.length h (Us.D acc):=fun e=>by rw[T.c,Kq (X.move a),set_set]
 cases e:J4 L n a with
 |none=>
  rw[e] at q
  obtain⟨a',q⟩:=q
  rw[hset] at q
  exact⟨_,a',_,CR (Fe ea eL (DF (ev _ q))),rfl⟩
 |some p=>
  obtain⟨u,a'⟩:=p
  rw[e] at q
  have q:_=RC.ok _ (τ.cs.set i _):=q
  rw[hset] at q
  have T1:=T.move (c:=a') X
  have:=WG (j:=3) (x:=u.D) (l:=Us.D acc) T1.c' rfl (by rw[MC];exact hl)
  rw[List.length_set] at this
  rw[hset] at this
  refine⟨Qp n e,_,C2 (BG ea eL (AA (ev _ q) AC) this),?_,T.s,T.m⟩
  show b.set i (Ci L a')++[_,_,_,B9 (Us.D acc++[u.D]),_,_]=_
  rw[show Us.D (acc++[u])=Us.D acc++[u.D] by rw[MD,MD,List.map_append];rfl];rfl
theorem Z4:∀(n:Nat) {b:List AK} {a:Nat},CY b i L a→1≤n→cnt L a≤n→TH b i L (J4 L n a) (BE n [.obj 405 i] b)
 |0,_,_,_,h,_=>absurd h (Nat.not_succ_le_zero _)
 |n+1,b,a,X,_,hn=>by
  show TH b i L _ (Ar Du true (Dv (BE n)) [.obj 405 i] b)
  unfold Dv
  refine Zv (TH b i L _) (σ0:=(BJ b).setM (N "self") (.obj 405 i)) rfl (by kernel_rfl) ?_
  have hx:∀τ a' ys,τ.cs=b.set i (Ci L a')++ys→J4 L (n+1) a=none→TH b i L (J4 L (n+1) a) (fin true b.length (.exc τ)):=fun τ a' ys e q=>by rw[q];exact⟨a',fu X e⟩
  have v:((BJ b).setM (N "self") (.obj 405 i)).m (N "self")=some (.obj 405 i):=AI
  have hI:J4 L (n+1) a=J4 L (n+1) a:=rfl
  conv at hI=>rhs;unfold J4
  have hh:=fj X
  have hLen:L.length<100000:=Nat.lt_of_le_of_lt X.len (by decide)
  cases eh:Cf L a with
  |none=>
   rw[eh] at hh hI
   obtain⟨a',hh⟩:=hh
   exact Bx (EB (Fl (x:=N "head") (σ:=(BJ b).setM (N "self") (.obj 405 i)) X (AH v) AC hh)) (hx _ a' [] (List.append_nil _).symm hI)
  |some h=>
   rw[eh] at hh hI
   obtain⟨z1,z2,z3,z4,z5⟩:=N0 eh
   refine Av (AS (Fl (x:=N "head") (σ:=(BJ b).setM (N "self") (.obj 405 i)) X (AH v) AC hh) Ae) ?_
   refine Ru.ends (b:=b) (i:=i) (a:=a+6) (L:=L) (F:=(h,[])) ⟨rfl,AM (by decide+kernel) (by exact v),AI⟩ fun τ T=>?_
   refine Qo (F:=fun xs=>({h with consts:=xs},[])) (test:=PG (sL "const")) (step:=GK L) hLen (fun τ a acc T=>Qn (T.rd X) T.s rfl) (fun τ a acc T z0 hl z0=>?_) (fun τ a' ys hc hN=>?_) (fun cs1 a1 τ hS l1 T=>?_) (by rw[show(({h with consts:=[]}:Hd),([]:List D))=(h,[]) by rw[←z2]];exact T)
   ·have hs:=TG (x:=N "constant") (fld:=N "consts") (w:=sL "const") (j:=2) (l:=acc.map cD) (e:=cD) (q:=DG) (r:=Bj) (F':=fun y=>({h with consts:=acc++[y]},[])) T X (fun cs Y ws hw hl=>VC Y hw (Nat.le_trans hl (by decide))) (fun e=>Zr e) (fun n=>rfl) (by rw[List.length_map];have:=X.len;unfold big;lia)
     (fun y n=>by show[_,_,B9 (acc.map cD++[cD y]),_,_,_]=[_,_,B9 ((acc++[y]).map cD),_,_,_];rw[List.map_append];rfl)
    unfold GK
    cases q:(A8 L a (sL "const")).bind DG with
    |none=>rw[q] at hs;exact hs
    |some y=>rw[q] at hs;exact⟨Nat.lt_succ_self _,hs⟩
   ·rw[hN] at hI
    exact hx τ a' ys hc hI
   ·rw[hS] at hI
    dsimp only at hI
    refine Qo (F:=fun xs=>({h with consts:=cs1,handlers:=xs},[])) (test:=PG (sL "handler")) (step:=ME L) hLen (fun τ a acc T=>Qn (T.rd X) T.s rfl) (fun τ a acc T z0 hl z0=>?_) (fun τ a' ys hc hN=>?_) (fun hs1 a2 τ hS2 l2 T=>?_) (by rw[show(({h with consts:=cs1,handlers:=[]}:Hd),([]:List D))=({h with consts:=cs1},[]) by rw[←z3]];exact T)
    ·have hs:=TG (x:=N "handler") (fld:=N "handlers") (w:=sL "handler") (j:=4) (l:=acc.map L9) (e:=L9) (q:=Ie) (r:=Bs) (F':=fun y=>({h with consts:=cs1,handlers:=acc++[y]},[])) T X (fun cs Y ws hw hl=>XQ Y hw (Nat.le_trans hl (by decide))) (fun e=>VF e) (fun n=>rfl) (by rw[List.length_map];have:=X.len;unfold big;lia)
      (fun y n=>by show[_,_,_,_,B9 (acc.map L9++[L9 y]),_]=[_,_,_,_,B9 ((acc++[y]).map L9),_];rw[List.map_append];rfl)
     unfold ME
     cases q:(A8 L a (sL "handler")).bind Ie with
     |none=>rw[q] at hs;exact hs
     |some y=>rw[q] at hs;exact⟨Nat.lt_succ_self _,hs⟩
    ·rw[hN] at hI
     exact hx τ a' ys hc hI
    ·rw[hS2] at hI
     dsimp only at hI
     refine Qo (F:=fun xs=>({h with consts:=cs1,handlers:=hs1,code:=xs.map (·.1),lines:=xs.map (·.2)},[])) (test:=Kt) (step:=JN L) hLen (fun τ a acc T=>Z2 (T.rd X) T.s) (fun τ a acc T z0 hl z0=>?_) (fun τ a' ys hc hN=>?_) (fun rs a3 τ hS3 l3 T=>?_) (by rw[show(({h with consts:=cs1,handlers:=hs1,code:=([]:List ((Nat×Option Nat)×Nat)).map (·.1),lines:=([]:List ((Nat×Option Nat)×Nat)).map (·.2)}:Hd),([]:List D))=({h with consts:=cs1,handlers:=hs1},[]) by rw[List.map_nil,List.map_nil,←z1,←z4]];exact T)
     ·have hl':acc.length≤10000:=by have:=X.len;lia
      have hs:=Z3 T X (by show(acc.map _).length≤_;rw[List.length_map];exact hl') (by show(acc.map _).length≤_;rw[List.length_map];exact hl')
      rw[show(({h with consts:=cs1,handlers:=hs1,code:=acc.map (·.1),lines:=acc.map (·.2)}:Hd)).code.length=acc.length from List.length_map _] at hs
      cases q:JN L a acc.length with
      |none=>rw[q] at hs;exact hs
      |some p=>
       obtain⟨x,a'⟩:=p
       rw[q] at hs
       dsimp only
       rw[List.map_append,List.map_append]
       exact hs
     ·rw[hN] at hI
      exact hx τ a' ys hc hI
     ·rw[hS3] at hI
      dsimp only at hI
      refine Qo (F:=fun xs=>({h with consts:=cs1,handlers:=hs1,code:=rs.map (·.1),lines:=rs.map (·.2)},Us.D xs)) (test:=PG (sL "unit")) (step:=fun a z0=>J4 L n a) hLen (fun τ a acc T=>Qn (T.rd X) T.s rfl) (fun τ a2 acc T ht hl hle=>?_) (fun τ a' ys hc hN=>?_) (fun us a4 τ hS4 l4 T=>?_) (by exact T)
      ·obtain⟨w,ws,e1,e2⟩:=ht
       have c1:=PH e1 (of_decide_eq_true e2)
       have c2:=TI eh
       have c3:cnt L a2≤cnt L (a+1):=N1 (by lia)
       have hs:=XT T X (fun Y=>Z4 n Y (by lia) (by lia)) (by have:=X.len;unfold big;lia)
       cases q:J4 L n a2 with
       |none=>rw[q] at hs;exact hs
       |some p=>rw[q] at hs;exact hs
      ·rw[hN] at hI
       exact hx τ a' ys hc hI
      ·rw[hS4] at hI
       dsimp only at hI
       have X4:=T.rd X
       have e1:=Fl (x:=N "need_end") (σ:=τ) X4 (AH T.s) AC (VD X4)
       cases ee:GJ L a4 with
       |none=>
        rw[ee] at e1 hI
        exact Bx (CR e1) (hx _ a4 _ T.c hI)
       |some q=>
        rw[ee] at e1 hI
        have T5:=T.move (c:=a4+1) X
        refine Av (C2 e1) (BY (AH T5.m) ?_)
        rw[hI]
        exact iZ X T5.c
end
structure Dc(t:List Nat):Prop where
 len:t.length≤big
 lines:(AT 10 t).length≤10000
 ok:∀l∈AT 10 t,Ft l
 few:cnt (AT 10 t) 0≤8
noncomputable def VH(t:List Nat):Option U:=match J4 (AT 10 t) 8 0 with
 |some (u,e)=>if e=(AT 10 t).length then some u else none
 |none=>none
section
variable {σ τ:St} {cs:List AK} {t:List Nat} {i a:Nat} {L:List (List Nat)}
theorem XU(T:Dc t):C6 [.obj 405 cs.length,.d (.str t)] (cs++[.dict []])=.ok (.d .none) (cs++[Ci (AT 10 t) 0]):=by
 unfold C6 FO
 refine Ac (σ0:=((BJ (cs++[.dict []])).setM (N "self") (.obj 405 cs.length)).setM (N "text") (.d (.str t))) rfl (by kernel_rfl) ?_
 have hv:(((BJ (cs++[.dict []])).setM (N "self") (.obj 405 cs.length)).setM (N "text") (.d (.str t))).m (N "self")=some (.obj 405 cs.length):=AM (by decide+kernel) AI
 refine Av (AS (BG (AH AI) rfl (AA AJ AC) (Mv T.len)) (JM (AH hv) (J1 (τ:=((BJ (cs++[.dict []])).setM (N "self") (.obj 405 cs.length)).setM (N "text") (.d (.str t))) rfl Ig (Nat.le_of_ble_eq_true rfl)))) ?_
 refine Si (AS AJ (JM (AH (by exact hv)) (J1 rfl (by show((cs++[AK.dict []]).set _ _)[_]? =_;rw[HX];exact Ig) (Nat.le_of_ble_eq_true rfl)))) ?_
 show RC.ok (.d .none) (((cs++[AK.dict []]).set cs.length _).set cs.length _)=_
 rw[HX,HX]
 kernel_rfl
theorem Z5(T:Dc t):Iw [.d (.str t)] cs=.ok (.obj 405 cs.length) (cs++[Ci (AT 10 t) 0]):=by
 show(match C6 (.obj 405 cs.length::_) (cs++[.dict []]) with|.ok (.d .none) cs'=>RC.ok (.obj 405 cs.length) cs'|_=>.stuck)=_
 rw[XU T]
theorem TJ{c:AK}(hc:clo cs.length cs=true)(e:σ.cs=cs++[c]):fin true cs.length (.exc σ:R AF)=.exc cs:=by
 unfold fin;simp only[e,List.take_left,hc,if_true]
theorem XV{c:AK}{d:D}(hc:clo cs.length cs=true)(e:σ.cs=cs++[c]):fin true cs.length (.ok (.ret (.d d)) σ)=.ok (.d d) cs:=by
 unfold fin;simp only[LF,Tl,JQ,e,List.take_left,hc,if_true]
theorem GL(T:Dc t)(hc:clo cs.length cs=true):BF [.d (.str t)] cs=Su U.D (VH t) cs:=by
 unfold BF IK
 refine Ac (σ0:=(BJ cs).setM (N "text") (.d (.str t))) rfl (by kernel_rfl) ?_
 refine Av (AS (DQ (AA (AH AI) AC) (Z5 T)) Ae) ?_
 have X:CY (cs++[Ci (AT 10 t) 0]) cs.length (AT 10 t) 0:=⟨Ig,Ki hc (Nu (L:=AT 10 t) (a:=0)),T.lines,T.ok⟩
 have hs:∀e,(cs++[Ci (AT 10 t) 0]).set cs.length (Ci (AT 10 t) e)=cs++[Ci (AT 10 t) e]:=fun e=>HX
 have q:=Z4 8 X (by decide) T.few
 have ev:∀r,BE 8 [.obj 405 cs.length] (cs++[Ci (AT 10 t) 0])=r→_:=fun r e=>Fl (x:=N "unit") (f:=AB (N "reading")) (σ:=({(BJ cs).setM (N "text") (.d (.str t)) with cs:=cs++[Ci (AT 10 t) 0]}:St).setM (N "reading") (.obj 405 cs.length)) X (AH AI) AC e
 have hv:(({(BJ cs).setM (N "text") (.d (.str t)) with cs:=cs++[Ci (AT 10 t) 0]}:St).setM (N "reading") (.obj 405 cs.length)).m (N "reading")=some (.obj 405 cs.length):=AI
 unfold VH
 cases e:J4 (AT 10 t) 8 0 with
 |none=>
  rw[e] at q
  obtain⟨a',q⟩:=q
  rw[hs] at q
  exact Bx (EB (ev _ q)) (TJ hc rfl)
 |some p=>
  obtain⟨u,e1⟩:=p
  rw[e] at q
  have q:_=RC.ok _ ((cs++[Ci (AT 10 t) 0]).set cs.length _):=q
  rw[hs] at q
  show Bd _ fun r=>fin true cs.length r=Su U.D (if e1=(AT 10 t).length then some u else none) cs
  refine Av (AS (ev _ q) Ae) ?_
  have X1:CY (cs++[Ci (AT 10 t) e1]) cs.length (AT 10 t) e1:=⟨Ig,Ki hc (Nu (L:=AT 10 t) (a:=e1)),T.lines,T.ok⟩
  have hl:(AT 10 t).length≤big:=Nat.le_trans T.lines (by decide)
  refine ER (c:=!decide (e1=(AT 10 t).length)) (Ax (AE (Ab (AH (AM (by decide+kernel) (by exact hv))) (CY.at' (by exact X1))) (Ao (AA (Ab (AH (AM (by decide+kernel) (by exact hv))) (CY.lines (by exact X1))) AC) (CI (by rw[List.length_map];exact hl))) ?_)) (fun h=>?_) fun h=>?_
  ·rw[Zd,List.length_map,show decide ((e1:Int)=((AT 10 t).length:Int))=decide (e1=(AT 10 t).length) from decide_eq_decide.mpr Int.natCast_inj]
  ·refine⟨CR (Fl (x:=N "fail") (by exact X1) (AH (AM (by decide+kernel) (by exact hv))) AC (Qg (by exact X1))),?_⟩
   rw[show(if e1=(AT 10 t).length then some u else none)=none from if_neg (by intro e;rw[decide_eq_true e] at h;cases h)]
   exact TJ hc rfl
  ·rw[show(if e1=(AT 10 t).length then some u else none)=some u from if_pos (by cases hd:decide (e1=(AT 10 t).length) with|true=>exact of_decide_eq_true hd|false=>rw[hd] at h;cases h)]
   exact BY (AH AI) (XV hc rfl)
end
theorem N4:∀k<16,hd k∈DM∧DM.idxOf (hd k)=k∧48≤hd k∧hd k≤102:=by decide+kernel
theorem TK{n:Nat}(h:n<65536):Dw (Kc n)=n:=by
 obtain⟨a1,a2,_⟩:=N4 (n/4096) (by lia)
 obtain⟨b1,b2,_⟩:=N4 (n/256%16) (by lia)
 obtain⟨c1,c2,_⟩:=N4 (n/16%16) (by lia)
 obtain⟨d1,d2,_⟩:=N4 (n%16) (by lia)
 unfold Dw Kc
 simp only[IW,if_pos a1,if_pos b1,if_pos c1,if_pos d1,a2,b2,c2,d2]
 show((_:Nat):Int)=_
 congr 1
 lia
theorem N5{c:Nat}(h:Cr c=true):c≠92∧c≠34∧33≤c∧c≤126:=by
 unfold Cr at h
 simp only[Bool.and_eq_true,decide_eq_true_eq,Bool.not_eq_true',decide_eq_false_iff_not] at h
 obtain⟨⟨h1,h2⟩,h3,h4,_⟩:=h
 refine⟨fun e=>h4 (by rw[e]),fun e=>h3 (by rw[e]),by lia,by lia⟩
theorem TL:∀(l:List Nat) (n:Nat),(∀c∈l,c<65536)→(Cw l).length≤n→Of n (Cw l)=some l
 |[],n,_,_=>by cases n<;>rfl
 |c::l,n,h,hn=>by
  have hq:Cw (c::l)=Sk c++Cw l:=List.flatMap_cons
  rw[hq] at hn ⊢
  rw[List.length_append] at hn
  have ih:=fun m hm=>TL l m (fun x hx=>h x (.tail _ hx)) hm
  unfold Sk at hn ⊢
  cases p:Cr c with
  |true=>
   rw[p] at hn
   obtain⟨p1,p2,_⟩:=N5 p
   have hn:1+(Cw l).length≤n:=hn
   obtain⟨m,rfl⟩:∃m,n=m+1:=⟨n-1,by lia⟩
   show Of (m+1) (c::Cw l)=_
   unfold Of
   rw[if_neg p1,if_neg p2,ih m (by lia)];rfl
  |false=>
   rw[p] at hn
   have hn:6+(Cw l).length≤n:=hn
   obtain⟨m,rfl⟩:∃m,n=m+1:=⟨n-1,by lia⟩
   show Of (m+1) (92::117::(Kc c++Cw l))=_
   have hx:Fh (117::(Kc c++Cw l))=c:=by
    show Dw (Kc c)=_
    exact TK (h c (.head _))
   have hb:HR (117::(Kc c++Cw l))=false:=by
    unfold HR
    rw[hx]
    show(!decide ([117]=[117])||(decide ((Cw l).length+5<5)||decide ((c:Int)<0)))=false
    rw[decide_eq_false (by lia),decide_eq_false (by lia)];rfl
   unfold Of
   rw[if_pos rfl,hb,hx]
   show(Of m (Cw l)).map _=_
   rw[ih m (by lia)];rfl
theorem GZ{l:List Nat}(h:∀c∈l,c<65536):Be (DI l)=some l:=by
 have hs:Gn (DI l)=false:=by
  unfold Gn DI
  show(decide ((((Cw l++[34]).length+1:Nat):Int)<2)||(!decide ([34]=[34])|| !decide ((34::(Cw l++[34])).getLast? =some 34)))=false
  rw[List.length_append,decide_eq_false (by show ¬(((Cw l).length+1+1:Nat):Int)<2;lia),←List.cons_append,List.getLast?_append]
  rfl
 unfold Be
 rw[hs]
 show Of _ (((Cw l++[34]).take ((Cw l++[34]).length+1-2)))=_
 rw[show(DI l).length=(Cw l).length+2 by unfold DI;simp,List.length_append,show(Cw l).length+[34].length+1-2=(Cw l).length by show _+1+1-2=_;lia,List.take_left]
 exact TL l _ h (by lia)
theorem CO(n:Nat):Br (A9 (n:Int))=some n:=by
 unfold Br;rw[Cz,if_pos (by lia)];rfl
theorem JA{w v:List Nat}{a b:Nat}(h1:w.head? =some a)(h2:v.head? =some b)(h:a≠b):w≠v:=fun e=>h (by rw[e,h2] at h1;injection h1 with q;exact q.symm)
theorem Fq(p:Pl):By (C0 p)=some p:=by
 unfold By
 match p with
 |none=>exact if_pos rfl
 |some (true,n)=>
  rw[if_neg (JA (a:=108) (b:=110) (by kernel_rfl) (by kernel_rfl) (by decide))]
  show(if decide (Cx true=Cx true)&&decide (0≤AX (A9 n)) then some (some (true,(AX (A9 n)).toNat)) else _)=_
  rw[Cz,if_pos (by rw[decide_eq_true rfl];exact decide_eq_true (Int.natCast_nonneg n))];rfl
 |some (false,n)=>
  rw[if_neg (JA (a:=99) (b:=110) (by kernel_rfl) (by kernel_rfl) (by decide)),if_neg]
  ·show(if decide (Cx false=Cx false)&&decide (0≤AX (A9 n)) then some (some (false,(AX (A9 n)).toNat)) else _)=_
   rw[Cz,if_pos (by rw[decide_eq_true rfl];exact decide_eq_true (Int.natCast_nonneg n))];rfl
  ·intro e
   rw[Bool.and_eq_true,decide_eq_true_eq] at e
   exact JA (a:=99) (b:=108) (by kernel_rfl) (by kernel_rfl) (by decide) e.1
theorem VI(p:Bool×Nat):Er (Oi p)=some p:=by
 obtain⟨b,n⟩:=p
 unfold Er
 cases b with
 |true=>
  show(if sL "frame"=sL "frame" then(if 0≤AX (A9 n) then some (true,(AX (A9 n)).toNat) else none) else _)=_
  rw[if_pos rfl,Cz,if_pos (by lia)];rfl
 |false=>
  rw[if_neg (JA (a:=99) (b:=102) (by kernel_rfl) (by kernel_rfl) (by decide))]
  show(if sL "closure"=sL "closure" then(if 0≤AX (A9 n) then some (false,(AX (A9 n)).toNat) else none) else _)=_
  rw[if_pos rfl,Cz,if_pos (by lia)];rfl
theorem N6(n:Nat):E2_3 (fun c r=>A9 (n:Int)=c::r) (fun c r=>48≤c) (fun c r=>c<58):=by
 obtain⟨h1,_,h2,_⟩:=Gp n
 match e:A9 (n:Int) with
 |[]=>exact absurd e h2
 |c::r=>exact have q:=h1 c (by rw[e];exact .head _);⟨c,r,rfl,q.1,q.2⟩
theorem Ol{c:List Nat ⊕ Nat}(h:aj c):DG [EP c]=some c:=by
 unfold DG
 cases c with
 |inl l=>
  show(if(DI l).take 1=[34] then(Be (DI l)).map Sum.inl else _)=_
  rw[if_pos (show(DI l).take 1=[34] from rfl),GZ h.1];rfl
 |inr n=>
  obtain⟨c,r,e,h1,h2⟩:=N6 n
  show(if(A9 n).take 1=[34] then _ else(Br (A9 n)).map Sum.inr)=_
  rw[if_neg (by rw[e];intro q;have:c=34:=(List.cons.inj q).1;lia),CO];rfl
theorem XW(x:Nat×Nat×Nat×Nat×Bool):Ie (Xm x)=some x:=by
 obtain⟨p,q,r,s,z⟩:=x
 unfold Ie Xm
 dsimp only
 rw[if_pos (by cases z;exact .tail _ (.head _);exact .head _)]
 rw[CO,CO,CO,CO]
 cases z<;>rfl
theorem PI{op:Nat}(h:op<85):Ch (Fi op)=op:=by
 have:∀op<85,Ch (Fi op)=(op:Int):=by decide+kernel
 exact this op h
theorem TM{c:Nat}:∀{w:List Nat},c∉w→AT c w=[w]
 |[],_=>rfl
 |a::l,h=>by
  unfold AT
  rw[if_neg (fun e=>h (by rw[e];exact .head _)),TM fun q=>h (.tail _ q)]
theorem PJ{c:Nat}{r:List Nat}:∀{w:List Nat},c∉w→AT c (w++c::r)=w::AT c r
 |[],_=>by show AT c (c::r)=_;(conv=>lhs;unfold AT);rw[if_pos rfl]
 |a::l,h=>by
  show AT c (a::(l++c::r))=_
  conv=>lhs;unfold AT
  rw[if_neg (fun e=>h (by rw[e];exact .head _)),PJ fun q=>h (.tail _ q)]
theorem J6{c:Nat}:∀{ws:List (List Nat)},ws≠[]→(∀w∈ws,c∉w)→AT c (AW [c] ws)=ws
 |[],h,_=>absurd rfl h
 |[w],_,h=>TM (h w (.head _))
 |w::x::r,_,h=>by
  show AT c (w++[c]++AW [c] (x::r))=_
  rw[List.append_assoc]
  show AT c (w++c::AW [c] (x::r))=_
  rw[PJ (h w (.head _)),J6 (ws:=x::r) (fun e=>nomatch e) fun y hy=>h y (.tail _ hy)]
noncomputable def JB(w:List Nat):Bool:=w.all fun c=>Nat.ble 33 c&&Nat.ble c 126
theorem My{w:List Nat}(h:JB w=true){c:Nat}(hc:c∈w):33≤c∧c≤126:=by
 have:=List.all_eq_true.mp h c hc
 rw[Bool.and_eq_true] at this
 exact⟨Nat.le_of_ble_eq_true this.1,Nat.le_of_ble_eq_true this.2⟩
theorem Z6{w:List Nat}(h:∀c∈w,33≤c∧c≤126):JB w=true:=List.all_eq_true.mpr fun c hc=>by
 rw[Nat.ble_eq_true_of_le (h c hc).1,Nat.ble_eq_true_of_le (h c hc).2];rfl
theorem fv{w:List Nat}(h:JB w=true):32∉w∧10∉w:=⟨fun q=>by have:=My h q;lia,fun q=>by have:=My h q;lia⟩
theorem Mz{a b:List Nat}(ha:JB a=true)(hb:JB b=true):JB (a++b)=true:=by unfold JB;rw[List.all_append];exact(Bool.and_eq_true _ _).mpr ⟨ha,hb⟩
set_option tactic.hygienic true in
theorem Li{l:List Nat}(hl:∀c∈l,c<65536):JB (DI l)=true:=by
 refine Z6 fun c hc=>?_
 unfold DI at hc
 rcases List.mem_cons.mp hc with rfl|hc
 ·lia
 rcases List.mem_append.mp hc with hc|hc
 ·obtain⟨x,hx,hc⟩:=List.mem_flatMap.mp hc
  unfold Sk at hc
  split at hc
  ·rename_i p
   rw[List.mem_singleton.mp hc]
   exact(N5 p).2.2
  ·rcases List.mem_cons.mp hc with rfl|hc
   ·lia
   rcases List.mem_cons.mp hc with rfl|hc
   ·lia
   unfold Kc at hc
   have hh:∀k<16,33≤hd k∧hd k≤126:=fun k hk=>by have:=(N4 k hk).2.2;lia
   have hc16:=hl x hx
   rcases List.mem_cons.mp hc with rfl|hc
   ·exact hh _ (by lia)
   rcases List.mem_cons.mp hc with rfl|hc
   ·exact hh _ (Nat.mod_lt _ (by decide))
   rcases List.mem_cons.mp hc with rfl|hc
   ·exact hh _ (Nat.mod_lt _ (by decide))
   ·rw[List.mem_singleton.mp hc];exact hh _ (Nat.mod_lt _ (by decide))
 ·rw[List.mem_singleton.mp hc];lia
theorem CS(n:Nat):JB (A9 (n:Int))=true:=Z6 fun c hc=>by have:=(Gp n).1 c hc;lia
theorem J7:∀p:Pl,JB (C0 p)=true
 |none=>by decide+kernel
 |some (true,n)=>Mz (a:=sL "local") (by decide+kernel) (CS n)
 |some (false,n)=>Mz (a:=sL "cell") (by decide+kernel) (CS n)
theorem Z7:∀p:Bool×Nat,JB (Oi p)=true
 |(true,n)=>Mz (a:=sL "frame") (by decide+kernel) (CS n)
 |(false,n)=>Mz (a:=sL "closure") (by decide+kernel) (CS n)
theorem Z8{op:Nat}(h:op<85):JB (Fi op)=true:=by
 have:∀op<85,JB (Fi op)=true:=by decide+kernel
 exact this op h
theorem PK:∀{c:List Nat ⊕ Nat},aj c→JB (EP c)=true
 |.inl l,h=>Li h.1
 |.inr n,_=>CS n
theorem CX{ws:List (List Nat)}(h0:ws≠[])(h:∀w∈ws,JB w=true):Ai (AW [32] ws)=ws:=J6 h0 fun w hw=>(fv (h w hw)).1
theorem N7{c x:Nat}:∀{ws:List (List Nat)},x∈AW [c] ws→x=c∨∃w∈ws,x∈w
 |[],h=>nomatch h
 |[w],h=>.inr ⟨w,.head _,h⟩
 |w::y::r,h=>by
  rcases List.mem_append.mp (show x∈(w++[c])++AW [c] (y::r) from h) with h|h
  ·rcases List.mem_append.mp h with h|h
   ·exact .inr ⟨w,.head _,h⟩
   ·exact .inl (List.mem_singleton.mp h)
  ·rcases N7 h with h|⟨z,hz,h⟩
   ·exact .inl h
   ·exact .inr ⟨z,.tail _ hz,h⟩
inductive Pr{α:Type}(L:List (List Nat))(t:List Nat→Bool)(s:Nat→Nat→Option (α×Nat)):Nat→Nat→List α→Nat→Prop
 |done {a c:Nat} {w:List Nat} {ws:List (List Nat)}:BW L a=some (w::ws)→t w=false→Pr L t s a c [] a
 |item {a c:Nat} {w:List Nat} {ws:List (List Nat)} {x:α} {b e:Nat} {xs:List α}:BW L a=some (w::ws)→t w=true→s a c=some (x,b)→Pr L t s b (c+1) xs e→Pr L t s a c (x::xs) e
section
variable {α:Type} {L M:List (List Nat)} {t:List Nat→Bool} {s s':Nat→Nat→Option (α×Nat)} {h:Hd} {a e k:Nat} {u:U}
set_option tactic.hygienic true in
theorem Pr.of:∀{n a c:Nat} {xs:List α} {e:Nat},many L t s n a c=some (xs,e)→Pr L t s a c xs e
 |0,_,_,_,_,q=>by cases q
 |n+1,a,c,xs,e,q=>by
  unfold many at q
  split at q
  ·rename_i w ws e1
   split at q
   ·rename_i e2
    split at q
    ·rename_i x b e3
     split at q
     ·rename_i e4
      cases q
      exact .item e1 e2 e3 (Pr.of e4)
     ·cases q
    ·cases q
   ·rename_i e2;cases q;exact .done e1 (Bool.not_eq_true _▸e2)
  ·cases q
theorem Pr.many{a c:Nat}{xs:List α}{e:Nat}(h:Pr L t s a c xs e):∀{n},xs.length<n→many L t s n a c=some (xs,e):=by
 induction h with
 |done h1 h2=>
  intro n hn
  obtain⟨m,rfl⟩:∃m,n=m+1:=⟨n-1,by lia⟩
  unfold Mine.Internal.many
  rw[h1];show(if t _=true then _ else _)=_;rw[h2];rfl
 |item h1 h2 h3 h4 ih=>
  intro n hn
  rw[List.length_cons] at hn
  obtain⟨m,rfl⟩:∃m,n=m+1:=⟨n-1,by lia⟩
  unfold Mine.Internal.many
  rw[h1];show(if t _=true then _ else _)=_
  rw[h2,h3]
  show(match Mine.Internal.many L t s m _ _ with|some (xs,e)=>some (_::xs,e)|none=>none)=_
  rw[ih (by lia)]
theorem Pr.lt(hs:∀a c x e,s a c=some (x,e)→a<e){a c:Nat}{xs:List α}{e:Nat}(h:Pr L t s a c xs e):a+xs.length≤e∧e<L.length:=by
 induction h with
 |done h1 h2=>
  unfold BW at h1
  obtain⟨l,hl,_⟩:=Option.map_eq_some_iff.mp h1
  exact⟨Nat.le_refl _,(List.getElem?_eq_some_iff.mp hl).1⟩
 |item h1 h2 h3 h4 ih=>
  have:=hs _ _ _ _ h3
  rw[List.length_cons]
  exact⟨by lia,ih.2⟩
noncomputable def Sub(L M:List (List Nat)):Prop:=∀a ws,BW L a=some ws→BW M a=some ws
theorem Pr.sub(hL:Sub L M)(hs:∀a c x e,s a c=some (x,e)→s' a c=some (x,e)){a c:Nat}{xs:List α}{e:Nat}(h:Pr L t s a c xs e):Pr M t s' a c xs e:=by
 induction h with
 |done h1 h2=>exact .done (hL _ _ h1) h2
 |item h1 h2 h3 h4 ih=>exact .item (hL _ _ h1) h2 (hs _ _ _ _ h3) ih
theorem Kv{a:Nat}{w:List Nat}{ws:List (List Nat)}(e:BW L a=some (w::ws)):A8 L a w=some ws:=by
 unfold A8;rw[e];exact if_pos rfl
theorem PL(hL:Sub L M){a:Nat}{w:List Nat}{ws:List (List Nat)}(e:A8 L a w=some ws):A8 M a w=some ws:=Kv (hL _ _ (Ik e))
theorem Fs{β:Type}(hL:Sub L M){a:Nat}{w:List Nat}{q:List (List Nat)→Option β}{y:β}(e:(A8 L a w).bind q=some y):(A8 M a w).bind q=some y:=by
 obtain⟨ws,e1,e2⟩:=Option.bind_eq_some_iff.mp e
 rw[PL hL e1];exact e2
set_option tactic.hygienic true in
theorem VJ(hL:Sub L M){a:Nat}(e:Cf L a=some h):Cf M a=some h:=by
 unfold Cf at e
 split at e
 ·cases e
 rename_i e1
 split at e
 ·cases e
 rename_i e2
 split at e
 ·cases e
 rename_i e3
 split at e
 ·cases e
 rename_i e4
 split at e
 ·cases e
 rename_i e5
 split at e
 ·cases e
 rename_i e6
 split at e
 ·cases e
 rename_i e7
 split at e
 ·cases e
 rename_i e8
 cases e
 unfold Cf
 rw[PL hL e1]
 dsimp only
 rw[if_neg e2,e3]
 dsimp only
 rw[Fs hL e4]
 dsimp only
 rw[Fs hL e5]
 dsimp only
 rw[Fs hL e6]
 dsimp only
 rw[Fs hL e7]
 dsimp only
 rw[Fs hL e8]
inductive al(L:List (List Nat))(k a:Nat):U→Nat→Prop
 |mk {h:Hd} {cs:List (List Nat ⊕ Nat)} {hs:List (Nat×Nat×Nat×Nat×Bool)} {rs:List ((Nat×Option Nat)×Nat)} {us:List U} {a1 a2 a3 a4:Nat}:
  Cf L a=some h→Pr L (PG (sL "const")) (GK L) (a+6) 0 cs a1→Pr L (PG (sL "handler")) (ME L) a1 0 hs a2→Pr L Kt (JN L) a2 0 rs a3→Pr L (PG (sL "unit")) (fun a z0=>J4 L k a) a3 0 us a4→GJ L a4=some ()→
  al L k a (.mk {h with consts:=cs,handlers:=hs,code:=rs.map (·.1),lines:=rs.map (·.2)} us) (a4+1)
set_option tactic.hygienic true in
theorem al.of(q:J4 L (k+1) a=some (u,e)):al L k a u e:=by
 unfold J4 at q
 split at q
 ·cases q
 rename_i h1
 split at q
 ·cases q
 rename_i h2
 split at q
 ·cases q
 rename_i h3
 split at q
 ·cases q
 rename_i h4
 split at q
 ·cases q
 rename_i h5
 split at q
 ·rename_i h6
  cases q
  exact .mk h1 (.of h2) (.of h3) (.of h4) (.of h5) h6
 ·cases q
theorem N8(a c:Nat)(x)(e:Nat)(q:GK L a c=some (x,e)):a<e:=by rw[J5 q];exact Nat.lt_succ_self _
theorem TN(a c:Nat)(x)(e:Nat)(q:ME L a c=some (x,e)):a<e:=by rw[N2 q];exact Nat.lt_succ_self _
theorem TO(a c:Nat)(x)(e:Nat)(q:JN L a c=some (x,e)):a<e:=by rw[N3 q];exact Nat.lt_succ_self _
theorem al.to(q:al L k a u e):J4 L (k+1) a=some (u,e):=by
 cases q with
 |mk h1 h2 h3 h4 h5 h6=>
  have l2:=h2.lt N8
  have l3:=h3.lt TN
  have l4:=h4.lt TO
  have l5:=h5.lt fun a c x e q=>Qp k q
  unfold J4
  rw[h1]
  dsimp only
  rw[h2.many (by lia)]
  dsimp only
  rw[h3.many (by lia)]
  dsimp only
  rw[h4.many (by lia)]
  dsimp only
  rw[h5.many (by lia)]
  dsimp only
  rw[h6]
set_option tactic.hygienic true in
theorem XX(hL:Sub L M){a:Nat}(e:GJ L a=some ()):GJ M a=some ():=by
 unfold GJ at e ⊢
 split at e
 ·rename_i ws q
  rw[hL _ _ q];exact e
 ·cases e
theorem Qq(hL:Sub L M):∀(k:Nat) {a:Nat} {u:U} {e:Nat},J4 L k a=some (u,e)→J4 M k a=some (u,e)
 |0,_,_,_,q=>by cases q
 |k+1,a,u,e,q=>by
  cases al.of q with
  |mk h1 h2 h3 h4 h5 h6=>
   refine al.to (.mk (VJ hL h1) (h2.sub hL fun a c x e q=>?_) (h3.sub hL fun a c x e q=>?_) (h4.sub hL fun a c x e q=>?_) (h5.sub hL fun a c x e q=>Qq hL k q) (XX hL h6))
   ·obtain⟨y,r,z⟩:=Option.map_eq_some_iff.mp q
    cases z
    exact Option.map_eq_some_iff.mpr ⟨_,Fs hL r,rfl⟩
   ·obtain⟨y,r,z⟩:=Option.map_eq_some_iff.mp q
    cases z
    exact Option.map_eq_some_iff.mpr ⟨_,Fs hL r,rfl⟩
   ·obtain⟨y,r,z⟩:=Option.map_eq_some_iff.mp q
    cases z
    obtain⟨ws,r1,r2⟩:=Option.bind_eq_some_iff.mp r
    exact Option.map_eq_some_iff.mpr ⟨_,Option.bind_eq_some_iff.mpr ⟨ws,hL _ _ r1,r2⟩,rfl⟩
theorem cM{k:Nat}(q:J4 L k a=some (u,e)):e≤L.length:=by
 cases k with
 |zero=>cases q
 |succ k=>
  cases al.of q with
  |mk h1 h2 h3 h4 h5 h6=>exact(h5.lt fun a c x e q=>Qp k q).2
end
section
variable {α:Type} {L:List (List Nat)} {t:List Nat→Bool} {s:Nat→Nat→Option (α×Nat)} {h:Hd} {a e k:Nat} {u:U} {A B:List (List Nat)}
noncomputable def Q6(L:List (List Nat))(a:Nat)(A:List (List Nat)):Prop:=A<+:L.drop a
theorem Q6.left(h:Q6 L a (A++B)):Q6 L a A:=(List.prefix_append A B).trans h
theorem Q6.right(h:Q6 L a (A++B)):Q6 L (a+A.length) B:=by
 obtain⟨r,e⟩:=h
 exact⟨r,by rw[←List.drop_drop,←e,List.append_assoc,List.drop_left]⟩
theorem Q6.line{l:List Nat}{r:List (List Nat)}{ws:List (List Nat)}(h:Q6 L a (l::r))(e:Ai l=ws):BW L a=some ws:=by
 obtain⟨z,q⟩:=h
 unfold BW
 have:(L.drop a)[0]? =some l:=by rw[←q];rfl
 rw[List.getElem?_drop] at this
 rw[show L[a]? =some l from this,←e];rfl
noncomputable def Qr(P:List Nat→Prop)(A:List (List Nat)):Prop:=gJ (fun l r w ws=>A=l::r) (fun l r w ws=>Ai l=w::ws) (fun l r w ws=>P w)
theorem Qr.app{P:List Nat→Prop}(h:A=[]∨Qr P A)(h':Qr P B):Qr P (A++B):=by
 rcases h with rfl|⟨l,r,w,ws,e,q,p⟩
 ·exact h'
 ·exact⟨l,r++B,w,ws,by rw[e];rfl,q,p⟩
theorem Qr.map{β:Type}{P:List Nat→Prop}{f:β→List Nat}{xs:List β}(h:∀x∈xs,Gc (fun w ws=>Ai (f x)=w::ws) (fun w ws=>P w)):xs.map f=[]∨Qr P (xs.map f):=by
 cases xs with
 |nil=>exact .inl rfl
 |cons x xs=>obtain⟨w,ws,q,p⟩:=h x (.head _);exact .inr ⟨_,_,w,ws,rfl,q,p⟩
noncomputable def Il(f:Nat→α→List (List Nat)):Nat→List α→List (List Nat)
 |_,[]=>[]
 |c,x::xs=>f c x++Il f (c+1) xs
theorem Pr.print{f:Nat→α→List (List Nat)}(ht:Qr (fun w=>t w=false) B):∀(xs:List α) (a c:Nat),Q6 L a (Il f c xs++B)→
  (∀j x a',xs[j]? =some x→Q6 L a' (f (c+j) x)→(Gc (fun w ws=>BW L a'=some (w::ws)) (fun w ws=>t w=true))∧s a' (c+j)=some (x,a'+(f (c+j) x).length))→
  Pr L t s a c xs (a+(Il f c xs).length)
 |[],a,c,h,_=>by
  obtain⟨l,r,w,ws,e,q1,q2⟩:=ht
  have h:Q6 L a B:=h
  rw[e] at h
  exact .done (h.line q1) q2
 |x::xs,a,c,h,H=>by
  have h:Q6 L a ((f c x++Il f (c+1) xs)++B):=h
  obtain⟨⟨w,ws,h1,h2⟩,h3⟩:=H 0 x a rfl h.left.left
  rw[List.append_assoc] at h
  have:=Pr.print ht xs _ (c+1) h.right fun j y a' e l=>by
   have:=H (j+1) y a' e
   rw[show c+(j+1)=c+1+j by lia] at this
   exact this l
  show Pr L t s a c (x::xs) (a+(f c x++Il f (c+1) xs).length)
  rw[List.length_append,←Nat.add_assoc]
  exact .item h1 h2 h3 this
theorem Lj(g:Nat→List Nat):∀(xs:List α) (c:Nat),Il (fun c z0=>[g c]) c xs=(List.range' c xs.length).map g
 |[],_=>rfl
 |x::xs,c=>by show g c::Il _ (c+1) xs=_;rw[Lj g xs];rfl
theorem Gu(g:α→List Nat):∀(xs:List α) (c:Nat),Il (fun z0 x=>[g x]) c xs=xs.map g
 |[],_=>rfl
 |x::xs,c=>by show g x::Il _ (c+1) xs=_;rw[Gu g xs];rfl
theorem N9:∀(xs:List U) (c:Nat),Il (fun z0 x=>x.lines) c xs=Us.lines xs
 |[],_=>rfl
 |x::xs,c=>by show x.lines++Il _ (c+1) xs=_;rw[N9 xs];rfl
theorem Kw{β γ:Type}{o:β→Option γ}{f:γ→β}:∀{xs:List γ},(∀x∈xs,o (f x)=some x)→Df o (xs.map f)=some xs
 |[],_=>rfl
 |x::xs,h=>by
  show(match o (f x) with|some y=>(Df o (xs.map f)).map (y:: ·)|none=>none)=_
  rw[h x (.head _),Kw fun y hy=>h y (.tail _ hy)];rfl
structure iw(h:Hd):Prop where
 ok:Qa h
 rows:h.code.length=h.lines.length
 args:∀c∈h.code,c.2=none↔Cg c.1=[]
theorem E9(H:Qa h):∀ws∈Ia h,ws≠[]∧∀w∈ws,JB w=true:=by
 intro ws hws
 have hn:JB (IZ h.name)=true:=by
  cases e:h.name with
  |none=>show JB (sL "none")=true;decide+kernel
  |some l=>exact Li (H.name l e).1
 have hf:∀w∈Dx h,JB w=true:=by
  have:∀a b:Bool,∀w∈(if a then[sL "strict"] else[])++(if b then[sL "arguments"] else[]),JB w=true:=by decide+kernel
  exact this _ _
 have c1:∀(s:List Nat) (xs:List (List Nat)),JB s=true→(∀w∈xs,JB w=true)→s::xs≠[]∧∀w∈s::xs,JB w=true:=fun s xs h1 h2=>⟨(fun e=>nomatch e),fun w hw=>by
  rcases List.mem_cons.mp hw with rfl|hw
  ·exact h1
  ·exact h2 w hw⟩
 unfold Ia at hws
 rcases List.mem_cons.mp hws with rfl|hws
 ·exact c1 _ _ (by decide+kernel) (c1 _ _ hn hf).2
 rcases List.mem_cons.mp hws with rfl|hws
 ·exact c1 _ _ (by decide+kernel) fun w hw=>by obtain⟨l,hl,rfl⟩:=List.mem_map.mp hw;exact Li (H.params l hl).1
 rcases List.mem_cons.mp hws with rfl|hws
 ·exact c1 _ _ (by decide+kernel) fun w hw=>by obtain⟨l,hl,rfl⟩:=List.mem_map.mp hw;exact J7 l
 rcases List.mem_cons.mp hws with rfl|hws
 ·exact c1 _ _ (by decide+kernel) (c1 _ _ (J7 _) (c1 _ [] (J7 _) fun z0 h=>nomatch h).2).2
 rcases List.mem_cons.mp hws with rfl|hws
 ·exact c1 _ _ (by decide+kernel) (c1 _ _ (CS _) (c1 _ [] (CS _) fun z0 h=>nomatch h).2).2
 rw[List.mem_singleton.mp hws]
 exact c1 _ _ (by decide+kernel) fun w hw=>by obtain⟨l,hl,rfl⟩:=List.mem_map.mp hw;exact Z7 l
noncomputable def Hd.bare(h:Hd):Hd:={h with consts:=[],handlers:=[],code:=[],lines:=[]}
theorem TP(n:List Nat):Ql (n::Dx h)=true:=by
 have:∀a b:Bool,decide ((if a then[sL "strict"] else[])++(if b then[sL "arguments"] else[])∈[[],[sL "strict"],[sL "arguments"],[sL "strict",sL "arguments"]])=true:=by decide+kernel
 unfold Ql
 rw[decide_eq_true (by rw[List.length_cons];lia)]
 exact this _ _
theorem MF:decide (sL "strict" ∈Dx h)=h.strict∧decide (sL "arguments" ∈Dx h)=h.args:=by
 have:∀a b:Bool,decide (sL "strict" ∈(if a then[sL "strict"] else[])++(if b then[sL "arguments"] else[]))=a∧decide (sL "arguments" ∈(if a then[sL "strict"] else[])++(if b then[sL "arguments"] else[]))=b:=by decide+kernel
 exact this _ _
theorem Qs(H:Qa h)(r:List (List Nat)):J3 (IZ h.name::r)=some h.name:=by
 cases e:h.name with
 |none=>show(if sL "none"=sL "none" then some none else(Be (sL "none")).map some)=some none;exact if_pos rfl
 |some l=>
  show(if DI l=sL "none" then some none else(Be (DI l)).map some)=some (some l)
  rw[if_neg (JA (a:=34) (b:=110) rfl (by kernel_rfl) (by decide)),GZ (H.name l e).1];rfl
theorem Z9{β:Type}{q:List Nat→Option β}{x y:List Nat}{u v:β}(h1:q x=some u)(h2:q y=some v):Mg q [x,y]=some (u,v):=by
 show(match q x with|some u=>(q y).map fun v=>(u,v)|none=>none)=_
 rw[h1,h2];rfl
theorem VK(H:Qa h)(l:Q6 L a (Ep h)):Cf L a=some h.bare:=by
 have V:=E9 H
 have ln:∀(A B:List (List (List Nat))) (w:List Nat) (ws:List (List Nat)),Ia h=A++(w::ws)::B→A8 L (a+A.length) w=some ws:=fun A B w ws e=>by
  have:Q6 L a (A.map (AW [32])++AW [32] (w::ws)::B.map (AW [32])):=by
   have:=l;unfold Ep at this;rw[e,List.map_append] at this;exact this
  have:=(this.right).line (CX (V (w::ws) (by rw[e];exact List.mem_append_right _ (.head _))).1 (V (w::ws) (by rw[e];exact List.mem_append_right _ (.head _))).2)
  rw[List.length_map] at this
  exact Kv this
 have e0:=ln [] _ _ _ rfl
 have e1:=ln [_] _ _ _ rfl
 have e2:=ln [_,_] _ _ _ rfl
 have e3:=ln [_,_,_] _ _ _ rfl
 have e4:=ln [_,_,_,_] _ _ _ rfl
 have e5:=ln [_,_,_,_,_] [] _ _ rfl
 unfold Cf
 rw[show A8 L a (sL "unit")=some (IZ h.name::Dx h) from e0,show A8 L (a+1) (sL "params")=_ from e1,show A8 L (a+2) (sL "places")=_ from e2,show A8 L (a+3) (sL "own")=_ from e3,show A8 L (a+4) (sL "room")=_ from e4,show A8 L (a+5) (sL "captures")=_ from e5]
 dsimp only[Option.bind]
 rw[if_neg (by rw[TP];exact Bool.noConfusion),Qs H]
 dsimp only
 rw[Kw fun x hx=>GZ (H.params x hx).1]
 dsimp only
 rw[Kw fun x z0=>Fq x]
 dsimp only
 rw[show Mg By [C0 h.self,C0 h.argp]=some (h.self,h.argp) from Z9 (Fq _) (Fq _)]
 dsimp only
 rw[show Mg Br [A9 h.lc,A9 h.cc]=some (h.lc,h.cc) from Z9 (CO _) (CO _)]
 dsimp only
 rw[Kw fun x z0=>VI x]
 show some (Hd.mk _ _ _ _ _ _ _ _ _ (decide (sL "strict" ∈Dx h)) (decide (sL "arguments" ∈Dx h)) _ _ _)=_
 rw[MF.1,MF.2];rfl
end
section
variable {L:List (List Nat)} {h:Hd} {a e k:Nat} {u:U} {A B:List (List Nat)}
theorem OA{c:Nat}{v:List Nat}{vs:List (List Nat)}:∀{ws:List (List Nat)},ws≠[]→AW [c] (ws++v::vs)=AW [c] ws++c::AW [c] (v::vs)
 |[],h=>absurd rfl h
 |[w],_=>by show w++[c]++AW [c] (v::vs)=_;rw[List.append_assoc];rfl
 |w::x::r,_=>by
  show w++[c]++AW [c] ((x::r)++v::vs)=(w++[c]++AW [c] (x::r))++_
  rw[OA (ws:=x::r) (fun e=>nomatch e),List.append_assoc,List.append_assoc,List.append_assoc]
noncomputable def J8(h:Hd)(op:Nat)(arg:Option Nat):List (List Nat):=match arg with
 |none=>[]
 |some a=>if Cg op=sL "k" ∨Cg op=sL "s" then(match h.consts[a]? with
  |some c=>[sL ";",EP c]
  |none=>[]) else[]
theorem HY(h:Hd)(op:Nat)(arg:Option Nat):(J8 h op arg=[]∧Cs h op arg=[])∨∃c∈h.consts,J8 h op arg=[sL ";",EP c]∧Cs h op arg=sL " ; "++EP c:=by
 unfold J8 Cs
 cases arg with
 |none=>exact .inl ⟨rfl,rfl⟩
 |some a=>
  dsimp only
  by_cases q:Cg op=sL "k" ∨Cg op=sL "s"
  ·rw[if_pos q,if_pos q]
   cases e:h.consts[a]? with
   |none=>exact .inl ⟨rfl,rfl⟩
   |some c=>exact .inr ⟨c,List.mem_of_getElem? e,rfl,rfl⟩
  ·rw[if_neg q,if_neg q];exact .inl ⟨rfl,rfl⟩
theorem JC{pc op:Nat}{arg:Option Nat}(e:h.code[pc]? =some (op,arg)):BI h pc=AW [32] (Ak h pc op arg++J8 h op arg):=by
 unfold BI
 rw[e]
 show AW [32] (Ak h pc op arg)++Cs h op arg=_
 rcases HY h op arg with⟨e1,e2⟩|⟨c,_,e1,e2⟩
 ·rw[e1,e2,List.append_nil,List.append_nil]
 ·rw[e1,e2,OA (ws:=Ak h pc op arg) (fun e=>nomatch e)]
  rfl
theorem Kx(H:Qa h){pc op:Nat}{arg:Option Nat}(e:h.code[pc]? =some (op,arg)):∀w∈Ak h pc op arg++J8 h op arg,JB w=true:=by
 intro w hw
 rcases List.mem_append.mp hw with hw|hw
 ·unfold Ak at hw
  rcases List.mem_append.mp hw with hw|hw
  ·rcases List.mem_cons.mp hw with rfl|hw
   ·exact CS _
   rcases List.mem_cons.mp hw with rfl|hw
   ·exact CS _
   rw[List.mem_singleton.mp hw]
   exact Z8 (H.code _ (List.mem_of_getElem? e)).1
  ·cases arg with
   |none=>cases hw
   |some n=>rw[List.mem_singleton.mp hw];exact CS _
 ·rcases HY h op arg with⟨e1,_⟩|⟨c,hc,e1,_⟩
  ·rw[e1] at hw;cases hw
  ·rw[e1] at hw
   rcases List.mem_cons.mp hw with rfl|hw
   ·decide+kernel
   ·rw[List.mem_singleton.mp hw];exact PK (H.consts c hc)
theorem Lk(n:Nat):A9 (n:Int)≠sL ";":=fun e=>by
 have h1:(59:Nat)∈A9 (n:Int):=by rw[e];decide+kernel
 have:=(Gp n).1 59 h1
 lia
theorem XY{pc op:Nat}{arg:Option Nat}(hop:op<85):sL ";" ∉Ak h pc op arg:=fun hw=>by
 have ho:∀op<85,Fi op≠sL ";":=by decide+kernel
 unfold Ak at hw
 rcases List.mem_append.mp hw with hw|hw
 ·rcases List.mem_cons.mp hw with q|hw
  ·exact Lk _ q.symm
  rcases List.mem_cons.mp hw with q|hw
  ·exact Lk _ q.symm
  exact ho _ hop (List.mem_singleton.mp hw).symm
 ·cases arg with
  |none=>cases hw
  |some n=>exact Lk _ (List.mem_singleton.mp hw).symm
theorem Qt{ws:List (List Nat)}{op:Nat}{arg:Option Nat}(hn:sL ";" ∉ws):CA (ws++J8 h op arg)=ws:=by
 unfold CA
 rcases HY h op arg with⟨e1,_⟩|⟨c,hc,e1,_⟩
 ·rw[e1,List.append_nil,if_neg hn]
 ·rw[e1,if_pos (List.mem_append_right _ (.head _)),List.idxOf_append,if_neg hn]
  show List.take (([sL ";",EP c].idxOf (sL ";"))+ws.length) _=_
  rw[List.idxOf_cons_self,Nat.zero_add,List.take_left]
theorem XZ(H:iw h){pc op l:Nat}{arg:Option Nat}(e:h.code[pc]? =some (op,arg))(e2:h.lines[pc]? =some l):Dz (Ak h pc op arg++J8 h op arg) pc=some ((op,arg),l):=by
 have hop:=(H.ok.code _ (List.mem_of_getElem? e)).1
 have ha:=H.args _ (List.mem_of_getElem? e)
 unfold Dz
 rw[Qt (XY hop)]
 have hl:h.lines.getD pc 0=l:=by rw[List.getD_eq_getElem?_getD,e2];rfl
 cases arg with
 |none=>
  show(if Br (A9 pc)=some pc∧0≤Ch (Fi op)∧Cg (Ch (Fi op)).toNat=[] then(Br (A9 (h.lines.getD pc 0))).map fun l=>(((Ch (Fi op)).toNat,none),l) else none)=_
  rw[CO,CO,PI hop,hl,if_pos ⟨rfl,Int.natCast_nonneg _,ha.mp rfl⟩];rfl
 |some n=>
  show(if Br (A9 pc)=some pc∧0≤Ch (Fi op)∧Cg (Ch (Fi op)).toNat≠[] then(match Br (A9 n),Br (A9 (h.lines.getD pc 0)) with
   |some c,some l=>some (((Ch (Fi op)).toNat,some c),l)
   |_,_=>none) else none)=_
  rw[CO,CO,CO,PI hop,hl,if_pos ⟨rfl,Int.natCast_nonneg _,fun z=>nomatch ha.mpr z⟩];rfl
theorem VL(n:Nat):Kt (A9 (n:Int))=true:=by unfold Kt;rw[Cz];exact decide_eq_true (Int.natCast_nonneg _)
end
section
variable {L:List (List Nat)} {h:Hd} {a e k:Nat} {u:U} {A B:List (List Nat)} {P:List Nat→Prop}
inductive Xn:U→Prop
 |mk {h:Hd} {us:List U}:iw h→(∀u∈us,Xn u)→Xn (.mk h us)
theorem cN(h:P (sL "end")):Qr P [sL "end"]:=⟨_,[],sL "end",[],rfl,by decide+kernel,h⟩
theorem U.lines_eq{h:Hd}{us:List U}:(U.mk h us).lines=Ep h++(h.consts.map J0++(h.handlers.map dE++((List.range h.code.length).map (BI h)++(Us.lines us++[sL "end"])))):=by
 show(((Ep h++_)++_)++_)++_++_=_
 simp only[List.append_assoc]
theorem OB(H:Qa h):WW (fun l r ws=>Ep h=l::r) (fun l r ws=>Ai l=sL "unit"::ws):=⟨_,_,_,rfl,CX (fun e=>nomatch e) (E9 H _ (.head _)).2⟩
theorem VM{us:List U}(G:∀u∈us,Xn u)(hu:P (sL "unit")):Us.lines us=[]∨Qr P (Us.lines us):=by
 cases us with
 |nil=>exact .inl rfl
 |cons u us=>
  cases G u (.head _) with
  |@mk hh us' H _=>
   obtain⟨l,r,ws,e1,e2⟩:=OB H.ok
   obtain⟨r',e'⟩:∃r',(U.mk hh us').lines=l::r':=⟨_,by rw[U.lines_eq,e1];rfl⟩
   exact .inr ⟨l,r'++Us.lines us,_,ws,by show U.lines _++Us.lines us=_;rw[e'];rfl,e2,hu⟩
theorem TQ(H:Qa h)(hn:∀n:Nat,P (A9 n)):(List.range h.code.length).map (BI h)=[]∨Qr P ((List.range h.code.length).map (BI h)):=Qr.map fun pc hpc=>by
 have hlt:=List.mem_range.mp hpc
 have e:h.code[pc]? =some ((h.code[pc]).1,(h.code[pc]).2):=List.getElem?_eq_getElem hlt
 rw[JC e,CX (ws:=Ak h pc _ _++J8 h _ _) (fun e=>nomatch e) (Kx H e)]
 exact⟨_,_,rfl,hn pc⟩
theorem aA(x:Nat×Nat×Nat×Nat×Bool):∀w∈sL "handler"::Xm x,JB w=true:=by
 intro w hw
 unfold Xm at hw
 rcases List.mem_cons.mp hw with rfl|hw
 ·decide+kernel
 rcases List.mem_cons.mp hw with rfl|hw
 ·exact CS _
 rcases List.mem_cons.mp hw with rfl|hw
 ·exact CS _
 rcases List.mem_cons.mp hw with rfl|hw
 ·exact CS _
 rcases List.mem_cons.mp hw with rfl|hw
 ·exact CS _
 rw[List.mem_singleton.mp hw]
 have:∀b:Bool,JB (if b then sL "finally" else sL "catch")=true:=by decide+kernel
 exact this _
theorem Ll(x:Nat×Nat×Nat×Nat×Bool):Ai (dE x)=sL "handler"::Xm x:=CX (fun e=>nomatch e) (aA x)
theorem PM{c:List Nat ⊕ Nat}(h:aj c):∀w∈[sL "const",EP c],JB w=true:=by
 intro w hw
 rcases List.mem_cons.mp hw with rfl|hw
 ·decide+kernel
 ·rw[List.mem_singleton.mp hw];exact PK h
theorem Ky{c:List Nat ⊕ Nat}(h:aj c):Ai (J0 c)=[sL "const",EP c]:=CX (fun e=>nomatch e) (PM h)
theorem aB{s w:List Nat}(h:w≠s):PG s w=false:=decide_eq_false h
theorem Qu{s:List Nat}{c:Nat}(h:s.head? =some c)(hc:58≤c)(n:Nat):A9 (n:Int)≠s:=by
 obtain⟨d,r,e,_,h2⟩:=N6 n
 exact JA (by rw[e];rfl) h (by lia)
theorem TR:∀(k:Nat) {u:U} {a:Nat},u.dep≤k→Xn u→Q6 L a u.lines→J4 L k a=some (u,a+u.lines.length)
 |0,.mk h us,a,hd,_,_=>absurd hd (Nat.not_succ_le_zero _)
 |k+1,.mk h us,a,hd,.mk H G,l=>by
  rw[U.lines_eq] at l ⊢
  have hdep:Us.dep us≤k:=Nat.le_of_succ_le_succ hd
  have n1:PG (sL "const") (sL "handler")=false∧PG (sL "const") (sL "unit")=false∧PG (sL "const") (sL "end")=false∧PG (sL "handler") (sL "unit")=false∧PG (sL "handler") (sL "end")=false∧Kt (sL "unit")=false∧Kt (sL "end")=false∧PG (sL "unit") (sL "end")=false:=by decide+kernel
  obtain⟨c1,c2,c3,h1,h2,r1,r2,u1⟩:=n1
  have hE:∀{P:List Nat→Prop},P (sL "end")→Qr P [sL "end"]:=cN
  have hh:=VK H.ok l.left
  have l1:=l.right
  have p1:=Pr.print (L:=L) (t:=PG (sL "const")) (s:=GK L) (f:=fun z0 x=>[J0 x]) (B:=h.handlers.map dE++((List.range h.code.length).map (BI h)++(Us.lines us++[sL "end"])))
   (Qr.app (Qr.map fun x z0=>⟨_,_,Ll x,c1⟩) (Qr.app (TQ H.ok fun n=>aB (Qu (c:=99) (by kernel_rfl) (by decide) n)) (Qr.app (VM G c2) (hE c3)))) h.consts (a+6) 0 (by rw[Gu];exact l1) (fun j x a' e l=>by
    have e1:=l.line (Ky (H.ok.consts x (List.mem_of_getElem? e)))
    refine⟨⟨_,_,e1,by decide+kernel⟩,?_⟩
    unfold GK
    rw[Kv e1]
    show(DG [EP x]).map _=_
    rw[Ol (H.ok.consts x (List.mem_of_getElem? e))];rfl)
  rw[Gu] at p1
  have l2:=l1.right
  have p2:=Pr.print (L:=L) (t:=PG (sL "handler")) (s:=ME L) (f:=fun z0 x=>[dE x]) (B:=(List.range h.code.length).map (BI h)++(Us.lines us++[sL "end"]))
   (Qr.app (TQ H.ok fun n=>aB (Qu (c:=104) (by kernel_rfl) (by decide) n)) (Qr.app (VM G h1) (hE h2))) h.handlers _ 0 (by rw[Gu];exact l2) (fun j x a' e l=>by
    have e1:=l.line (Ll x)
    refine⟨⟨_,_,e1,by decide+kernel⟩,?_⟩
    unfold ME
    rw[Kv e1]
    show(Ie (Xm x)).map _=_
    rw[XW];rfl)
  rw[Gu] at p2
  have l3:=l2.right
  have hz:(h.code.zip h.lines).length=h.code.length:=by rw[List.length_zip,←H.rows,Nat.min_self]
  have p3:=Pr.print (L:=L) (t:=Kt) (s:=JN L) (f:=fun c z0=>[BI h c]) (B:=Us.lines us++[sL "end"])
   (Qr.app (VM G r1) (hE r2)) (h.code.zip h.lines) _ 0 (by rw[Lj,hz,←List.range_eq_range'];exact l3) (fun j x a' e l=>by
    obtain⟨⟨op,arg⟩,ln⟩:=x
    obtain⟨e2,e3⟩:=List.getElem?_zip_eq_some.mp e
    rw[Nat.zero_add] at l ⊢
    have e1:=l.line (ws:=Ak h j op arg++J8 h op arg) (by rw[JC e2];exact CX (fun e=>nomatch e) (Kx H.ok e2))
    refine⟨⟨_,_,e1,VL _⟩,?_⟩
    unfold JN
    rw[e1]
    show(Dz (Ak h j op arg++J8 h op arg) j).map _=_
    rw[XZ H e2 e3];rfl)
  rw[Lj,hz,←List.range_eq_range'] at p3
  have l4:=l3.right
  have p4:=Pr.print (L:=L) (t:=PG (sL "unit")) (s:=fun a z0=>J4 L k a) (f:=fun z0 x=>x.lines) (B:=[sL "end"])
   (hE u1) us _ 0 (by rw[N9];exact l4) (fun j x a' e l=>by
    have hm:=List.mem_of_getElem? e
    have l:Q6 L a' x.lines:=l
    refine⟨?_,TR k (Nat.le_trans (Zn x hm) hdep) (G x hm) l⟩
    cases G x hm with
    |mk H' _=>
     obtain⟨y,r,ws,e1,e2⟩:=OB H'.ok
     rw[U.lines_eq,e1] at l
     exact⟨_,ws,Q6.line (r:=_++_) l e2,by decide+kernel⟩)
  rw[N9] at p4
  have l5:=l4.right
  have e5:=l5.line (ws:=[sL "end"]) (by decide+kernel)
  have:=al.to (.mk hh p1 p2 p3 p4 (by unfold GJ;rw[e5];exact if_pos rfl))
  rw[List.map_fst_zip (by rw[H.rows];exact Nat.le_refl _),List.map_snd_zip (by rw[H.rows];exact Nat.le_refl _)] at this
  rw[this]
  simp only[List.length_append]
  show some (_,_)=some (_,_)
  congr 2
  have h6:(Ep h).length=6:=rfl
  have h7:[sL "end"].length=1:=rfl
  lia
theorem OC{u:U}(k:Nat)(hd:u.dep≤k)(G:Xn u):J4 u.lines k 0=some (u,u.lines.length):=by
 have:=TR (L:=u.lines) (a:=0) k hd G (by unfold Q6;exact List.prefix_refl _)
 rw[Nat.zero_add] at this;exact this
end
noncomputable def WL(T:Nat)(l:List Nat):Prop:=(∀c∈l,c<65536)∧l.length≤T
noncomputable def fw(T M:Nat):List Nat ⊕ Nat→Prop
 |.inl l=>WL T l
 |.inr n=>n<M
noncomputable def Xa(M:Nat):Pl→Prop
 |none=>True
 |some (_,n)=>n<M
structure fx(T M:Nat)(h:Hd):Prop where
 name:∀l,h.name=some l→WL T l
 params:∀l∈h.params,WL T l
 consts:∀c∈h.consts,fw T M c
 code:∀c∈h.code,c.1<85∧(c.2=none↔Cg c.1=[])∧∀a,c.2=some a→a<M
 handlers:∀x∈h.handlers,x.1<M∧x.2.1<M∧x.2.2.1<M∧x.2.2.2.1<M
 lines:∀n∈h.lines,n<M
 rows:h.code.length=h.lines.length
 lc:h.lc<M
 cc:h.cc<M
 caps:∀x∈h.caps,x.2<M
 self:Xa M h.self
 argp:Xa M h.argp
 places:∀p∈h.places,Xa M p
 len1:h.params.length≤7
 len2:h.places.length≤7
 len3:h.caps.length≤7
 len4:h.consts.length≤1000
 len5:h.code.length≤1000
 len6:h.handlers.length≤1000
inductive dJ(T M:Nat):U→Prop
 |mk {h:Hd} {us:List U}:fx T M h→(∀u∈us,dJ T M u)→dJ T M (.mk h us)
structure Lm(T M W:Nat):Prop where
 t:6*T+2≤W
 m:∀n:Nat,n<M→(A9 n).length+7≤W
 w:20≤W
 t0:T≤10000
 m0:M≤2^100
inductive Bl(W:Nat):List Nat→Prop
 |mk {ws:List (List Nat)}:ws≠[]→ws.length≤8→(∀w∈ws,JB w=true∧w.length≤W)→Bl W (AW [32] ws)
theorem Ln{n d:Nat}(h:n<10^d)(hd:0<d):(A9 (n:Int)).length≤d:=by
 rw[Go,List.length_map]
 exact(Nat.length_toDigits_le_iff (by decide) hd).mpr h
theorem J9:Lm 3 (2^64) 30:=⟨by decide,fun n h=>by have:=Ln (n:=n) (d:=20) (Nat.lt_trans h (by decide)) (by decide);lia,by decide,by decide,by decide⟩
theorem PN:Lm 30 (2^100) 182:=⟨by decide,fun n h=>by have:=Ln (n:=n) (d:=31) (Nat.lt_trans h (by decide)) (by decide);lia,by decide,by decide,by decide⟩
section
variable {T M W:Nat} {h:Hd} {u:U}
theorem fx.ok(F:Lm T M W)(H:fx T M h):iw h:=by
 have tx:∀{l},WL T l→Ft l:=fun h=>⟨h.1,Nat.le_trans h.2 F.t0⟩
 have nm:∀{n},n<M→B7 n:=fun h=>Nat.lt_of_lt_of_le h F.m0
 have pl:∀{p},Xa M p→Jv p:=fun{p} h=>by
  cases p with
  |none=>trivial
  |some q=>exact nm h
 exact⟨⟨fun l e=>tx (H.name l e),fun l e=>tx (H.params l e),fun c e=>by
   have:=H.consts c e
   cases c with
   |inl l=>exact tx this
   |inr n=>exact nm this,fun c e=>⟨(H.code c e).1,fun a q=>nm ((H.code c e).2.2 a q)⟩,fun x e=>by
   have:=H.handlers x e
   exact⟨nm this.1,nm this.2.1,nm this.2.2.1,nm this.2.2.2⟩,fun n e=>nm (H.lines n e),⟨nm H.lc,nm H.cc⟩,fun x e=>nm (H.caps x e),⟨pl H.self,pl H.argp,fun p e=>pl (H.places p e)⟩,
   by have:=H.len1;lia,H.len4,H.len5,by rw[←H.rows];exact H.len5,by have:=H.len3;lia,by have:=H.len2;lia,H.len6⟩,H.rows,fun c e=>(H.code c e).2.1⟩
theorem dJ.ok(F:Lm T M W)(G:dJ T M u):Xn u:=by
 induction G with
 |mk H _ ih=>exact .mk (H.ok F) ih
theorem Xn.ok{u:U}(G:Xn u):iP u:=by
 induction G with
 |@mk h us H G ih=>
  refine⟨H.ok,?_⟩
  clear G
  induction us with
  |nil=>trivial
  |cons u us ih2=>exact⟨ih u (.head _),ih2 fun v hv=>ih v (.tail _ hv)⟩
theorem OD(F:Lm T M W){l:List Nat}(h:WL T l):(DI l).length≤W:=by
 have:=I4 (l:=l)
 have:=h.2
 have:=F.t
 lia
theorem E0(F:Lm T M W){n:Nat}(h:n<M):(A9 (n:Int)).length≤W:=by have:=F.m n h;lia
theorem Lo(F:Lm T M W){p:Pl}(h:Xa M p):(C0 p).length≤W:=by
 have hk:∀b:Bool,(Cx b).length≤5:=by decide+kernel
 cases p with
 |none=>exact Nat.le_trans (show(sL "none").length≤20 by decide+kernel) F.w
 |some q=>
  obtain⟨b,n⟩:=q
  show(Cx b++A9 n).length≤W
  rw[List.length_append]
  have:=F.m n h
  have:=hk b
  lia
theorem cO(F:Lm T M W){p:Bool×Nat}(h:p.2<M):(Oi p).length≤W:=by
 have hk:∀b:Bool,(if b then sL "frame" else sL "closure").length≤7:=by decide+kernel
 show((if p.1 then sL "frame" else sL "closure")++A9 p.2).length≤W
 rw[List.length_append]
 have:=F.m _ h
 have:=hk p.1
 lia
theorem CT(F:Lm T M W){w:List Nat}(h:Nat.ble w.length 20=true):w.length≤W:=Nat.le_trans (Nat.le_of_ble_eq_true h) F.w
theorem all_cons{P:List Nat→Prop}{x:List Nat}{xs:List (List Nat)}(h:P x)(h':∀w∈xs,P w):∀w∈x::xs,P w:=fun w hw=>by
 rcases List.mem_cons.mp hw with rfl|hw
 ·exact h
 ·exact h' w hw
theorem EC{P:List Nat→Prop}:∀w∈([]:List (List Nat)),P w:=fun z0 h=>nomatch h
theorem all_map{α:Type}{P:List Nat→Prop}{f:α→List Nat}{xs:List α}(h:∀x∈xs,P (f x)):∀w∈xs.map f,P w:=fun w hw=>by
 obtain⟨x,hx,rfl⟩:=List.mem_map.mp hw
 exact h x hx
theorem aD(F:Lm T M W)(H:fx T M h):∀ws∈Ia h,ws.length≤8∧∀w∈ws,w.length≤W:=by
 have hf:∀w∈Dx h,w.length≤W:=fun w hw=>by
  have:∀a b:Bool,∀w∈(if a then[sL "strict"] else[])++(if b then[sL "arguments"] else[]),Nat.ble w.length 20=true:=by decide+kernel
  exact CT F (this _ _ w hw)
 have hn:(IZ h.name).length≤W:=by
  cases e:h.name with
  |none=>exact CT F rfl
  |some l=>exact OD F (H.name l e)
 have hfl:(Dx h).length≤2:=by
  have:∀a b:Bool,((if a then[sL "strict"] else[])++(if b then[sL "arguments"] else[])).length≤2:=by decide
  exact this _ _
 intro ws hws
 unfold Ia at hws
 rcases List.mem_cons.mp hws with rfl|hws
 ·exact⟨by show(Dx h).length+1+1≤8;lia,all_cons (P:=fun w=>w.length≤W) (CT F rfl) (all_cons (P:=fun w=>w.length≤W) hn hf)⟩
 rcases List.mem_cons.mp hws with rfl|hws
 ·exact⟨by rw[List.length_cons,List.length_map];exact Nat.succ_le_succ H.len1,all_cons (P:=fun w=>w.length≤W) (CT F rfl) (all_map fun x hx=>OD F (H.params x hx))⟩
 rcases List.mem_cons.mp hws with rfl|hws
 ·exact⟨by rw[List.length_cons,List.length_map];exact Nat.succ_le_succ H.len2,all_cons (P:=fun w=>w.length≤W) (CT F rfl) (all_map fun x hx=>Lo F (H.places x hx))⟩
 rcases List.mem_cons.mp hws with rfl|hws
 ·exact⟨Nat.le_of_ble_eq_true rfl,all_cons (P:=fun w=>w.length≤W) (CT F rfl) (all_cons (P:=fun w=>w.length≤W) (Lo F H.self) (all_cons (P:=fun w=>w.length≤W) (Lo F H.argp) EC))⟩
 rcases List.mem_cons.mp hws with rfl|hws
 ·exact⟨Nat.le_of_ble_eq_true rfl,all_cons (P:=fun w=>w.length≤W) (CT F rfl) (all_cons (P:=fun w=>w.length≤W) (E0 F H.lc) (all_cons (P:=fun w=>w.length≤W) (E0 F H.cc) EC))⟩
 rw[List.mem_singleton.mp hws]
 exact⟨by rw[List.length_cons,List.length_map];exact Nat.succ_le_succ H.len3,all_cons (P:=fun w=>w.length≤W) (CT F rfl) (all_map fun x hx=>cO F (H.caps x hx))⟩
theorem TS(F:Lm T M W):∀{c:List Nat ⊕ Nat},fw T M c→(EP c).length≤W
 |.inl _,h=>OD F h
 |.inr _,h=>E0 F h
theorem Bl.of{ws:List (List Nat)}(h0:ws≠[])(h1:∀w∈ws,JB w=true)(h:ws.length≤8∧∀w∈ws,w.length≤W):Bl W (AW [32] ws):=.mk h0 h.1 fun w hw=>⟨h1 w hw,h.2 w hw⟩
theorem Qv(F:Lm T M W)(H:fx T M h){pc op:Nat}{arg:Option Nat}(e:h.code[pc]? =some (op,arg)):(Ak h pc op arg++J8 h op arg).length≤8∧∀w∈Ak h pc op arg++J8 h op arg,w.length≤W:=by
 have hm:=H.code _ (List.mem_of_getElem? e)
 have hpc:pc<10^4:=by have:=(List.getElem?_eq_some_iff.mp e).1;have:=H.len5;lia
 have hp:=Ln hpc (by decide)
 have hw:=F.w
 have ho:∀op<85,Nat.ble (Fi op).length 20=true:=by decide+kernel
 have h0:h.lines.getD pc 0<M:=by
  have hl:pc<h.lines.length:=by rw[←H.rows];exact(List.getElem?_eq_some_iff.mp e).1
  rw[List.getD_eq_getElem?_getD,List.getElem?_eq_getElem hl]
  exact H.lines _ (List.getElem_mem hl)
 have h1:(Zl arg).length≤1∧∀w∈Zl arg,w.length≤W:=by
  cases arg with
  |none=>exact⟨Nat.zero_le _,EC⟩
  |some n=>exact⟨Nat.le_refl _,all_cons (P:=fun w=>w.length≤W) (E0 F (hm.2.2 n rfl)) EC⟩
 have h2:(J8 h op arg).length≤2∧∀w∈J8 h op arg,w.length≤W:=by
  rcases HY h op arg with⟨e1,_⟩|⟨c,hc,e1,_⟩
  ·rw[e1];exact⟨by decide,EC⟩
  ·rw[e1];exact⟨Nat.le_refl _,all_cons (P:=fun w=>w.length≤W) (CT F rfl) (all_cons (P:=fun w=>w.length≤W) (TS F (H.consts c hc)) EC)⟩
 refine⟨by rw[List.length_append];have:(Ak h pc op arg).length=(Zl arg).length+3:=rfl;lia,fun w hw=>?_⟩
 rcases List.mem_append.mp hw with hw|hw
 ·exact all_cons (P:=fun w=>w.length≤W) (by lia) (all_cons (P:=fun w=>w.length≤W) (E0 F h0) (all_cons (P:=fun w=>w.length≤W) (CT F (ho op hm.1)) h1.2)) w hw
 ·exact h2.2 w hw
theorem OE(F:Lm T M W)(G:dJ T M u):∀l∈u.lines,Bl W l:=by
 induction G with
 |@mk h us H G ih=>
  have O:=H.ok F
  intro l hl
  rw[U.lines_eq] at hl
  rcases List.mem_append.mp hl with hl|hl
  ·obtain⟨ws,hw,rfl⟩:=List.mem_map.mp hl
   exact .of (E9 O.ok ws hw).1 (E9 O.ok ws hw).2 (aD F H ws hw)
  rcases List.mem_append.mp hl with hl|hl
  ·obtain⟨c,hc,rfl⟩:=List.mem_map.mp hl
   exact .of (fun e=>nomatch e) (PM (O.ok.consts c hc)) ⟨Nat.le_of_ble_eq_true rfl,all_cons (P:=fun w=>w.length≤W) (CT F rfl) (all_cons (P:=fun w=>w.length≤W) (TS F (H.consts c hc)) EC)⟩
  rcases List.mem_append.mp hl with hl|hl
  ·obtain⟨x,hx,rfl⟩:=List.mem_map.mp hl
   have:=H.handlers x hx
   have hb:∀b:Bool,Nat.ble (if b then sL "finally" else sL "catch").length 20=true:=by decide+kernel
   exact .of (fun e=>nomatch e) (aA x) ⟨Nat.le_of_ble_eq_true rfl,all_cons (P:=fun w=>w.length≤W) (CT F rfl) (all_cons (P:=fun w=>w.length≤W) (E0 F this.1) (all_cons (P:=fun w=>w.length≤W) (E0 F this.2.1) (all_cons (P:=fun w=>w.length≤W) (E0 F this.2.2.1) (all_cons (P:=fun w=>w.length≤W) (E0 F this.2.2.2) (all_cons (P:=fun w=>w.length≤W) (CT F (hb _)) EC)))))⟩
  rcases List.mem_append.mp hl with hl|hl
  ·obtain⟨pc,hpc,rfl⟩:=List.mem_map.mp hl
   have hlt:=List.mem_range.mp hpc
   have e:h.code[pc]? =some ((h.code[pc]).1,(h.code[pc]).2):=List.getElem?_eq_getElem hlt
   rw[JC e]
   exact .of (fun e=>nomatch (List.append_eq_nil_iff.mp e).1) (Kx O.ok e) (Qv F H e)
  rcases List.mem_append.mp hl with hl|hl
  ·rw[Qe] at hl
   obtain⟨v,hv,hl⟩:=List.mem_flatMap.mp hl
   exact ih v hv l hl
  ·rw[List.mem_singleton.mp hl]
   exact .of (ws:=[sL "end"]) (fun e=>nomatch e) (all_cons (P:=fun w=>JB w=true) (by decide+kernel) EC) ⟨Nat.le_of_ble_eq_true rfl,all_cons (P:=fun w=>w.length≤W) (CT F rfl) EC⟩
end
section
variable {L:List (List Nat)} {h:Hd} {a e k:Nat} {u:U}
noncomputable def wk(w:List Nat):Prop:=JB w=true∧w.length≤30
theorem Bl.words{W:Nat}{l:List Nat}(h:Bl W l):(Ai l).length≤8∧∀w∈Ai l,JB w=true∧w.length≤W:=by
 cases h with
 |mk h0 h1 h2=>rw[CX h0 fun w hw=>(h2 w hw).1];exact⟨h1,h2⟩
theorem TT(HL:∀l∈L,Bl 30 l){ws:List (List Nat)}(q:BW L a=some ws):ws.length≤8∧∀w∈ws,wk w:=by
 unfold BW at q
 obtain⟨l,hl,rfl⟩:=Option.map_eq_some_iff.mp q
 exact(HL l (List.mem_of_getElem? hl)).words
theorem Im(HL:∀l∈L,Bl 30 l){w:List Nat}{ws:List (List Nat)}(q:A8 L a w=some ws):ws.length≤7∧∀w∈ws,wk w:=by
 have:=TT HL (Ik q)
 exact⟨Nat.le_of_succ_le_succ this.1,fun w hw=>this.2 w (.tail _ hw)⟩
set_option tactic.hygienic true in
theorem Qw:∀(n:Nat) (r l:List Nat),(∀c∈r,c<65536)→Of n r=some l→WL r.length l
 |0,r,l,_,q=>by cases q;exact⟨fun c h=>(nomatch h),Nat.zero_le _⟩
 |n+1,[],l,_,q=>by cases q;exact⟨fun c h=>(nomatch h),Nat.zero_le _⟩
 |n+1,c::r,l,hr,q=>by
  unfold Of at q
  split at q
  ·split at q
   ·cases q
   ·rename_i hb
    obtain⟨m,hm,rfl⟩:=Option.map_eq_some_iff.mp q
    have ih:=Qw n _ m (fun x hx=>hr x (.tail _ (List.mem_of_mem_drop hx))) hm
    refine⟨fun x hx=>?_,?_⟩
    ·rcases List.mem_cons.mp hx with rfl|hx
     ·have h1:Fh r<65536:=O9
      lia
     ·exact ih.1 x hx
    ·have:=ih.2
     rw[List.length_drop] at this
     rw[List.length_cons,List.length_cons];lia
  ·split at q
   ·cases q
   ·obtain⟨m,hm,rfl⟩:=Option.map_eq_some_iff.mp q
    have ih:=Qw n _ m (fun x hx=>hr x (.tail _ hx)) hm
    refine⟨fun x hx=>?_,Nat.succ_le_succ ih.2⟩
    rcases List.mem_cons.mp hx with rfl|hx
    ·exact hr _ (.head _)
    ·exact ih.1 x hx
theorem KA{w l:List Nat}(hw:wk w)(q:Be w=some l):WL 30 l:=by
 unfold Be at q
 split at q
 ·cases q
 ·have:=Qw _ _ l (fun c hc=>by
   have:=My hw.1 (List.mem_of_mem_drop (List.mem_of_mem_take hc))
   lia) q
  refine⟨this.1,Nat.le_trans this.2 ?_⟩
  rw[List.length_take,List.length_drop]
  exact Nat.le_trans (Nat.min_le_left ..) (Nat.le_trans (Nat.sub_le ..) hw.2)
theorem OF:∀(w:List Nat) (n:Int) (m:Nat),(∀c∈w,c<58)→n+1≤m→HP w n+1≤(m*10^w.length:Nat)
 |[],n,m,_,h=>by show n+1≤((m*1:Nat):Int);lia
 |c::w,n,m,hc,h=>by
  have:=OF w (n*10+c-48) (m*10) (fun x hx=>hc x (.tail _ hx)) (by have:=hc c (.head _);lia)
  rw[List.length_cons,Nat.pow_succ,Nat.mul_comm (10^w.length),←Nat.mul_assoc]
  exact this
set_option tactic.hygienic true in
theorem ED{w:List Nat}{n:Nat}(hw:w.length≤30)(q:Br w=some n):n<2^100:=by
 unfold Br at q
 split at q
 ·rename_i h0
  cases q
  unfold AX at h0 ⊢
  split at h0
  ·rename_i hp
   rw[if_pos hp]
   unfold I0 at hp
   rw[Bool.not_eq_true',Bool.or_eq_false_iff,Bool.or_eq_false_iff,Bool.not_eq_false'] at hp
   have hd:∀c∈w,c<58:=fun c hc=>by
    have h1:=of_decide_eq_true (List.all_eq_true.mp hp.2.1 c hc)
    have h2:∀c∈XG,c<58:=by decide+kernel
    exact h2 c h1
   have h1:U3 w+1≤(1*10^w.length:Nat):=OF w 0 1 hd (by decide)
   have h2:10^w.length≤10^30:=Nat.pow_le_pow_right (by decide) hw
   have h3:10^30<2^100:=by decide
   rw[Nat.one_mul] at h1
   lia
  ·cases h0
 ·cases q
theorem Qx{w:List Nat}(hw:w.length≤30)(q:0≤AX w):(AX w).toNat<2^100:=ED hw (by unfold Br;rw[if_pos q])
set_option tactic.hygienic true in
theorem OG{w:List Nat}{p:Pl}(hw:w.length≤30)(q:By w=some p):Xa (2^100) p:=by
 have hd:∀n,(w.drop n).length≤30:=fun n=>by rw[List.length_drop];lia
 unfold By at q
 split at q
 ·cases q;trivial
 split at q
 ·rename_i h
  cases q
  exact Qx (hd 5) (of_decide_eq_true (Bool.and_eq_true_iff.mp h).2)
 split at q
 ·rename_i h
  cases q
  exact Qx (hd 4) (of_decide_eq_true (Bool.and_eq_true_iff.mp h).2)
 ·cases q
set_option tactic.hygienic true in
theorem aE{w:List Nat}{p:Bool×Nat}(hw:w.length≤30)(q:Er w=some p):p.2<2^100:=by
 have hd:∀n,(w.drop n).length≤30:=fun n=>by rw[List.length_drop];lia
 unfold Er at q
 split at q
 ·split at q
  ·rename_i h;cases q;exact Qx (hd 5) h
  ·cases q
 split at q
 ·split at q
  ·rename_i h;cases q;exact Qx (hd 7) h
  ·cases q
 ·cases q
set_option tactic.hygienic true in
theorem Kz{β:Type}{o:List Nat→Option β}{P:β→Prop}:∀{xs:List (List Nat)} {ys:List β},Df o xs=some ys→(∀x∈xs,∀y,o x=some y→P y)→(∀y∈ys,P y)∧ys.length=xs.length
 |[],ys,q,_=>by cases q;exact⟨fun y h=>(nomatch h),rfl⟩
 |x::xs,ys,q,H=>by
  unfold Df at q
  split at q
  ·rename_i y e
   obtain⟨zs,hz,rfl⟩:=Option.map_eq_some_iff.mp q
   have ih:=Kz hz fun z hz=>H z (.tail _ hz)
   refine⟨fun z h=>?_,by rw[List.length_cons,List.length_cons,ih.2]⟩
   rcases List.mem_cons.mp h with rfl|h
   ·exact H x (.head _) _ e
   ·exact ih.1 z h
  ·cases q
set_option tactic.hygienic true in
theorem WM{β:Type}{o:List Nat→Option β}{P:β→Prop}{xs:List (List Nat)}{y:β×β}(q:Mg o xs=some y)(H:∀x∈xs,∀y,o x=some y→P y):P y.1∧P y.2:=by
 unfold Mg at q
 split at q
 ·split at q
  ·rename_i e
   obtain⟨v,hv,rfl⟩:=Option.map_eq_some_iff.mp q
   exact⟨H _ (.head _) _ e,H _ (.tail _ (.head _)) _ hv⟩
  ·cases q
 ·cases q
set_option tactic.hygienic true in
theorem VN{ws:List (List Nat)}{c:List Nat ⊕ Nat}(hw:∀w∈ws,wk w)(q:DG ws=some c):fw 30 (2^100) c:=by
 unfold DG at q
 split at q
 ·rename_i w
  split at q
  ·obtain⟨l,hl,rfl⟩:=Option.map_eq_some_iff.mp q
   exact KA (hw _ (.head _)) hl
  ·obtain⟨l,hl,rfl⟩:=Option.map_eq_some_iff.mp q
   exact ED (hw _ (.head _)).2 hl
 ·cases q
set_option tactic.hygienic true in
theorem aF{ws:List (List Nat)}{x:Nat×Nat×Nat×Nat×Bool}(hw:∀w∈ws,wk w)(q:Ie ws=some x):x.1<2^100∧x.2.1<2^100∧x.2.2.1<2^100∧x.2.2.2.1<2^100:=by
 unfold Ie at q
 split at q
 ·split at q
  ·split at q
   ·rename_i e1 e2 e3 e4
    cases q
    exact⟨ED (hw _ (.head _)).2 e1,ED (hw _ (.tail _ (.head _))).2 e2,ED (hw _ (.tail _ (.tail _ (.head _)))).2 e3,ED (hw _ (.tail _ (.tail _ (.tail _ (.head _))))).2 e4⟩
   ·cases q
  ·cases q
 ·cases q
end
section
variable {L:List (List Nat)} {h:Hd} {a e k:Nat} {u:U}
set_option tactic.hygienic true in
theorem aG{ws:List (List Nat)}{c:Nat}{x:(Nat×Option Nat)×Nat}(hw:∀w∈ws,wk w)(q:Dz ws c=some x):x.1.1<85∧(x.1.2=none↔Cg x.1.1=[])∧(∀a,x.1.2=some a→a<2^100)∧x.2<2^100:=by
 have hr:∀w∈CA ws,wk w:=fun w hm=>by
  unfold CA at hm
  split at hm
  ·exact hw w (List.mem_of_mem_take hm)
  ·exact hw w hm
 unfold Dz at q
 split at q
 ·rename_i p r s e
  rw[e] at hr
  split at q
  ·rename_i hc
   obtain⟨n,hn,hl⟩:=Qk hc.2.1
   obtain⟨l,q1,rfl⟩:=Option.map_eq_some_iff.mp q
   refine⟨by show(Ch s).toNat<85;lia,⟨fun z0=>hc.2.2,fun z0=>rfl⟩,(fun a z=>nomatch z),ED (hr _ (.tail _ (.head _))).2 q1⟩
  ·cases q
 ·rename_i p r s t e
  rw[e] at hr
  split at q
  ·rename_i hc
   obtain⟨n,hn,hl⟩:=Qk hc.2.1
   split at q
   ·rename_i q1 q2
    cases q
    refine⟨by show(Ch s).toNat<85;lia,⟨(fun z=>nomatch z),fun z=>absurd z hc.2.2⟩,fun a z=>by cases z;exact ED (hr _ (.tail _ (.tail _ (.tail _ (.head _))))).2 q1,ED (hr _ (.tail _ (.head _))).2 q2⟩
   ·cases q
  ·cases q
 ·cases q
theorem Pr.all{α:Type}{t:List Nat→Bool}{s:Nat→Nat→Option (α×Nat)}{P:α→Prop}(H:∀a c x e,s a c=some (x,e)→P x){a c:Nat}{xs:List α}{e:Nat}(h:Pr L t s a c xs e):∀x∈xs,P x:=by
 induction h with
 |done=>exact fun x h=>nomatch h
 |item h1 h2 h3 h4 ih=>
  intro x hx
  rcases List.mem_cons.mp hx with rfl|hx
  ·exact H _ _ _ _ h3
  ·exact ih x hx
theorem Pr.one{α:Type}{t:List Nat→Bool}{s:Nat→Nat→Option (α×Nat)}(H:∀a c x e,s a c=some (x,e)→e=a+1){a c:Nat}{xs:List α}{e:Nat}(h:Pr L t s a c xs e):e=a+xs.length:=by
 induction h with
 |done=>rfl
 |item h1 h2 h3 h4 ih=>have:=H _ _ _ _ h3;rw[List.length_cons];lia
theorem Pr.far{α:Type}{t:List Nat→Bool}{s:Nat→Nat→Option (α×Nat)}{f:α→Nat}(H:∀a c x e,s a c=some (x,e)→e=a+f x){a c:Nat}{xs:List α}{e:Nat}(h:Pr L t s a c xs e):e=a+(xs.map f).sum:=by
 induction h with
 |done=>rfl
 |item h1 h2 h3 h4 ih=>have:=H _ _ _ _ h3;rw[List.map_cons,List.sum_cons];lia
set_option tactic.hygienic true in
theorem Xb(HL:∀l∈L,Bl 30 l)(q:Cf L a=some h){cs:List (List Nat ⊕ Nat)}{hs:List (Nat×Nat×Nat×Nat×Bool)}{co:List (Nat×Option Nat)}{ls:List Nat}
  (h1:∀c∈cs,fw 30 (2^100) c)(h2:∀x∈hs,x.1<2^100∧x.2.1<2^100∧x.2.2.1<2^100∧x.2.2.2.1<2^100)(h3:∀c∈co,c.1<85∧(c.2=none↔Cg c.1=[])∧∀a,c.2=some a→a<2^100)(h4:∀n∈ls,n<2^100)(h5:co.length=ls.length)
  (l1:cs.length≤1000)(l2:co.length≤1000)(l3:hs.length≤1000):fx 30 (2^100) {h with consts:=cs,handlers:=hs,code:=co,lines:=ls}:=by
 have rw':∀{β:Type} {a:Nat} {w:List Nat} {g:List (List Nat)→Option β} {y:β},(A8 L a w).bind g=some y→EU (fun ws=>g ws=some y) (fun ws=>ws.length≤7) (fun ws=>∀w∈ws,wk w):=fun q=>by
  obtain⟨ws,e1,e2⟩:=Option.bind_eq_some_iff.mp q
  exact⟨ws,e2,(Im HL e1).1,(Im HL e1).2⟩
 unfold Cf at q
 split at q
 ·cases q
 rename_i w1 e1
 have e1:=Im HL e1
 split at q
 ·cases q
 split at q
 ·cases q
 rename_i nm e3
 have hn:∀l,nm=some l→WL 30 l:=fun l hl=>by
  subst hl
  unfold J3 at e3
  split at e3
  ·split at e3
   ·cases e3
   ·obtain⟨m,hm,e⟩:=Option.map_eq_some_iff.mp e3
    cases e
    exact KA (e1.2 _ (.head _)) hm
  ·cases e3
 split at q
 ·cases q
 rename_i e4
 obtain⟨w4,e4,n4,k4⟩:=rw' e4
 have e4:=Kz (P:=WL 30) e4 fun x hx y hy=>KA (k4 x hx) hy
 split at q
 ·cases q
 rename_i e5
 obtain⟨w5,e5,n5,k5⟩:=rw' e5
 have e5:=Kz (P:=Xa (2^100)) e5 fun x hx y hy=>OG (k5 x hx).2 hy
 split at q
 ·cases q
 rename_i e6
 obtain⟨w6,e6,n6,k6⟩:=rw' e6
 have e6:=WM (P:=Xa (2^100)) e6 fun x hx y hy=>OG (k6 x hx).2 hy
 split at q
 ·cases q
 rename_i e7
 obtain⟨w7,e7,n7,k7⟩:=rw' e7
 have e7:=WM (P:=fun n=>n<2^100) e7 fun x hx y hy=>ED (k7 x hx).2 hy
 split at q
 ·cases q
 rename_i e8
 obtain⟨w8,e8,n8,k8⟩:=rw' e8
 have e8:=Kz (P:=fun p:Bool×Nat=>p.2<2^100) e8 fun x hx y hy=>aE (k8 x hx).2 hy
 cases q
 exact⟨hn,e4.1,h1,h3,h2,h4,h5,e7.1,e7.2,e8.1,e6.1,e6.2,e5.1,by rw[e4.2];exact n4,by rw[e5.2];exact n5,by rw[e8.2];exact n8,l1,l2,l3⟩
mutual
noncomputable def U.size:U→Nat
 |.mk _ us=>1+Us.size us
noncomputable def Us.size:List U→Nat
 |[]=>0
 |u::r=>u.size+Us.size r
end
theorem M0:∀us:List U,Us.size us=(us.map U.size).sum
 |[]=>rfl
 |u::us=>by show u.size+Us.size us=_;rw[M0 us];rfl
theorem Pr.cnt{α:Type}{t:List Nat→Bool}{s:Nat→Nat→Option (α×Nat)}{f:α→Nat}(H:∀a c x e,s a c=some (x,e)→f x+cnt L e≤cnt L a){a c:Nat}{xs:List α}{e:Nat}(h:Pr L t s a c xs e):(xs.map f).sum+cnt L e≤cnt L a:=by
 induction h with
 |done=>show 0+_≤_;lia
 |item h1 h2 h3 h4 ih=>have:=H _ _ _ _ h3;rw[List.map_cons,List.sum_cons];lia
theorem aH:∀us:List U,(Us.lines us).length=(us.map fun u=>u.lines.length).sum
 |[]=>rfl
 |u::us=>by show(u.lines++Us.lines us).length=_;rw[List.length_append,aH us];rfl
theorem dK(HL:∀l∈L,Bl 30 l)(hn:L.length≤1000):∀(k:Nat) {a:Nat} {u:U} {e:Nat},J4 L k a=some (u,e)→dJ 30 (2^100) u∧u.dep≤k∧e=a+u.lines.length∧u.size+cnt L e≤cnt L a
 |0,_,_,_,q=>by cases q
 |k+1,a,u,e,q=>by
  cases al.of q with
  |@mk h cs hs rs us a1 a2 a3 a4 h1 h2 h3 h4 h5 h6=>
   have ih:=fun a' u' e' (q:J4 L k a'=some (u',e'))=>dK HL hn k q
   have o2:=h2.one fun a c x e q=>J5 q
   have o3:=h3.one fun a c x e q=>N2 q
   have o4:=h4.one fun a c x e q=>N3 q
   have t2:=h2.lt N8
   have t3:=h3.lt TN
   have t4:=h4.lt TO
   have p2:=h2.all (P:=fw 30 (2^100)) fun a c x e q=>by
    obtain⟨y,r,z⟩:=Option.map_eq_some_iff.mp q
    cases z
    obtain⟨ws,e1,e2⟩:=Option.bind_eq_some_iff.mp r
    exact VN (Im HL e1).2 e2
   have p3:=h3.all (P:=fun x=>x.1<2^100∧x.2.1<2^100∧x.2.2.1<2^100∧x.2.2.2.1<2^100) fun a c x e q=>by
    obtain⟨y,r,z⟩:=Option.map_eq_some_iff.mp q
    cases z
    obtain⟨ws,e1,e2⟩:=Option.bind_eq_some_iff.mp r
    exact aF (Im HL e1).2 e2
   have p4:=h4.all (P:=fun x=>x.1.1<85∧(x.1.2=none↔Cg x.1.1=[])∧(∀a,x.1.2=some a→a<2^100)∧x.2<2^100) fun a c x e q=>by
    obtain⟨y,r,z⟩:=Option.map_eq_some_iff.mp q
    cases z
    obtain⟨ws,e1,e2⟩:=Option.bind_eq_some_iff.mp r
    exact aG (TT HL e1).2 e2
   have p5:=h5.all (P:=fun v=>dJ 30 (2^100) v∧v.dep≤k) fun a c x e q=>⟨(ih _ _ _ q).1,(ih _ _ _ q).2.1⟩
   have o5:=h5.far (f:=fun v=>v.lines.length) fun a c x e q=>(ih _ _ _ q).2.2.1
   have c5:=h5.cnt (f:=U.size) fun a c x e q=>(ih _ _ _ q).2.2.2
   have H:=Xb HL h1 p2 p3 (co:=rs.map (·.1)) (ls:=rs.map (·.2)) (fun c hc=>by obtain⟨x,hx,rfl⟩:=List.mem_map.mp hc;exact⟨(p4 x hx).1,(p4 x hx).2.1,(p4 x hx).2.2.1⟩) (fun c hc=>by obtain⟨x,hx,rfl⟩:=List.mem_map.mp hc;exact(p4 x hx).2.2.2)
    (by rw[List.length_map,List.length_map]) (by lia) (by rw[List.length_map];lia) (by lia)
   refine⟨.mk H fun v hv=>(p5 v hv).1,?_,?_,?_⟩
   ·show Us.dep us+1≤k+1
    have:∀us:List U,(∀v∈us,v.dep≤k)→Us.dep us≤k:=fun us=>by
     induction us with
     |nil=>exact fun z0=>Nat.zero_le _
     |cons v us ih=>exact fun h=>Nat.max_le.mpr ⟨h v (.head _),ih fun w hw=>h w (.tail _ hw)⟩
    have:=this us fun v hv=>(p5 v hv).2
    lia
   ·rw[U.lines_eq]
    simp only[List.length_append,List.length_map,List.length_range]
    rw[aH]
    have h6:∀h:Hd,(Ep h).length=6:=fun z0=>rfl
    have h7:[sL "end"].length=1:=rfl
    rw[h6,h7]
    lia
   ·have c1:=TI h1
    have c2:cnt L a3≤cnt L (a+1):=N1 (by lia)
    have c3:cnt L (a4+1)≤cnt L a4:=N1 (Nat.le_succ _)
    show 1+Us.size us+_≤_
    rw[M0]
    lia
end
section
variable {L:List (List Nat)} {h:Hd} {u v:U} {W:Nat}
theorem aJ{l:List Nat}{w:List Nat}{ws:List (List Nat)}(e:Ai l=w::ws)(h:w≠sL "unit"):¬Aw l=true:=by
 unfold Aw
 rw[e]
 intro q
 exact h (Option.some.inj (eq_of_beq q))
theorem VO{α:Type}{f:α→List Nat}{xs:List α}(h:∀x∈xs,Gc (fun w ws=>Ai (f x)=w::ws) (fun w ws=>w≠sL "unit")):(xs.map f).countP Aw=0:=List.countP_eq_zero.mpr fun l hl=>by
 obtain⟨x,hx,rfl⟩:=List.mem_map.mp hl
 obtain⟨w,ws,e,n⟩:=h x hx
 exact aJ e n
theorem VP(H:Qa h):(Ep h).countP Aw=1:=by
 unfold Ep
 rw[List.countP_map]
 have:(Ia h).countP (Aw∘AW [32])=(Ia h).countP fun ws=>ws.head? ==some (sL "unit"):=List.countP_congr fun ws hw=>by
  show((Ai (AW [32] ws)).head? ==some (sL "unit"))=true↔_
  rw[CX (E9 H ws hw).1 (E9 H ws hw).2]
 rw[this]
 kernel_rfl
theorem GM(G:Xn u):u.lines.countP Aw=u.size:=by
 induction G with
 |@mk h us H G ih=>
  rw[U.lines_eq]
  simp only[List.countP_append]
  rw[VP H.ok,VO (xs:=h.consts) fun c hc=>⟨_,_,Ky (H.ok.consts c hc),by decide+kernel⟩,VO (xs:=h.handlers) fun x z0=>⟨_,_,Ll x,by decide+kernel⟩,
   VO (xs:=List.range h.code.length) fun pc hpc=>by
    have e:h.code[pc]? =some ((h.code[pc]'(List.mem_range.mp hpc)).1,(h.code[pc]'(List.mem_range.mp hpc)).2):=List.getElem?_eq_getElem (List.mem_range.mp hpc)
    rw[JC e,CX (ws:=Ak h pc _ _++J8 h _ _) (fun e=>nomatch e) (Kx H.ok e)]
    exact⟨_,_,rfl,Qu (c:=117) (by kernel_rfl) (by decide) pc⟩]
  rw[show[sL "end"].countP Aw=0 by decide+kernel]
  show _=1+Us.size us
  rw[M0,Qe,List.countP_flatMap]
  have:us.map (List.countP Aw∘U.lines)=us.map U.size:=List.map_congr_left fun v hv=>ih v hv
  rw[this];lia
theorem Bl.mono{V:Nat}{l:List Nat}(hw:W≤V)(h:Bl W l):Bl V l:=by
 cases h with
 |mk a b c=>exact .mk a b fun w hw'=>⟨(c w hw').1,Nat.le_trans (c w hw').2 hw⟩
theorem Bl.len{l:List Nat}(h:Bl W l):l.length≤8*(W+1):=by
 cases h with
 |@mk ws a b c=>
  have h1:=I7 [32] (by decide) ws
  have h2:=EQ (B:=W) fun w hw=>(c w hw).2
  have h3:(W+1)*ws.length≤(W+1)*8:=Nat.mul_le_mul_left _ b
  lia
theorem Bl.sign{l:List Nat}(h:Bl W l):∀c∈l,32≤c∧c≤126:=by
 cases h with
 |@mk ws a b c=>
  intro x hx
  rcases N7 hx with rfl|⟨w,hw,hx⟩
  ·lia
  ·have:=My (c w hw).1 hx;lia
theorem Bl.t{l:List Nat}(h:Bl 182 l):Ft l:=⟨fun c hc=>by have:=h.sign c hc;lia,by have:=h.len;lia⟩
theorem Bl.nl{l:List Nat}(h:Bl W l):10∉l:=fun q=>by have:=h.sign 10 q;lia
theorem Dc.of{ls:List (List Nat)}(h0:ls≠[])(h:∀l∈ls,Bl 182 l)(hl:ls.length≤401)(hc:ls.countP Aw≤8):Dc (AW [10] ls)∧AT 10 (AW [10] ls)=ls∧De ls≤big:=by
 have e:AT 10 (AW [10] ls)=ls:=J6 h0 fun l hm=>(h l hm).nl
 have hw:De ls≤big:=by
  have:=EQ (B:=1464) fun l hm=>(h l hm).len
  have:(1464+1)*ls.length≤(1464+1)*401:=Nat.mul_le_mul_left _ hl
  unfold big;lia
 refine⟨⟨Nat.le_trans (I7 [10] (by decide) ls) hw,?_,?_,?_⟩,e,hw⟩
 ·rw[e];lia
 ·rw[e];exact fun l hm=>(h l hm).t
 ·rw[e];exact hc
structure K0(u:U):Prop where
 ok:Xn u
 dep:u.dep≤8
 size:u.size≤8
 ln:∀l∈u.lines,Bl 182 l
 len:u.lines.length≤400
theorem K1:∀u:U,u.lines≠[]
 |.mk h us=>by rw[U.lines_eq];exact fun e=>nomatch e
theorem K0.text(H:K0 u):Dc (AW [10] u.lines)∧AT 10 (AW [10] u.lines)=u.lines∧De u.lines≤big:=Dc.of (K1 u) H.ln (Nat.le_succ_of_le H.len) (by rw[GM H.ok];exact H.size)
theorem K0.rd(H:K0 u):VH (AW [10] u.lines)=some u:=by
 unfold VH
 rw[H.text.2.1,OC 8 H.dep H.ok]
 exact if_pos rfl
theorem WN(L M:List (List Nat)):Sub L (L++M):=fun a ws e=>by
 unfold BW at e ⊢
 obtain⟨l,hl,e⟩:=Option.map_eq_some_iff.mp e
 rw[List.getElem?_append_left (List.getElem?_eq_some_iff.mp hl).1,hl,←e];rfl
theorem K0.cut(H:K0 u){m:Nat}(hm:m<u.lines.length):Dc (AW [10] (u.lines.take m))∧VH (AW [10] (u.lines.take m))=none:=by
 cases m with
 |zero=>
  rw[List.take_zero]
  exact⟨⟨by decide,by decide,by intro l hl;rw[List.mem_singleton.mp hl];exact⟨fun c h=>(nomatch h),by decide⟩,by decide+kernel⟩,by decide+kernel⟩
 |succ m=>
  have h0:u.lines.take (m+1)≠[]:=fun e=>by
   have:=congrArg List.length e
   rw[List.length_take] at this
   have:min (m+1) u.lines.length=0:=this
   lia
  obtain⟨T,e,_⟩:=Dc.of h0 (fun l hl=>H.ln l (List.mem_of_mem_take hl)) (by rw[List.length_take];have:=H.len;lia) (by
   have:=(List.take_sublist (m+1) u.lines).countP_le (p:=Aw)
   rw[GM H.ok] at this
   exact Nat.le_trans this H.size)
  refine⟨T,?_⟩
  unfold VH
  rw[e]
  cases q:J4 (u.lines.take (m+1)) 8 0 with
  |none=>rfl
  |some p=>
   obtain⟨v,e1⟩:=p
   have:=Qq (M:=u.lines) (by have:=WN (u.lines.take (m+1)) (u.lines.drop (m+1));rw[List.take_append_drop] at this;exact this) 8 q
   rw[OC 8 H.dep H.ok] at this
   have h2:=cM q
   cases this
   rw[List.length_take] at h2
   exact absurd h2 (by lia)
theorem K0.more(H:K0 u):Dc (AW [10] (u.lines++[sL "end"]))∧VH (AW [10] (u.lines++[sL "end"]))=none:=by
 obtain⟨T,e,_⟩:=Dc.of (ls:=u.lines++[sL "end"]) (fun e=>nomatch (List.append_eq_nil_iff.mp e).2) (fun l hl=>by
   rcases List.mem_append.mp hl with hl|hl
   ·exact H.ln l hl
   ·rw[List.mem_singleton.mp hl]
    exact .mk (ws:=[sL "end"]) (fun e=>nomatch e) (by decide) (fun w hw=>by rw[List.mem_singleton.mp hw];decide+kernel)) (by
   rw[List.length_append];exact Nat.succ_le_succ H.len) (by rw[List.countP_append,GM H.ok];exact H.size)
 refine⟨T,?_⟩
 unfold VH
 rw[e,Qq (WN u.lines _) 8 (OC 8 H.dep H.ok)]
 exact if_neg (by rw[List.length_append];show ¬_=_+1;lia)
end
structure Cm(n:Nat)(d:D):Prop where
 ex:EU (fun p=>MI d=some p) (fun p=>p.canLay0=true) (fun p=>p.depth≤n)
theorem Cm.none{n:Nat}:Cm n .none:=⟨_,rfl,by rw[PyData.canLay0],by rw[PyData.depth];exact Nat.zero_le _⟩
theorem Cm.bool{n:Nat}{b:Bool}:Cm n (.bool b):=⟨_,rfl,by rw[PyData.canLay0],by rw[PyData.depth];exact Nat.zero_le _⟩
theorem Cm.int{n:Nat}{i:Int}:Cm n (.int i):=⟨_,rfl,by rw[PyData.canLay0],by rw[PyData.depth];exact Nat.zero_le _⟩
theorem Cm.str{n:Nat}{l:List Nat}(h:Gb l=true):Cm n (.str l):=⟨_,rfl,by
 have:=HO h
 unfold SeqAt.shaped at this
 exact(Bool.and_eq_true_iff.mp this).1,by rw[PyData.depth];exact Nat.zero_le _⟩
theorem Cm.all{n:Nat}:∀{xs:List D},(∀x∈xs,Cm n x)→EU (fun ps=>EX xs=some ps) (fun ps=>PyData.canLayAll0 ps=true) (fun ps=>PyData.depthAll ps≤n)
 |[],_=>⟨[],rfl,by rw[PyData.canLayAll0],by rw[PyData.depthAll];exact Nat.zero_le _⟩
 |x::xs,h=>by
  obtain⟨p,e1,e2,e3⟩:=(h x (.head _)).ex
  obtain⟨ps,f1,f2,f3⟩:=Cm.all fun y hy=>h y (.tail _ hy)
  refine⟨p::ps,?_,by rw[PyData.canLayAll0,e2,f2];rfl,by rw[PyData.depthAll];exact Nat.max_le.mpr ⟨e3,f3⟩⟩
  show(match MI x,EX xs with|some p,some ps=>some (p::ps)|_,_=>Option.none)=_
  rw[e1,f1]
theorem Cm.tup{n:Nat}{xs:List D}(h:∀x∈xs,Cm n x):Cm (n+1) (.tup xs):=by
 obtain⟨ps,f1,f2,f3⟩:=Cm.all h
 exact⟨.tuple ps,by show(EX xs).map _=_;rw[f1];rfl,by rw[PyData.canLay0];exact f2,by rw[PyData.depth];lia⟩
theorem Cm.lst{n:Nat}{xs:List D}(h:∀x∈xs,Cm n x):Cm (n+1) (.lst xs):=by
 obtain⟨ps,f1,f2,f3⟩:=Cm.all h
 exact⟨.list ps,by show(EX xs).map _=_;rw[f1];rfl,by rw[PyData.canLay0];exact f2,by rw[PyData.depth];lia⟩
theorem Cm.up{n m:Nat}(hm:n≤m){d:D}(h:Cm n d):Cm m d:=by
 obtain⟨p,e1,e2,e3⟩:=h.ex
 exact⟨p,e1,e2,Nat.le_trans e3 hm⟩
theorem Cm.map{α:Type}{n:Nat}{f:α→D}{xs:List α}(h:∀x∈xs,Cm n (f x)):Cm (n+1) (.lst (xs.map f)):=.lst fun d hd=>by
 obtain⟨x,hx,rfl⟩:=List.mem_map.mp hd
 exact h x hx
theorem Cm.shaped{n:Nat}(hn:n≤64){d:D}(h:Cm n d):EU (fun p=>MI d=some p) (fun p=>SeqAt.shaped p=true) (fun p=>PyData.eqv p p=true):=by
 obtain⟨p,e1,e2,e3⟩:=h.ex
 exact⟨p,e1,by unfold SeqAt.shaped;rw[e2,decide_eq_true (Nat.le_trans e3 hn)];rfl,PySem.SeqAt.eqv_refl p e2⟩
section
variable {σ:St} {cs:List AK} {d:D} {n:Nat}
theorem TU(hn:n≤64)(h:Cm n d):OP cs (.d d) (.d d)=some true:=by
 obtain⟨p,e1,e2,e3⟩:=h.shaped hn
 show(match MI d,MI d with|some p,some q=>if SeqAt.shaped p&&SeqAt.shaped q then some (PyData.eqv p q) else Option.none|_,_=>Option.none)=_
 rw[e1]
 show(if SeqAt.shaped p&&SeqAt.shaped p then some (PyData.eqv p p) else Option.none)=_
 rw[e2,e3];rfl
theorem aK(hn:n≤64)(h:Cm n d):C5 (.d d) (.d d) σ=.ok (.d (.bool true)) σ:=by
 unfold C5;rw[TU hn h];rfl
theorem aN(hn:n≤64)(h:Cm n d):Iq (.d d) (.d d) σ=.ok (.d (.bool false)) σ:=by
 unfold Iq;rw[TU hn h];rfl
theorem dL{n:Nat}:∀{o:Option (List Nat)},(∀l,o=some l→Ft l)→Cm n (Ek o)
 |none,_=>.none
 |some l,h=>.str (h l rfl).ok
theorem HZ{n k:Nat}:Cm n (Aa k):=.int
theorem CB{P:D→Prop}{x:D}{xs:List D}(h:P x)(h':∀w∈xs,P w):∀w∈x::xs,P w:=fun w hw=>by
 rcases List.mem_cons.mp hw with rfl|hw
 ·exact h
 ·exact h' w hw
theorem Om{P:D→Prop}:∀w∈([]:List D),P w:=fun z0 h=>nomatch h
theorem ib{c:Nat×Option Nat}:Cm 1 (Hl c):=.tup (CB (P:=Cm 0) HZ (CB (P:=Cm 0) (by obtain⟨a,b⟩:=c;cases b;exact .none;exact .int) Om))
theorem ic{x:Nat×Nat×Nat×Nat×Bool}:Cm 1 (L9 x):=.tup (CB (P:=Cm 0) HZ (CB (P:=Cm 0) HZ (CB (P:=Cm 0) HZ (CB (P:=Cm 0) HZ (CB (P:=Cm 0) .bool Om)))))
theorem ig{x:Bool×Nat}:Cm 1 (Le x):=.tup (CB (P:=Cm 0) .bool (CB (P:=Cm 0) HZ Om))
theorem fy:∀{p:Pl},Cm 1 (Hm p)
 |none=>.none
 |some (b,n)=>.tup (CB (P:=Cm 0) (.str (by cases b<;>rfl)) (CB (P:=Cm 0) .int Om))
theorem kE:∀{c:List Nat ⊕ Nat},aj c→Cm 0 (cD c)
 |.inl l,h=>.str h.ok
 |.inr n,_=>.int
theorem VQ{n:Nat}{ls:List (List Nat)}(h:∀l∈ls,Ft l):Cm (n+1) (.lst (ls.map .str)):=.map fun l hl=>.str (h l hl).ok
end
section
variable {σ τ:St} {cs:List AK} {d:D} {n:Nat} {h:Hd} {us:List D}
theorem Mh{c:List Nat ⊕ Nat}(hk:aj c)(hc:clo cs.length cs=true):CM [.d (cD c),.d (cD c)] cs=.ok (.d (.bool true)) cs:=by
 unfold CM Ec
 refine Ac (σ0:=((BJ cs).setM (N "one") (.d (cD c))).setM (N "other") (.d (cD c))) rfl (by kernel_rfl) ?_
 obtain⟨b,hb⟩:∃b,∀σ,F8 [.d (cD c),.d (.ty "str")] σ=.ok (.d (.bool b)) σ:=by
  cases c with
  |inl l=>exact⟨true,fun z0=>rfl⟩
  |inr n=>exact⟨false,fun z0=>rfl⟩
 refine BY (Es (b:=b==b) (c:=true) (AE (Ao (AA B0 (AA AJ AC)) (hb _)) (Ao (AA B0 (AA AJ AC)) (hb _)) dH) fun z0=>AE B0 B0 (aK (n:=0) (by decide) (kE hk))) ?_
 rw[beq_self_eq_true]
 exact BH hc rfl
theorem TV(xs:List D):GA 0 xs=(List.range xs.length).map fun i:Nat=>D.tup [.int (i:Int),xs.getD i .none]:=by
 refine List.ext_getElem? fun i=>?_
 rw[LD,List.getElem?_map]
 by_cases q:i<xs.length
 ·rw[List.getElem?_eq_getElem q,List.getElem?_range q]
  show some (D.tup [.int ((0+i:Nat):Int),xs[i]])=some (D.tup [.int (i:Int),xs.getD i .none])
  rw[Nat.zero_add,List.getD_eq_getElem?_getD,List.getElem?_eq_getElem q];rfl
 ·rw[List.getElem?_eq_none (Nat.le_of_not_lt q),List.getElem?_eq_none (by rw[List.length_range];exact Nat.le_of_not_lt q)];rfl
theorem Lp{l:List (List Nat ⊕ Nat)}(hk:∀c∈l,aj c)(hl:l.length≤10000)(hc:clo cs.length cs=true):Cc [.d (.lst (l.map cD)),.d (.lst (l.map cD))] cs=.ok (.d (.bool true)) cs:=by
 unfold Cc D1
 refine Ac (σ0:=((BJ cs).setM (N "ones") (.d (.lst (l.map cD)))).setB (N "others") (.d (.lst (l.map cD)))) rfl (by kernel_rfl) ?_
 generalize hτ:((BJ cs).setM (N "ones") (.d (.lst (l.map cD)))).setB (N "others") (.d (.lst (l.map cD)))=τ
 have t1:τ.m (N "ones")=some (.d (.lst (l.map cD))):=by rw[←hτ];exact show((BJ cs).setM (N "ones") (.d (.lst (l.map cD)))).m (N "ones")=some (.d (.lst (l.map cD))) from AI
 have t2:τ.b (N "others")=some (.d (.lst (l.map cD))):=by rw[←hτ];exact b_hit
 have tc:τ.cs=cs:=by rw[←hτ];rfl
 have lb:(l.map cD).length≤big:=by rw[List.length_map];exact Nat.le_trans hl (by decide)
 refine Ce (c:=false) (Ax (AE (Ao (AA (AH t1) AC) (CI lb)) (Ao (AA (Fx t2) AC) (CI lb)) (by rw[Zd,decide_eq_true rfl];rfl))) (fun e=>nomatch e) fun z0=>?_
 have e1:Bg (Hx (AD [AB (N "ones")])) (Gj [Az (N "at"),Az (N "one")]) (AN CM (AD [AB (N "one"),AG Af (Aq (N "others")) (AB (N "at"))])) τ=.ok (.d (.lst ((List.range (l.map cD).length).map fun z0=>D.bool true))) τ:=by
  refine Iy (xs:=List.range (l.map cD).length) (fun i:Nat=>D.tup [.int (i:Int),(l.map cD).getD i .none]) (fun z0=>D.bool true) ((QY (AA (AH t1) AC)).trans (by rw[TV])) (by rw[List.length_range];exact lb) fun i hi σ h1 h2=>?_
  have hi:i<l.length:=by have:=List.mem_range.mp hi;rwa [List.length_map] at this
  have eg:(l.map cD)[i]? =some (cD l[i]):=by rw[List.getElem?_map,List.getElem?_eq_getElem hi];rfl
  have eg':(l.map cD).getD i .none=cD l[i]:=by rw[List.getD_eq_getElem?_getD,eg];rfl
  refine⟨(σ.setM (N "at") (.d (.int i))).setM (N "one") (.d ((l.map cD).getD i .none)),_,rfl,AY (AA (AH AI) (AA (AE (Fx (by show σ.b _=_;rw[h2];exact t2)) (AH (AM (by decide+kernel) AI)) (B8 eg (by unfold big;lia))) AC)) ?_,h1,h2⟩
  rw[eg']
  exact Mh (hk _ (List.getElem_mem hi)) (by show clo σ.cs.length σ.cs=true;rw[h1,tc];exact hc)
 refine BY (Ao (AA e1 AC) U4) ?_
 rw[List.all_eq_true.mpr fun z0 z0=>rfl]
 exact BH hc tc
theorem K2{τ:St}{f g:St→R AV}{d:D}(h1:f τ=.ok (.d d) τ)(h2:g τ=.ok (.d d) τ)(hn:n≤64)(h:Cm n d):BQ (AG Iq f g) τ=.ok false τ:=Ax (AE h1 h2 (aN hn h))
theorem TW{vs:List D}(H:Qa h)(hv:us.length=vs.length)(hl:us.length≤big)(hc:clo cs.length cs=true):CP [.d (.obj (h.flds us)),.d (.obj (h.flds vs))] cs=.ok (.d (.bool true)) cs:=by
 unfold CP GF
 refine Ac (σ0:=((BJ cs).setM (N "one") (.d (.obj (h.flds us)))).setM (N "other") (.d (.obj (h.flds vs)))) rfl (by kernel_rfl) ?_
 generalize hτ:((BJ cs).setM (N "one") (.d (.obj (h.flds us)))).setM (N "other") (.d (.obj (h.flds vs)))=τ
 have t1:τ.m (N "one")=some (.d (.obj (h.flds us))):=by rw[←hτ];exact AM (by decide+kernel) AI
 have t2:τ.m (N "other")=some (.d (.obj (h.flds vs))):=by rw[←hτ];exact AI
 have tc:τ.cs=cs:=by rw[←hτ];rfl
 have a:∀{x:Str} {d:D},(∀us:List D,CH x (.d (.obj (h.flds us))) τ=.ok (.d d) τ)→AQ x (AB (N "one")) τ=.ok (.d d) τ∧AQ x (AB (N "other")) τ=.ok (.d d) τ:=fun e=>⟨Ab (AH t1) (e us),Ab (AH t2) (e vs)⟩
 have a1:=a fun us=>Lg
 have a2:=a fun us=>Kf
 have a3:=a fun us=>Jw
 have a4:=a fun us=>HW
 refine Ce (c:=false) (K2 (n:=3) (BU (AA a1.1 (AA a2.1 (AA a3.1 (AA a4.1 AC)))) rfl) (BU (AA a1.2 (AA a2.2 (AA a3.2 (AA a4.2 AC)))) rfl) (by decide)
  (.tup (CB (P:=Cm 2) (dL H.name) (CB (P:=Cm 2) (VQ H.params) (CB (P:=Cm 2) (.map fun z0 z0=>ib) (CB (P:=Cm 2) (.map fun z0 z0=>ic) Om)))))) (fun e=>nomatch e) fun z0=>?_
 have a1:=a fun us=>Ms
 have a2:=a fun us=>iK
 have a3:=a fun us=>iL
 refine Ce (c:=false) (K2 (n:=2) (BU (AA a1.1 (AA a2.1 (AA a3.1 AC))) rfl) (BU (AA a1.2 (AA a2.2 (AA a3.2 AC))) rfl) (by decide)
  (.tup (CB (P:=Cm 1) (.map fun z0 z0=>HZ) (CB (P:=Cm 1) HZ (CB (P:=Cm 1) HZ Om))))) (fun e=>nomatch e) fun z0=>?_
 have a1:=a fun us=>Zg
 have a2:=a fun us=>Sm
 have a3:=a fun us=>Zh
 refine Ce (c:=false) (K2 (n:=3) (BU (AA a1.1 (AA a2.1 (AA a3.1 AC))) rfl) (BU (AA a1.2 (AA a2.2 (AA a3.2 AC))) rfl) (by decide)
  (.tup (CB (P:=Cm 2) (.map fun z0 z0=>ig) (CB (P:=Cm 2) .bool (CB (P:=Cm 2) .bool Om))))) (fun e=>nomatch e) fun z0=>?_
 have a1:=a fun us=>Zi
 have a2:=a fun us=>Zj
 refine Ce (c:=false) (K2 (n:=2) (BU (AA a1.1 (AA a2.1 AC)) rfl) (BU (AA a1.2 (AA a2.2 AC)) rfl) (by decide)
  (.tup (CB (P:=Cm 1) fy (CB (P:=Cm 1) fy Om)))) (fun e=>nomatch e) fun z0=>?_
 have a1:=a fun us=>Sn
 refine Ce (c:=false) (K2 (n:=2) a1.1 a1.2 (by decide) (.map fun z0 z0=>fy)) (fun e=>nomatch e) fun z0=>?_
 have a1:=a fun us=>Gq
 have e1:BK BA (AD [AQ (N "units") (AB (N "one"))]) τ=.ok (.d (.int us.length)) τ:=Ao (AA (Ab (AH t1) I3) AC) (CI hl)
 have e2:BK BA (AD [AQ (N "units") (AB (N "other"))]) τ=.ok (.d (.int us.length)) τ:=Ao (AA (Ab (AH t2) I3) AC) (by rw[hv];exact CI (by rw[←hv];exact hl))
 refine BY (Es (b:=true) (c:=true) (AY (AA a1.1 (AA a1.2 AC)) (Lp H.consts (Nat.le_trans H.lens.2.1 (by decide)) (by rw[tc];exact hc))) fun z0=>AE e1 e2 (by rw[EO,decide_eq_true rfl])) (BH hc tc)
end
section
variable {σ τ:St} {b cs:List AK} {d:D} {n:Nat} {h:Hd} {us:List D} {ys:List AK} {j:Nat} {l:List D} {x:D}
theorem WO(e:σ.cs=b++ys)(hj:ys[j]? =some (B9 l)):Fv σ.cs (.lst (b.length+j))=true:=by
 show(BL σ.cs (b.length+j)).isSome=true
 unfold BL;rw[e,Lh,hj];rfl
theorem dM(e:σ.cs=b++ys)(hj:ys[j]? =some (B9 l))(hl:l.length≤big):BA [.lst (b.length+j)] σ=.ok (.d (.int l.length)) σ:=by
 rw[Zu (xs:=l.map AV.d) (by unfold BL;rw[e,Lh,hj];rfl) (by rw[List.length_map];exact hl),List.length_map]
theorem aO(e:σ.cs=b++ys)(hj:ys[j]? =some (B9 l))(hl:l.length≤big):En Au (.lst (b.length+j)) [.d x] σ=.ok (.d .none) {σ with cs:=b++ys.set j (B9 (l++[x]))}:=by
 have:=Zs (σ:=σ) (i:=b.length+j) (xs:=l.map AV.d) (v:=.d x) (by unfold BL;rw[e,Lh,hj];rfl) (by rw[List.length_map];exact hl)
 rw[WF,e,S7] at this;exact this
theorem ii(e:σ.cs=b++ys)(hj:ys[j]? =some (B9 (l++[x])))(hl:l.length<big):En RW (.lst (b.length+j)) [] σ=.ok (.d x) {σ with cs:=b++ys.set j (B9 l)}:=by
 show(ofO (BL σ.cs (b.length+j)) fun xs=>if xs.length≤big then ofO xs[xs.length-1]? fun v=>R.ok v {σ with cs:=σ.cs.set (b.length+j) (.lst (xs.eraseIdx (xs.length-1)))} else .stuck)=_
 rw[show BL σ.cs (b.length+j)=some ((l++[x]).map AV.d) by unfold BL;rw[e,Lh,hj];rfl]
 have h1:((l++[x]).map AV.d).length=l.length+1:=by rw[List.length_map,List.length_append];rfl
 have h2:((l++[x]).map AV.d)[l.length]? =some (.d x):=by rw[List.getElem?_map,List.getElem?_append_right (Nat.le_refl _),Nat.sub_self];rfl
 have h3:((l++[x]).map AV.d).eraseIdx l.length=l.map AV.d:=by rw[List.map_append,List.eraseIdx_append_of_length_le (by rw[List.length_map];exact Nat.le_refl _),List.length_map,Nat.sub_self];exact List.append_nil _
 show(if _ then _ else _)=_
 rw[h1,if_pos (by lia),Nat.add_sub_cancel,h2,h3,e,S7];rfl
theorem f0(hc:clo cs.length cs=true)(e:σ.cs=cs++ys)(hj:ys[j]? =some (B9 l)):fin true cs.length (.ok (.ret (.lst (cs.length+j))) σ)=.ok (.d (.lst l)) cs:=by
 have h1:Tl cs.length σ.cs (.lst (cs.length+j))=some (.lst l):=by rw[e];exact Ih (n:=0) hj
 have h2:σ.cs.take cs.length=cs:=by rw[e,List.take_left]
 unfold fin
 simp only[LF,h1,h2,hc,if_true]
theorem VR{n:Nat}(h:n<2^20):G2 (.rng ((n:Int)-1) (-1) (-1))=some ((List.range n).reverse.map Aa):=by
 show(if((n:Int)-1).natAbs<2^30∧((-1:Int)).natAbs<2^30∧((-1:Int)=1∨(-1:Int)=-1) then some (Ph ((n:Int)-1) (-1) (-1)) else none)=_
 rw[if_pos ⟨by lia,by decide,.inr rfl⟩]
 have:(Builtin.Range.rangeSize ((n:Int)-1) (-1) (-1)).toNat=n:=by
  unfold Builtin.Range.rangeSize
  rw[if_neg (by decide)]
  simp only[Int.neg_neg,Int.ediv_one]
  split<;>lia
 unfold Ph
 rw[this]
 refine congrArg some (List.ext_getElem (by simp) fun i h1 h2=>?_)
 rw[List.length_map,List.length_range] at h1
 rw[List.getElem_map,List.getElem_map,List.getElem_range,List.getElem_reverse,List.getElem_range,List.length_range]
 show D.int _=D.int _
 congr 1
 lia
end
mutual
noncomputable def U.pre:U→List U
 |.mk h us=>.mk h us::Us.pre us
noncomputable def Us.pre:List U→List U
 |[]=>[]
 |u::r=>u.pre++Us.pre r
end
theorem WP:∀(a b:List U),Us.pre (a++b)=Us.pre a++Us.pre b
 |[],b=>rfl
 |u::a,b=>by show u.pre++Us.pre (a++b)=(u.pre++Us.pre a)++_;rw[WP a b,List.append_assoc]
theorem K3:∀(a b:List U),Us.size (a++b)=Us.size a+Us.size b
 |[],b=>by show Us.size b=0+Us.size b;lia
 |u::a,b=>by show u.size+Us.size (a++b)=(u.size+Us.size a)+_;rw[K3 a b];lia
theorem Gv:∀(a:List U),a.length≤Us.size a
 |[]=>Nat.le_refl _
 |.mk h us::a=>by have:=Gv a;show a.length+1≤(1+Us.size us)+Us.size a;lia
structure Wk(cs:List AK)(s f:List U)(τ:St):Prop where
 c:τ.cs=cs++[B9 ((s.map U.D).reverse),B9 (f.map U.D)]
 w:τ.m (N "waiting")=some (.lst (cs.length+0))
 f:τ.m (N "found")=some (.lst (cs.length+1))
theorem K4{u:U}(hs:u.size≤1000){cs:List AK}(hc:clo cs.length cs=true):DA [.d u.D] cs=.ok (.d (.lst (u.pre.map U.D))) cs:=by
 unfold DA G6
 refine Ac (σ0:=(BJ cs).setM (N "unit") (.d u.D)) rfl (by kernel_rfl) ?_
 refine Av (Mq (AA (KZ (AA (AH AI) AC)) (AA (KZ AC) AC)) rfl) ?_
 refine QQ (fun n σ=>JO (fun s f=>n=Us.size s) (fun s f=>Wk cs s f σ) (fun s f=>f++Us.pre s=u.pre) (fun s f=>f.length+Us.size s≤1000)) (n:=Us.size [u]) (by show u.size+0<big;unfold big;lia) ⟨[u],[],rfl,⟨?_,?_,?_⟩,List.append_nil _,by show 0+(u.size+0)≤_;lia⟩ ?_
 ·show(cs++[AK.lst [AV.d u.D]])++[AK.lst []]=_
  rw[List.append_assoc];rfl
 ·exact AI
 ·refine AM (by decide+kernel) ?_
  refine AI.trans ?_
  show some (AV.lst (cs++[AK.lst [AV.d u.D]]).length)=_
  rw[List.length_append];rfl
 rintro n σ ⟨s,f,rfl,T,hp,hn⟩
 have hsl:=Gv s
 have et:BQ (AG (CC fun a b=>decide (a>b)) (BK BA (AD [AB (N "waiting")])) (cF (D.int 0))) σ=.ok (decide ((((s.map U.D).reverse.length:Nat):Int)>0)) σ:=
  Ax (AE (Ao (AA (AH T.w) AC) (dM T.c rfl (by rw[List.length_reverse,List.length_map];unfold big;lia))) AJ rfl)
 cases s with
 |nil=>
  have hf:f=u.pre:=by rw[←hp];exact(List.append_nil f).symm
  refine .inl ⟨σ,et,?_⟩
  rw[←hf]
  exact BY (AH T.f) (f0 hc T.c rfl)
 |cons here rest=>
  refine .inr (.inr ⟨σ,et.trans (by rw[decide_eq_true (by rw[List.length_reverse,List.length_map,List.length_cons];lia)]),.inl ?_⟩)
  have hsz:Us.size (here::rest)=here.size+Us.size rest:=rfl
  have hrl:=Gv rest
  have hw:((here::rest).map U.D).reverse=(rest.map U.D).reverse++[here.D]:=by rw[List.map_cons,List.reverse_cons]
  have c1:=T.c
  rw[hw] at c1
  have e1:=AS (t:=Az (N "here")) (BG (F:=En RW) (fa:=AD []) (AH T.w) (WO c1 rfl) AC (ii c1 rfl (by rw[List.length_reverse,List.length_map];unfold big;lia))) Ae
  generalize hτ:St.setM _ (N "here") (.d here.D)=τ at e1
  have tc:τ.cs=cs++[B9 (rest.map U.D).reverse,B9 (f.map U.D)]:=by rw[←hτ];rfl
  have tw:τ.m (N "waiting")=some (.lst (cs.length+0)):=by rw[←hτ];exact AM (by decide+kernel) T.w
  have tf:τ.m (N "found")=some (.lst (cs.length+1)):=by rw[←hτ];exact AM (by decide+kernel) T.f
  have th:τ.m (N "here")=some (.d here.D):=by rw[←hτ];exact AI
  have e2:=C2 (BG (F:=En Au) (fa:=AD [AB (N "here")]) (AH tf) (WO tc rfl) (AA (AH th) AC) (aO tc rfl (by rw[List.length_map];unfold big;lia)))
  have T1:Wk cs rest (f++[here]) {τ with cs:=cs++[B9 (rest.map U.D).reverse,B9 (f.map U.D)].set 1 (B9 (f.map U.D++[here.D]))}:=⟨by rw[List.map_append];rfl,tw,tf⟩
  have th1:({τ with cs:=cs++[B9 (rest.map U.D).reverse,B9 (f.map U.D)].set 1 (B9 (f.map U.D++[here.D]))}:St).m (N "here")=some (.d here.D):=th
  generalize({τ with cs:=cs++[B9 (rest.map U.D).reverse,B9 (f.map U.D)].set 1 (B9 (f.map U.D++[here.D]))}:St)=τ1 at e2 T1 th1
  obtain⟨h,us⟩:=here
  have hul:=Gv us
  have hus:(U.mk h us).size=1+Us.size us:=rfl
  have l1:(Us.D us).length≤big:=by rw[MC];unfold big;lia
  have ei:A7 (BK Bw (AD [AG (Ay K8) (BK BA (AD [AQ (N "units") (AB (N "here"))])) (cF (D.int 1)),UQ (cF (D.int 1)),UQ (cF (D.int 1))])) τ1=.ok ((List.range us.length).reverse.map Aa) τ1:=
   BN (Ao (AA (AE (Ao (AA (Ab (AH th1) I3) AC) (CI l1)) AJ rfl) (AA (Nm AJ) (AA (Nm AJ) AC))) (if_pos ⟨by rw[MC];lia,by decide⟩)) (by rw[MC];exact VR (by lia))
  have e3:Aj (fun τ'=>EF (A7 (BK Bw (AD [AG (Ay K8) (BK BA (AD [AQ (N "units") (AB (N "here"))])) (cF (D.int 1)),UQ (cF (D.int 1)),UQ (cF (D.int 1))]))) (Az (N "at")) (A0 (AO Fv (En Au) (AB (N "waiting")) (AD [AG Af (AQ (N "units") (AB (N "here"))) (AB (N "at"))]))) τ1=.ok .next τ') (fun τ'=>Wk cs (us++rest) (f++[U.mk h us]) τ'):=by
   rw[Ff ei rfl]
   refine Mo (fun xs τ=>aq (fun k=>k≤us.length) (fun k=>xs=(List.range k).reverse.map Aa) (fun k=>Wk cs (us.drop k++rest) (f++[U.mk h us]) τ) (fun k=>τ.m (N "here")=some (.d (U.mk h us).D))) (fun r=>Aj (fun τ'=>r=.ok .next τ') (fun τ'=>Wk cs (us++rest) (f++[U.mk h us]) τ')) ?_ ?_ _ τ1 ⟨us.length,Nat.le_refl _,rfl,by rw[List.drop_length];exact T1,th1⟩
   ·rintro τ ⟨k,hk,he,T,th⟩
    cases k with
    |zero=>exact⟨τ,rfl,T⟩
    |succ k=>rw[List.range_succ,List.reverse_append] at he;cases he
   ·rintro x xs τ ⟨k,hk,he,T,th⟩
    cases k with
    |zero=>cases he
    |succ k=>
     rw[List.range_succ,List.reverse_append] at he
     cases he
     have hk':k<us.length:=hk
     have hd:us.drop k=us[k]::us.drop (k+1):=List.drop_eq_getElem_cons hk'
     have hx:(Us.D us)[k]? =some us[k].D:=by rw[MD,List.getElem?_map,List.getElem?_eq_getElem hk'];rfl
     have T2:(τ.setM (N "at") (.d (Aa k))).cs=_:=T.c
     have w2:(τ.setM (N "at") (.d (Aa k))).m (N "waiting")=_:=AM (by decide+kernel) T.w
     have f2:(τ.setM (N "at") (.d (Aa k))).m (N "found")=_:=AM (by decide+kernel) T.f
     have h2:(τ.setM (N "at") (.d (Aa k))).m (N "here")=_:=AM (by decide+kernel) th
     refine⟨τ.setM (N "at") (.d (Aa k)),Ae,.inl ⟨_,C2 (BG (AH (AM (by decide+kernel) T.w)) (WO T2 rfl) (AA (AE (Ab (AH (AM (by decide+kernel) th)) I3) (AH AI) (B8 hx (by unfold big;lia))) AC) (aO T2 rfl (by
      rw[List.length_reverse,List.length_map,List.length_append,List.length_drop];unfold big;lia))),k,Nat.le_of_lt hk',rfl,⟨?_,w2,f2⟩,h2⟩⟩
     rw[hd,List.cons_append,List.map_cons,List.reverse_cons]
     rfl
  obtain⟨τ',e3,T3⟩:=e3
  refine⟨τ',Us.size (us++rest),A6 e1 (A6 e2 e3),by rw[K3];lia,us++rest,f++[U.mk h us],rfl,T3,?_,by rw[List.length_append,K3];show f.length+1+_≤_;lia⟩
  rw[←hp,WP,List.append_assoc]
  rfl
theorem f4{σ:St}{x y:Str}{v:AV}:(σ.setB x v).m y=σ.m y:=rfl
theorem Qy:∀a:List U,(Us.pre a).length=Us.size a
 |[]=>rfl
 |.mk h us::a=>by
  show(.mk h us::Us.pre us++Us.pre a).length=(1+Us.size us)+Us.size a
  rw[List.length_append,List.length_cons,Qy us,Qy a];lia
theorem K5:∀u:U,u.pre.length=u.size
 |.mk h us=>by show(Us.pre us).length+1=1+_;rw[Qy];lia
theorem Qz{P:U→Prop}(hP:∀h us,P (.mk h us)→∀u∈us,P u):∀a:List U,(∀u∈a,P u)→∀x∈Us.pre a,P x
 |[],_,x,hx=>nomatch hx
 |.mk h us::a,H,x,hx=>by
  rcases List.mem_append.mp (show x∈(.mk h us::Us.pre us)++Us.pre a from hx) with hx|hx
  ·rcases List.mem_cons.mp hx with rfl|hx
   ·exact H _ (.head _)
   ·exact Qz hP us (hP h us (H _ (.head _))) x hx
  ·exact Qz hP a (fun u hu=>H u (.tail _ hu)) x hx
theorem aP{P:U→Prop}(hP:∀h us,P (.mk h us)→∀u∈us,P u){u:U}(H:P u):∀x∈u.pre,P x:=fun x hx=>Qz hP [u] (fun v hv=>by rw[List.mem_singleton.mp hv];exact H) x (List.mem_append_left _ hx)
section
variable {σ τ:St} {cs:List AK} {u v:U}
theorem MG(hu:u.size≤1000)(hv:v.size≤1000)(Q:Nat→Bool)(hQ:∀i x y cs,clo cs.length cs=true→u.pre[i]? =some x→v.pre[i]? =some y→CP [.d x.D,.d y.D] cs=.ok (.d (.bool (Q i))) cs)(hc:clo cs.length cs=true):
  Bh [.d u.D,.d v.D] cs=.ok (.d (.bool (decide (u.size=v.size)&&(List.range u.size).all Q))) cs:=by
 unfold Bh H6
 refine Ac (σ0:=((BJ cs).setM (N "one") (.d u.D)).setM (N "other") (.d v.D)) rfl (by kernel_rfl) ?_
 have v1:(((BJ cs).setM (N "one") (.d u.D)).setM (N "other") (.d v.D)).m (N "one")=some (.d u.D):=AM (by decide+kernel) AI
 refine Av (Ks (AA (AY (AA (AH v1) AC) (K4 hu hc)) (AA (AY (AA (AH AI) AC) (K4 hv hc)) AC)) (Qm Ae iI)) ?_
 generalize hτ:St.setB _ _ _=τ
 have t1:τ.m (N "ones")=some (.d (.lst (u.pre.map U.D))):=by rw[←hτ,f4];exact AI
 have t2:τ.b (N "others")=some (.d (.lst (v.pre.map U.D))):=by rw[←hτ];exact b_hit
 have tc:τ.cs=cs:=by rw[←hτ];rfl
 have lu:(u.pre.map U.D).length=u.size:=by rw[List.length_map,K5]
 have lv:(v.pre.map U.D).length=v.size:=by rw[List.length_map,K5]
 have bu:(u.pre.map U.D).length≤big:=by rw[lu];unfold big;lia
 have bv:(v.pre.map U.D).length≤big:=by rw[lv];unfold big;lia
 refine Ce (c:=!decide (u.size=v.size)) (Ax (AE (Ao (AA (AH t1) AC) (CI bu)) (Ao (AA (Fx t2) AC) (CI bv)) (by rw[Zd,lu,lv,show decide ((u.size:Int)=(v.size:Int))=decide (u.size=v.size) from decide_eq_decide.mpr Int.natCast_inj]))) (fun e=>?_) fun e=>?_
 ·rw[Bool.not_eq_true'] at e
  rw[e]
  exact⟨_,AJ,BH hc tc⟩
 ·rw[Bool.not_eq_false'] at e
  rw[e]
  have e':u.size=v.size:=of_decide_eq_true e
  have e1:Bg (Hx (AD [AB (N "ones")])) (Gj [Az (N "at"),Az (N "here")]) (AN CP (AD [AB (N "here"),AG Af (Aq (N "others")) (AB (N "at"))])) τ=.ok (.d (.lst ((List.range (u.pre.map U.D).length).map fun i=>D.bool (Q i)))) τ:=by
   refine Iy (xs:=List.range (u.pre.map U.D).length) (fun i:Nat=>D.tup [.int (i:Int),(u.pre.map U.D).getD i .none]) (fun i=>D.bool (Q i)) ((QY (AA (AH t1) AC)).trans (by rw[TV])) (by rw[List.length_range];exact bu) fun i hi σ h1 h2=>?_
   have hi:=List.mem_range.mp hi
   rw[lu] at hi
   have hi1:i<u.pre.length:=by rw[K5];exact hi
   have hi2:i<v.pre.length:=by rw[K5,←e'];exact hi
   have eg:(u.pre.map U.D).getD i .none=(u.pre[i]).D:=by rw[List.getD_eq_getElem?_getD,List.getElem?_map,List.getElem?_eq_getElem hi1];rfl
   have eh:(v.pre.map U.D)[i]? =some (v.pre[i]).D:=by rw[List.getElem?_map,List.getElem?_eq_getElem hi2];rfl
   refine⟨(σ.setM (N "at") (.d (.int i))).setM (N "here") (.d ((u.pre.map U.D).getD i .none)),_,rfl,AY (AA (AH AI) (AA (AE (Fx (by show σ.b _=_;rw[h2];exact t2)) (AH (AM (by decide+kernel) AI)) (B8 eh (by unfold big;lia))) AC)) ?_,h1,h2⟩
   rw[eg]
   exact hQ i _ _ σ.cs (by rw[h1,tc];exact hc) (List.getElem?_eq_getElem hi1) (List.getElem?_eq_getElem hi2)
  refine BY (Ao (AA e1 AC) U4) ?_
  rw[lu]
  exact BH hc tc
theorem PO(G:Xn u)(hs:u.size≤1000)(hc:clo cs.length cs=true):Bh [.d u.D,.d u.D] cs=.ok (.d (.bool true)) cs:=by
 have H:=aP (P:=fun x=>Xn x∧x.size≤1000) (fun h us ⟨G,hs⟩ w hw=>by
  cases G with
  |mk _ G=>
   refine⟨G w hw,?_⟩
   have:w.size≤Us.size us:=by
    rw[M0]
    obtain⟨a,b,e⟩:=List.append_of_mem hw
    rw[e,List.map_append,List.map_cons,List.sum_append,List.sum_cons];lia
   have:(U.mk h us).size=1+Us.size us:=rfl
   lia) ⟨G,hs⟩
 rw[MG hs hs (fun z0=>true) (fun i x y cs hc e1 e2=>by
  rw[e1] at e2;cases e2
  obtain⟨G,hs⟩:=H x (List.mem_of_getElem? e1)
  cases G with
  |@mk h us H _=>
   have:=Gv us
   have h1:(U.mk h us).size=1+Us.size us:=rfl
   exact TW H.ok rfl (by rw[MC];unfold big;lia) hc) hc,decide_eq_true rfl,List.all_eq_true.mpr fun z0 z0=>rfl]
 rfl
noncomputable def Lq:U:=.mk (K6 (some (sL "other")) [sL "b"]) []
theorem aQ{A B C D':D}{x:D}{xs:List D}{A' B':D}{n:Nat}(hn:n<64)(hA:Cm n A)(hB:Cm n B)(hC:Cm n (.lst (x::xs)))(hD:Cm n D')(hA':Cm n A')(hB':Cm n B'):OP cs (.d (.tup [A,B,.lst (x::xs),D'])) (.d (.tup [A',B',.lst [],.lst []]))=some false:=by
 have h1:Cm (n+1) (.tup [A,B,.lst (x::xs),D']):=.tup (CB (P:=Cm n) hA (CB (P:=Cm n) hB (CB (P:=Cm n) hC (CB (P:=Cm n) hD Om))))
 have hL:Cm n (.lst []):=⟨.list [],rfl,by rw[PyData.canLay0,PyData.canLayAll0],by
  have:=hC.ex
  obtain⟨p,e,_,h⟩:=this
  have:(EX (x::xs)).map PyData.list=some p:=e
  obtain⟨ps,_,rfl⟩:=Option.map_eq_some_iff.mp this
  rw[PyData.depth] at h
  rw[PyData.depth,PyData.depthAll];lia⟩
 have h2:Cm (n+1) (.tup [A',B',.lst [],.lst []]):=.tup (CB (P:=Cm n) hA' (CB (P:=Cm n) hB' (CB (P:=Cm n) hL (CB (P:=Cm n) hL Om))))
 obtain⟨p,e1,e2,_⟩:=h1.shaped hn
 obtain⟨q,f1,f2,_⟩:=h2.shaped hn
 show(match MI (.tup [A,B,.lst (x::xs),D']),MI (.tup [A',B',.lst [],.lst []]) with|some p,some q=>if SeqAt.shaped p&&SeqAt.shaped q then some (PyData.eqv p q) else none|_,_=>none)=_
 rw[e1,f1]
 show(if SeqAt.shaped p&&SeqAt.shaped q then some (PyData.eqv p q) else none)=_
 rw[e2,f2]
 obtain⟨a,ea,_⟩:=hA.ex
 obtain⟨b,eb,_⟩:=hB.ex
 obtain⟨c,ec,_⟩:=hC.ex
 obtain⟨d,ed,_⟩:=hD.ex
 obtain⟨a',ea',_⟩:=hA'.ex
 obtain⟨b',eb',_⟩:=hB'.ex
 have ec':(EX (x::xs)).map PyData.list=some c:=ec
 obtain⟨ps,ep,rfl⟩:=Option.map_eq_some_iff.mp ec'
 have ep':(match MI x,EX xs with|some p,some ps=>some (p::ps)|_,_=>none)=some ps:=ep
 obtain⟨z,zs,rfl⟩:∃z zs,ps=z::zs:=by
  split at ep'
  ·cases ep';exact⟨_,_,rfl⟩
  ·cases ep'
 have t1:MI (.tup [A,B,.lst (x::xs),D'])=some (.tuple [a,b,.list (z::zs),d]):=by
  show(EX [A,B,.lst (x::xs),D']).map PyData.tuple=_
  simp only[EX,ea,eb,ec,ed,Option.map_some]
 have t2:MI (.tup [A',B',.lst [],.lst []])=some (.tuple [a',b',.list [],.list []]):=by
  show(EX [A',B',.lst [],.lst []]).map PyData.tuple=_
  simp only[EX,MI,ea',eb',Option.map_some]
 rw[t1] at e1;cases e1
 rw[t2] at f1;cases f1
 simp[PyData.eqvAll,PyData.eqv]
end
section
variable {σ τ:St} {cs ys:List AK} {u v:U} {p:List Nat} {s:Nat}
theorem Xd{h:Hd}{us:List D}(H:Qa h)(hn:h.code≠[])(hc:clo cs.length cs=true):CP [.d (.obj (h.flds us)),.d Lq.D] cs=.ok (.d (.bool false)) cs:=by
 unfold CP GF
 refine Ac (σ0:=((BJ cs).setM (N "one") (.d (.obj (h.flds us)))).setM (N "other") (.d Lq.D)) rfl (by kernel_rfl) ?_
 generalize hτ:((BJ cs).setM (N "one") (.d (.obj (h.flds us)))).setM (N "other") (.d Lq.D)=τ
 have t1:τ.m (N "one")=some (.d (.obj (h.flds us))):=by rw[←hτ];exact AM (by decide+kernel) AI
 have t2:τ.m (N "other")=some (.d (.obj ((K6 (some (sL "other")) [sL "b"]).flds []))):=by rw[←hτ];exact AI
 have tc:τ.cs=cs:=by rw[←hτ];rfl
 cases e:h.code with
 |nil=>exact absurd e hn
 |cons c co=>
  have hC:Cm 2 (.lst (Hl c::co.map Hl)):=.map (xs:=c::co) fun z0 z0=>ib
  have e0:=aQ (cs:=τ.cs) (n:=2) (A:=Ek h.name) (B:=.lst (h.params.map .str)) (C:=.none) (x:=Hl c) (xs:=co.map Hl) (D':=.lst (h.handlers.map L9)) (A':=Ek (some (sL "other"))) (B':=.lst ([sL "b"].map .str)) (by decide) (dL H.name) (VQ H.params) hC (.map fun z0 z0=>ic) (.str rfl) (.up (by decide) (VQ (n:=0) fun l hl=>by rw[List.mem_singleton.mp hl];exact⟨by decide+kernel,by decide+kernel⟩))
  have e1:Iq (.d (.tup [Ek h.name,.lst (h.params.map .str),.lst (h.code.map Hl),.lst (h.handlers.map L9)])) (.d (.tup [Ek (some (sL "other")),.lst ([sL "b"].map .str),.lst [],.lst []])) τ=.ok (.d (.bool true)) τ:=by
   rw[e]
   unfold Iq
   rw[show OP τ.cs (.d (.tup [Ek h.name,.lst (h.params.map .str),.lst ((c::co).map Hl),.lst (h.handlers.map L9)])) (.d (.tup [Ek (some (sL "other")),.lst ([sL "b"].map .str),.lst [],.lst []]))=some false from e0]
   rfl
  have a:∀{x:Str} {d:D},CH x (.d (.obj (h.flds us))) τ=.ok (.d d) τ→AQ x (AB (N "one")) τ=.ok (.d d) τ:=fun e=>Ab (AH t1) e
  have a':∀{x:Str} {d:D},CH x (.d (.obj ((K6 (some (sL "other")) [sL "b"]).flds []))) τ=.ok (.d d) τ→AQ x (AB (N "other")) τ=.ok (.d d) τ:=fun e=>Ab (AH t2) e
  exact Ce (c:=true) (Ax (AE (BU (AA (a Lg) (AA (a Kf) (AA (a Jw) (AA (a HW) AC)))) rfl) (BU (AA (a' Lg) (AA (a' Kf) (AA (a' Jw) (AA (a' HW) AC)))) rfl) e1)) (fun z0=>⟨_,AJ,BH hc tc⟩) fun e=>nomatch e
theorem VS{h:Hd}{us:List U}(H:Qa h)(hn:h.code≠[])(hs:(U.mk h us).size≤1000)(hc:clo cs.length cs=true):Bh [.d (U.mk h us).D,.d Lq.D] cs=.ok (.d (.bool false)) cs:=by
 rw[MG (v:=Lq) hs (by decide) (fun z0=>false) (fun i x y cs hc e1 e2=>by
  cases i with
  |zero=>cases e1;cases e2;exact Xd H hn hc
  |succ i=>cases e2) hc]
 have h1:(U.mk h us).size=Us.size us+1:=by show 1+Us.size us=_;lia
 have:(List.range (U.mk h us).size).all (fun z0=>false)=false:=by
  rw[h1,List.range_succ,List.all_append]
  show(_&&false)=false
  rw[Bool.and_false]
 rw[this,Bool.and_false]
noncomputable def dr(p:List Nat)(s:Nat):List AK:=[B9 (p.map Aa),.lst [.lst 0,.d (Aa s)]]
inductive ES(ys:List AK):List AK→Prop
 |mk {p:List Nat} {s:Nat}:p.length≤40→clo (dr p s++ys).length (dr p s++ys)=true→ES ys (dr p s++ys)
theorem OH{p':List Nat}{s':Nat}(h:clo (dr p s++ys).length (dr p s++ys)=true):clo (dr p' s'++ys).length (dr p' s'++ys)=true:=by
 have h:(AK.lo (ys.length+2) (B9 (p.map Aa))&&(AK.lo (ys.length+2) (.lst [.lst 0,.d (Aa s)])&&ys.all (AK.lo (ys.length+2))))=true:=h
 rw[Bool.and_eq_true,Bool.and_eq_true] at h
 show(AK.lo (ys.length+2) (B9 (p'.map Aa))&&(AK.lo (ys.length+2) (.lst [.lst 0,.d (Aa s')])&&ys.all (AK.lo (ys.length+2))))=true
 rw[Ii,h.2.2]
 show(true&&(_&&true))=true
 rw[Bool.true_and,Bool.and_true]
 exact h.2.1
theorem ES.clo(h:ES ys cs):Mine.Internal.clo cs.length cs=true:=by cases h with|mk _ h=>exact h
theorem VU{k:Nat}(hk:0<k)(h:ES ys cs):E2_3 (fun n cs'=>n<k) (fun n cs'=>ES ys cs') (fun n cs'=>AL [.lst 1,.d (.int k)] cs=.ok (.d (Aa n)) cs'):=by
 cases h with
 |@mk p s hp hc=>
 have m1:∀{cs:List AK},(((BJ cs).setM (N "draws") (.lst 1)).setM (N "many") (.d (.int k))).m (N "draws")=some (.lst 1):=AM (by decide+kernel) AI
 have i0:∀{τ:St} {p s},τ.cs=dr p s++ys→Af (.lst 1) (.d (.int 0)) τ=.ok (.lst 0) τ:=fun{τ p s} e=>by
  show(if(0:Int)≤0∧(0:Int)≤big then(ofO (BL τ.cs 1) fun xs=>ofO (xs[(0:Int).toNat]?) fun x=>R.ok x τ) else .stuck)=_
  rw[if_pos ⟨by decide,by decide⟩,e];rfl
 have i1:∀{τ:St} {p s},τ.cs=dr p s++ys→Af (.lst 1) (.d (.int 1)) τ=.ok (.d (Aa s)) τ:=fun{τ p s} e=>by
  show(if(0:Int)≤1∧(1:Int)≤big then(ofO (BL τ.cs 1) fun xs=>ofO (xs[(1:Int).toNat]?) fun x=>R.ok x τ) else .stuck)=_
  rw[if_pos ⟨by decide,by decide⟩,e];rfl
 have et:BQ (AG JY (AG Af (AB (N "draws")) (cF (D.int 0))) (Bi (AD []))) (((BJ (dr p s++ys)).setM (N "draws") (.lst 1)).setM (N "many") (.d (.int k)))=.ok (p.length !=0) (((BJ (dr p s++ys)).setM (N "draws") (.lst 1)).setM (N "many") (.d (.int k))):=
  Ax (AE (AE (AH m1) AJ (i0 rfl)) (Bq AC rfl) (by
   show(ofO (Vf (dr p s++ys) (.lst 0)) fun n=>R.ok (AV.d (.bool (n !=0))) _)=_
   show R.ok (AV.d (.bool (((p.map Aa).map AV.d).length !=0))) _=_
   rw[List.length_map,List.length_map]))
 cases p with
 |cons v p=>
  refine⟨v%k,dr p s++ys,Nat.mod_lt _ hk,.mk (by rw[List.length_cons] at hp;lia) (OH hc),?_⟩
  unfold AL HJ
  refine Ac (σ0:=((BJ (dr (v::p) s++ys)).setM (N "draws") (.lst 1)).setM (N "many") (.d (.int k))) rfl (by kernel_rfl) ?_
  have m2:(((BJ (dr (v::p) s++ys)).setM (N "draws") (.lst 1)).setM (N "many") (.d (.int k))).m (N "many")=some (.d (.int k)):=AI
  have e1:RW 0 [.d (.int 0)] (((BJ (dr (v::p) s++ys)).setM (N "draws") (.lst 1)).setM (N "many") (.d (.int k)))=.ok (.d (Aa v)) {((BJ (dr (v::p) s++ys)).setM (N "draws") (.lst 1)).setM (N "many") (.d (.int k)) with cs:=dr p s++ys}:=
   if_pos (by rw[List.length_map,List.length_map];rw[List.length_cons] at hp;unfold big;lia)
  refine Kb (c:=true) et (fun z0=>⟨.d (Aa (v%k)),{((BJ (dr (v::p) s++ys)).setM (N "draws") (.lst 1)).setM (N "many") (.d (.int k)) with cs:=dr p s++ys},AE (BG (F:=En RW) (AE (AH m1) AJ (i0 rfl)) rfl (AA AJ AC) e1) (AH m2) (L6 (n:=v) (k:=k) (by lia)),?_⟩) fun e=>nomatch e
  exact Qf rfl (OH hc)
 |nil=>
  refine⟨(s*48271+17)%2147483647/16%k,dr [] ((s*48271+17)%2147483647)++ys,Nat.mod_lt _ hk,.mk (Nat.zero_le _) (OH hc),?_⟩
  unfold AL HJ
  refine Ac (σ0:=((BJ (dr [] s++ys)).setM (N "draws") (.lst 1)).setM (N "many") (.d (.int k))) rfl (by kernel_rfl) ?_
  refine Kb (c:=false) et (fun e=>nomatch e) fun z0=>?_
  have e1:Ag (AG (Ay Ge) (AG As (AG (Ay JD) (AG Af (AB (N "draws")) (cF (D.int 1))) (cF (D.int 48271))) (cF (D.int 17))) (cF (D.int 2147483647))) (ci (AB (N "draws")) (cF (D.int 1))) (((BJ (dr [] s++ys)).setM (N "draws") (.lst 1)).setM (N "many") (.d (.int k)))=.ok .next (((BJ (dr [] ((s*48271+17)%2147483647)++ys)).setM (N "draws") (.lst 1)).setM (N "many") (.d (.int k))):=
   AS (AE (AE (AE (AE (AH m1) AJ (i1 rfl)) AJ (Ze (k:=48271))) AJ rfl) AJ (L6 (n:=s*48271+17) (k:=2147483647))) (dB (AH m1) AJ (by
    show(if(0:Int)≤1∧(1:Int).toNat<2∧(1:Int)≤big then R.ok () _ else .stuck)=_
    rw[if_pos ⟨by decide,by decide,by decide⟩];rfl))
  refine Av e1 (BY (AE (AE (AE (AH m1) AJ (i1 rfl)) AJ (Vw (k:=16))) (AH AI) (L6 (by lia))) ?_)
  exact Qf rfl (OH hc)
end
noncomputable abbrev Xe:=(Str→Option AV)→(Str→Option AV)→Prop
structure CE(E:Xe)(f:St→R AV)(V:AV→Prop):Prop where
 h:∀{ys cs:List AK} {m b:Str→Option AV},ES ys cs→E m b→E2_3 (fun v cs'=>V v) (fun v cs'=>ES ys cs') (fun v cs'=>f ⟨cs,m,b⟩=.ok v ⟨cs',m,b⟩)
structure Q0(E:Xe)(f:St→R (List AV))(V:List AV→Prop):Prop where
 h:∀{ys cs:List AK} {m b:Str→Option AV},ES ys cs→E m b→E2_3 (fun v cs'=>V v) (fun v cs'=>ES ys cs') (fun v cs'=>f ⟨cs,m,b⟩=.ok v ⟨cs',m,b⟩)
structure Xo(k:AU)(Vs:List AV→Prop)(V:D→Prop):Prop where
 h:∀{ys cs:List AK} {vs:List AV},ES ys cs→Vs vs→E2_3 (fun d cs'=>V d) (fun d cs'=>ES ys cs') (fun d cs'=>k vs cs=.ok (.d d) cs')
noncomputable def Hi(V:D→Prop):AV→Prop:=fun v=>Aj (fun d=>v=.d d) (fun d=>V d)
section
variable {E E':Xe} {f g t k l:St→R AV} {V W:AV→Prop} {fa:St→R (List AV)} {Vs:List AV→Prop} {U:D→Prop} {x:Str} {ys cs:List AK} {σ:St} {d:D} {n:Nat}
theorem CE.mono(h:CE E f V)(hV:∀v,V v→W v):CE E f W:=⟨fun c e=>let⟨v,cs',a,b,q⟩:=h.h c e;⟨v,cs',hV v a,b,q⟩⟩
theorem CE.c:CE E (cF d) (· =.d d):=⟨fun c e=>⟨_,_,rfl,c,rfl⟩⟩
theorem CE.v{a:AV}(hx:∀m b,E m b→m x=some a):CE E (AB x) (· =a):=⟨fun c e=>⟨_,_,rfl,c,AH (hx _ _ e)⟩⟩
theorem CE.bx{a:AV}(hx:∀m b,E m b→b x=some a):CE E (Aq x) (· =a):=⟨fun c e=>⟨_,_,rfl,c,Fx (hx _ _ e)⟩⟩
theorem Q0.nil:Q0 E (AD []) (· =[]):=⟨fun c e=>⟨_,_,rfl,c,rfl⟩⟩
theorem Q0.cons{fs:List (St→R AV)}(h:CE E f V)(hs:Q0 E (AD fs) Vs):Q0 E (AD (f::fs)) (fun l=>E2_3 (fun a r=>l=a::r) (fun a r=>V a) (fun a r=>Vs r)):=⟨fun c e=>by
 obtain⟨v,cs1,h1,c1,e1⟩:=h.h c e
 obtain⟨vs,cs2,h2,c2,e2⟩:=hs.h c1 e
 exact⟨_,cs2,⟨v,vs,rfl,h1,h2⟩,c2,AA e1 e2⟩⟩
theorem CE.fn{F:List AV→St→R AV}(h:Q0 E fa Vs)(hF:∀vs σ,Vs vs→Aj (fun v=>V v) (fun v=>F vs σ=.ok v σ)):CE E (BK F fa) V:=⟨fun c e=>by
 obtain⟨vs,cs1,h1,c1,e1⟩:=h.h c e
 obtain⟨v,h2,e2⟩:=hF vs ⟨cs1,_,_⟩ h1
 exact⟨v,cs1,h2,c1,Ao e1 e2⟩⟩
theorem CE.bin{F:AV→AV→St→R AV}{V1 V2:AV→Prop}(h:CE E f V1)(h':CE E g V2)(hF:∀a b σ,V1 a→V2 b→Aj (fun v=>V v) (fun v=>F a b σ=.ok v σ)):CE E (AG F f g) V:=⟨fun c e=>by
 obtain⟨a,cs1,h1,c1,e1⟩:=h.h c e
 obtain⟨b,cs2,h2,c2,e2⟩:=h'.h c1 e
 obtain⟨v,h3,e3⟩:=hF a b ⟨cs2,_,_⟩ h1 h2
 exact⟨v,cs2,h3,c2,AE e1 e2 e3⟩⟩
theorem CE.call{r:AU}(h:Q0 E fa Vs)(hr:Xo r Vs U):CE E (AN r fa) (Hi U):=⟨fun c e=>by
 obtain⟨vs,cs1,h1,c1,e1⟩:=h.h c e
 obtain⟨v,cs2,h2,c2,e2⟩:=hr.h c1 h1
 exact⟨_,cs2,⟨v,rfl,h2⟩,c2,DQ e1 e2⟩⟩
theorem CE.tup(h:Q0 E fa Vs)(hV:∀vs,Vs vs→EU (fun ds=>Fu vs=some ds) (fun ds=>ds.length≤big) (fun ds=>U (.tup ds))):CE E (CU fa) (Hi U):=⟨fun c e=>by
 obtain⟨vs,cs1,h1,c1,e1⟩:=h.h c e
 obtain⟨ds,h2,h3,h4⟩:=hV vs h1
 exact⟨_,cs1,⟨_,rfl,h4⟩,c1,BU e1 h2 (Nat.ble_eq_true_of_le h3)⟩⟩
theorem CE.lst(h:Q0 E fa Vs)(hV:∀vs,Vs vs→EU (fun ds=>Fu vs=some ds) (fun ds=>ds.length≤big) (fun ds=>U (.lst ds))):CE E (Bi fa) (Hi U):=⟨fun c e=>by
 obtain⟨vs,cs1,h1,c1,e1⟩:=h.h c e
 obtain⟨ds,h2,h3,h4⟩:=hV vs h1
 exact⟨_,cs1,⟨_,rfl,h4⟩,c1,Bq e1 h2 (Nat.ble_eq_true_of_le h3)⟩⟩
theorem CE.ife(ht:CE E t (Hi fun d=>∃b,d=.bool b))(hk:CE E k V)(hl:CE E l V):CE E (CG (BQ t) k l) V:=⟨fun c e=>by
 obtain⟨_,cs1,⟨_,rfl,b,rfl⟩,c1,e1⟩:=ht.h c e
 cases b with
 |true=>
  obtain⟨v,cs2,h2,c2,e2⟩:=hk.h c1 e
  exact⟨v,cs2,h2,c2,BV (Ax e1) e2⟩
 |false=>
  obtain⟨v,cs2,h2,c2,e2⟩:=hl.h c1 e
  exact⟨v,cs2,h2,c2,BM (Ax e1) e2⟩⟩
theorem cQ{n:Nat}(hn:0<n):Xo AL (fun l=>E2_3 (fun a r=>l=a::r) (fun a r=>a=.lst 1) (fun a r=>E2_3 (fun a' r'=>r=a'::r') (fun a' r'=>a'=.d (.int n)) (fun a' r'=>r'=[]))) (fun d=>Aj (fun(i:Nat)=>i<n) (fun(i:Nat)=>d=Aa i)):=⟨fun c h=>by
 obtain⟨_,_,rfl,rfl,_,_,rfl,rfl,rfl⟩:=h
 obtain⟨i,cs',h1,h2,h3⟩:=VU hn c
 exact⟨_,cs',⟨i,h1,rfl⟩,h2,h3⟩⟩
theorem CE.take(hd:CE E f (· =.lst 1)){n:Nat}(hn:0<n)(hg:CE E g (· =.d (.int n))):CE E (AN AL (AD [f,g])) (Hi fun d=>Aj (fun(i:Nat)=>i<n) (fun(i:Nat)=>d=Aa i)):=.call (.cons hd (.cons hg .nil)) (cQ hn)
theorem CE.takeC(hd:CE E f (· =.lst 1))(n:Nat)(hn:Nat.ble 1 n=true:=by rfl):CE E (AN AL (AD [f,cF (.int n)])) (Hi fun d=>Aj (fun(i:Nat)=>i<n) (fun(i:Nat)=>d=Aa i)):=.take hd (Nat.le_of_ble_eq_true hn) .c
theorem CE.takeEq(hd:CE E f (· =.lst 1))(n:Nat){c:Int}(hn:Nat.ble 1 n=true:=by rfl):CE E (AG C5 (AN AL (AD [f,cF (.int n)])) (cF (.int c))) (Hi fun d=>∃b,d=.bool b):=.bin (.takeC hd n hn) .c fun a b σ h1 h2=>by
 obtain⟨_,rfl,i,_,rfl⟩:=h1
 obtain rfl:=h2
 exact⟨_,⟨_,rfl,_,rfl⟩,EO⟩
theorem CE.rng(h:CE E f (Hi fun d=>Aj (fun(i:Nat)=>i<n) (fun(i:Nat)=>d=Aa i)))(hn:n<2^30):CE E (BK Bw (AD [f])) (Hi fun d=>Aj (fun(i:Nat)=>i<n) (fun(i:Nat)=>d=.rng 0 (i:Int) 1)):=.fn (.cons h .nil) fun vs σ hv=>by
 obtain⟨_,_,rfl,⟨_,rfl,i,hi,rfl⟩,rfl⟩:=hv
 exact⟨_,⟨_,rfl,i,hi,rfl⟩,rfl⟩
theorem Q1{Eb:(Str→Option AV)→Prop}{fi:St→R (List D)}{xs:List D}{σ1:St}(hf:fi σ=.ok xs σ1)(hl:xs.length≤big)(c1:ES ys σ1.cs)(hb:Eb σ1.b)(he:CE (fun z0 b=>Eb b) g (Hi U)):
  JO (fun ds cs'=>Bg fi (Az x) g σ=.ok (.d (.lst ds)) ⟨cs',σ1.m,σ1.b⟩) (fun ds cs'=>ES ys cs') (fun ds cs'=>ds.length=xs.length) (fun ds cs'=>∀y∈ds,U y):=by
 obtain⟨ds,σ',e2,h1,h2,h3,h4⟩:=Zb (t:=Az x) (f:=g) (fun zs out σ=>ES ys σ.cs∧σ.b=σ1.b∧(∀y∈out,U y)∧out.length+zs.length=xs.length) hf hl ⟨c1,rfl,fun z0 h=>(nomatch h),Nat.zero_add _⟩ (fun y xs out σ h=>by
  obtain⟨h1,h2,h3,h4⟩:=h
  obtain⟨_,cs2,⟨d,rfl,hU⟩,c2,e3⟩:=he.h (m:=(σ.setM x (.d y)).m) (b:=σ.b) h1 (by rw[h2];exact hb)
  refine⟨σ.setM x (.d y),d,_,rfl,e3,c2,h2,fun z hz=>?_,by rw[List.length_append];rw[List.length_cons] at h4;show _+1+_=_;lia⟩
  rcases List.mem_append.mp hz with hz|hz
  ·exact h3 z hz
  ·rw[List.mem_singleton.mp hz];exact hU)
 refine⟨ds,σ'.cs,?_,h1,by rw[List.length_nil] at h4;lia,h3⟩
 refine(bind_ok e2).trans ?_
 show R.ok _ _=_
 rw[h2]
theorem CE.compI{Eb:(Str→Option AV)→Prop}{I:Nat→Prop}(hi:CE E f (Hi fun d=>Aj (fun(i:Nat)=>I i) (fun(i:Nat)=>d=.rng 0 (i:Int) 1)))(hn:∀i,I i→i≤1000)(hE:∀m b,E m b→Eb b)(he:CE (fun z0 b=>Eb b) g (Hi U)):CE E (Bg (A7 f) (Az x) g) (Hi fun d=>EU (fun ds=>d=.lst ds) (fun ds=>I ds.length) (fun ds=>∀y∈ds,U y)):=⟨fun{ys cs m b} c e=>by
 obtain⟨_,cs1,⟨_,rfl,i,hi,rfl⟩,c1,e1⟩:=hi.h c e
 have hl:=hn i hi
 obtain⟨ds,cs',e2,c2,h1,h2⟩:=Q1 (x:=x) (BN e1 (E8 (n:=i) (by lia))) (by rw[List.length_map,List.length_range];unfold big;lia) c1 (hE m b e) he
 rw[List.length_map,List.length_range] at h1
 exact⟨_,cs',⟨_,rfl,ds,rfl,by rw[h1];exact hi,h2⟩,c2,e2⟩⟩
theorem CE.comp{Eb:(Str→Option AV)→Prop}(hi:CE E f (Hi fun d=>Aj (fun(i:Nat)=>i<n) (fun(i:Nat)=>d=.rng 0 (i:Int) 1)))(hn:n≤1000)(hE:∀m b,E m b→Eb b)(he:CE (fun z0 b=>Eb b) g (Hi U)):CE E (Bg (A7 f) (Az x) g) (Hi fun d=>EU (fun ds=>d=.lst ds) (fun ds=>ds.length<n) (fun ds=>∀y∈ds,U y)):=.compI (I:=(· <n)) hi (fun i h=>by lia) hE he
theorem ES.len(h:ES ys cs):cs.length=ys.length+2:=by cases h with|mk _ _=>exact List.length_append.trans (by show 2+_=_;lia)
theorem f5(h:ES ys cs)(h':ES ys σ.cs):fin true cs.length (.ok (.ret (.d d)) σ)=.ok (.d d) σ.cs:=Qf (by rw[h.len,h'.len]) (by rw[h.len,←h'.len];exact h'.clo)
theorem Xf{α:Type}{P:α→Prop}{f:α→D}:∀{ds:List D},(∀d∈ds,Aj (fun x=>P x) (fun x=>d=f x))→EU (fun(xs:List α)=>ds=xs.map f) (fun(xs:List α)=>(∀x∈xs,P x)) (fun(xs:List α)=>xs.length=ds.length)
 |[],_=>⟨[],rfl,fun z0 h=>(nomatch h),rfl⟩
 |d::ds,h=>by
  obtain⟨x,hx,rfl⟩:=h d (.head _)
  obtain⟨xs,rfl,h2,h3⟩:=Xf fun y hy=>h y (.tail _ hy)
  refine⟨x::xs,rfl,fun y hy=>?_,by rw[List.length_cons,List.length_cons,h3]⟩
  rcases List.mem_cons.mp hy with rfl|hy
  ·exact hx
  ·exact h2 y hy
end
section
variable {ys cs:List AK} {σ:St} {d:D} {n:Nat}
theorem Xo.run{F:Fn}{B:St→R AF}{Vs:List AV→Prop}{V:D→Prop}(H:∀{ys cs:List AK} {vs:List AV},ES ys cs→Vs vs→vs.length=F.names.length∧E2_3 (fun d σ'=>V d) (fun d σ'=>ES ys σ'.cs) (fun d σ'=>B (Ct (BR F.s) F.names cs vs)=.ok (.ret (.d d)) σ')):Xo (Ar F true B) Vs V:=⟨fun{ys cs vs} c h=>by
 obtain⟨hl,d,σ',hd,c',e⟩:=H c h
 exact⟨d,σ'.cs,hd,c',Ld hl rfl e (f5 c c')⟩⟩
theorem PP:∀l:List Nat,AW [] (l.map fun c=>[c])=l
 |[]=>rfl
 |[c]=>rfl
 |c::d::l=>by
  show[c]++[]++AW [] ((d::l).map fun c=>[c])=_
  rw[PP (d::l)];rfl
theorem ij{i:Nat}(h:i<65536):Wn [.d (Aa i)] σ=.ok (.d (.str [i])) σ:=by
 show(if(0:Int)≤(i:Int)∧(i:Int)≤1114111 then R.ok (AV.d (.str [(i:Int).toNat])) σ else .stuck)=_
 rw[if_pos ⟨by lia,by lia⟩];rfl
noncomputable def PQ:List Nat:=[49,34,92,32,59,97,10,0,55357,65535]
noncomputable def dN(b:Str→Option AV):Prop:=b (N "draws")=some (.lst 1)∧b (N "pool")=some (.d (.lst (PQ.map Aa)))
theorem VW:Xo B3 (· =[.lst 1]) (fun d=>Aj (fun l=>d=.str l) (fun l=>WL 3 l)):=by
 unfold B3 Jl
 refine Xo.run fun{ys cs vs} c hv=>?_
 subst hv
 refine⟨rfl,?_⟩
 rw[show Ct (BR Fd.s) Fd.names cs [.lst 1]=(BJ cs).setB (N "draws") (.lst 1) by kernel_rfl]
 generalize hτ:((BJ cs).setB (N "draws") (.lst 1)).setB (N "pool") (.d (.lst (PQ.map Aa)))=τ
 have td:τ.b (N "draws")=some (.lst 1):=by rw[←hτ];exact QP (by decide+kernel) b_hit
 have tp:τ.b (N "pool")=some (.d (.lst (PQ.map Aa))):=by rw[←hτ];exact b_hit
 have tc:τ.cs=cs:=by rw[←hτ];rfl
 have ed:CE (fun z0 b=>dN b) (Aq (N "draws")) (· =.lst 1):=.bx fun m b h=>h.1
 have ep:CE (fun z0 b=>dN b) (Aq (N "pool")) (· =.d (.lst (PQ.map Aa))):=.bx fun m b h=>h.2
 have el:=CE.fn (F:=BA) (V:=(· =.d (.int (10:Nat)))) (.cons ep .nil) fun vs σ hv=>by
  obtain⟨_,_,rfl,rfl,rfl⟩:=hv
  exact⟨_,rfl,CI (by decide)⟩
 have ei:=CE.bin (F:=Af) (V:=Hi fun d=>Aj (fun(i:Nat)=>i<65536) (fun(i:Nat)=>d=Aa i)) ep (.take ed (by decide) el) fun a b σ h1 h2=>by
  subst h1
  obtain⟨_,rfl,i,hi,rfl⟩:=h2
  have hl:i<PQ.length:=hi
  have hb:∀x∈PQ,x<65536:=by decide
  exact⟨_,⟨_,rfl,_,hb _ (List.getElem_mem hl),rfl⟩,B8 (by rw[List.getElem?_map,List.getElem?_eq_getElem hl];rfl) (by unfold big;lia)⟩
 have ec:=CE.fn (F:=Wn) (V:=Hi fun d=>Aj (fun(c:Nat)=>c<65536) (fun(c:Nat)=>d=.str [c])) (.cons ei .nil) fun vs σ hv=>by
  obtain⟨_,_,rfl,⟨_,rfl,i,hi,rfl⟩,rfl⟩:=hv
  exact⟨_,⟨_,rfl,i,hi,rfl⟩,ij hi⟩
 have e1:=CE.comp (x:=N "turn") (n:=4) (.rng (.takeC ed 4) (by decide)) (by decide) (fun m b h=>h) ec
 obtain⟨_,cs',⟨_,rfl,ds,rfl,hl,hU⟩,c',e1⟩:=e1.h (ys:=ys) (cs:=τ.cs) (m:=τ.m) (b:=τ.b) (by rw[tc];exact c) ⟨td,tp⟩
 obtain⟨l,rfl,h1,h2⟩:=Xf (f:=fun c:Nat=>D.str [c]) hU
 have hm:l.map (fun c:Nat=>D.str [c])=(l.map fun c=>[c]).map .str:=by rw[List.map_map];rfl
 rw[hm] at e1
 have h4:l.length<4:=by rw[h2];exact hl
 refine⟨.str l,⟨cs',τ.m,τ.b⟩,⟨l,rfl,h1,by lia⟩,c',?_⟩
 refine A6 (σ1:=τ) ?_ (DJ (BG AJ rfl (AA e1 AC) ?_))
 ·refine AS (Bq (AA AJ (AA AJ (AA AJ (AA AJ (AA AJ (AA AJ (AA AJ (AA AJ (AA AJ (AA AJ AC)))))))))) rfl) ?_
  rw[←hτ];rfl
 ·have:=Jx (σ:=⟨cs',τ.m,τ.b⟩) (sep:=[]) (ls:=l.map fun c=>[c]) rfl (Nat.le_trans (EQ (B:=1) fun w hw=>by obtain⟨c,_,rfl⟩:=List.mem_map.mp hw;exact Nat.le_refl _) (by rw[List.length_map];unfold big;lia))
  rw[PP] at this
  exact this
end
section
variable {ys cs:List AK} {σ:St} {d:D} {n:Nat}
theorem TX:Xo Cj (· =[.lst 1]) (fun d=>Aj (fun p=>Xa 12 p) (fun p=>d=Hm p)):=by
 unfold Cj IT
 refine Xo.run fun{ys cs vs} c hv=>?_
 subst hv
 refine⟨rfl,?_⟩
 rw[show Ct (BR EN.s) EN.names cs [.lst 1]=(BJ cs).setM (N "draws") (.lst 1) by kernel_rfl]
 have h0:((BJ cs).setM (N "draws") (.lst 1)).m (N "draws")=some (.lst 1):=AI
 have ed:CE (fun m z0=>m (N "draws")=some (.lst 1)) (AB (N "draws")) (· =.lst 1):=.v fun m b h=>h
 obtain⟨_,cs1,⟨_,rfl,n,hn,rfl⟩,c1,e1⟩:=(CE.takeC ed 3).h (ys:=ys) (cs:=cs) (m:=((BJ cs).setM (N "draws") (.lst 1)).m) (b:=fun z0=>none) c AI
 have tp:∀(b:Bool),CE (fun m z0=>m (N "draws")=some (.lst 1)) (CU (AD [cF (.str (Cx b)),AN AL (AD [AB (N "draws"),cF (.int (12:Nat))])])) (Hi fun d=>Aj (fun(i:Nat)=>i<12) (fun(i:Nat)=>d=Hm (some (b,i)))):=fun b=>.tup (.cons .c (.cons (.takeC ed 12) .nil)) fun vs hv=>by
  obtain⟨_,_,rfl,rfl,_,_,rfl,⟨_,rfl,i,hi,rfl⟩,rfl⟩:=hv
  exact⟨_,rfl,by show 2≤big;decide,i,hi,rfl⟩
 have el:=CE.lst (U:=fun d=>Aj (fun(i:Nat)=>i<12) (fun(i:Nat)=>Aj (fun(j:Nat)=>j<12) (fun(j:Nat)=>d=.lst [.none,Hm (some (true,i)),Hm (some (false,j))]))) (.cons (.c (d:=.none)) (.cons (tp true) (.cons (tp false) .nil))) fun vs hv=>by
  obtain⟨_,_,rfl,rfl,_,_,rfl,⟨_,rfl,i,hi,rfl⟩,_,_,rfl,⟨_,rfl,j,hj,rfl⟩,rfl⟩:=hv
  exact⟨_,rfl,by show 3≤big;decide,i,hi,j,hj,rfl⟩
 obtain⟨_,cs2,⟨_,rfl,i,hi,j,hj,rfl⟩,c2,e2⟩:=el.h (m:=(St.setM ⟨cs1,((BJ cs).setM (N "draws") (.lst 1)).m,fun z0=>none⟩ (N "form") (.d (Aa n))).m) (b:=fun z0=>none) c1 (AM (by decide+kernel) (by exact h0))
 have ef:(St.setM ⟨cs1,((BJ cs).setM (N "draws") (.lst 1)).m,fun z0=>none⟩ (N "form") (.d (Aa n))).m (N "form")=some (.d (Aa n)):=AI
 obtain⟨p,hp,hx⟩:Aj (fun p=>Xa 12 p) (fun p=>[D.none,Hm (some (true,i)),Hm (some (false,j))][n]? =some (Hm p)):=by
  match n,hn with
  |0,_=>exact⟨none,trivial,rfl⟩
  |1,_=>exact⟨some (true,i),hi,rfl⟩
  |2,_=>exact⟨some (false,j),hj,rfl⟩
 exact⟨Hm p,_,⟨p,hp,rfl⟩,c2,A6 (AS e1 Ae) (DJ (AE e2 (AH (by exact ef)) (B8 hx (by unfold big;lia))))⟩
noncomputable def A5:List Nat:=sL "----k------llccuucsssssss--s-s----------------------------tttttnn--f-n-ssss--tt----s-"
theorem Io:A5.length=85∧∀op<85,(decide (A5.getD op 0=45)=decide (Cg op=[]))∧decide (A5.getD op 0∈sL "ks")=decide (Cg op=sL "k" ∨Cg op=sL "s")∧A5.getD op 0<65536:=by decide+kernel
theorem TY{op:Nat}(h:op<85):A5[op]? =some (A5.getD op 0):=by
 have:op<A5.length:=by rw[Io.1];exact h
 rw[List.getD_eq_getElem?_getD,List.getElem?_eq_getElem this];rfl
theorem TZ(hc:clo cs.length cs=true):EM [] cs=.ok (.d (.str A5)) cs:=by
 unfold EM IS
 exact Ac (σ0:=BJ cs) rfl (by kernel_rfl) (BY AJ (BH hc rfl))
theorem Mi:Xo CN (· =[.lst 1,.d (.str A5)]) (fun d=>Aj (fun(c:Nat×Option Nat)=>(c.1<85∧(c.2=none↔Cg c.1=[])∧∀a,c.2=some a→a<10^9)) (fun(c:Nat×Option Nat)=>d=Hl c)):=by
 unfold CN Ej
 refine Xo.run fun{ys cs vs} c hv=>?_
 subst hv
 refine⟨rfl,?_⟩
 rw[show Ct (BR Cv.s) Cv.names cs [.lst 1,.d (.str A5)]=((BJ cs).setM (N "draws") (.lst 1)).setM (N "kinds") (.d (.str A5)) by kernel_rfl]
 have ed:CE (fun m z0=>m (N "draws")=some (.lst 1)∧m (N "kinds")=some (.d (.str A5))) (AB (N "draws")) (· =.lst 1):=.v fun m b h=>h.1
 have el:=CE.fn (E:=fun m z0=>m (N "draws")=some (.lst 1)∧m (N "kinds")=some (.d (.str A5))) (F:=BA) (V:=(· =.d (.int (85:Nat)))) (.cons (.v (x:=N "kinds") fun m b h=>h.2) .nil) fun vs σ hv=>by
  obtain⟨_,_,rfl,rfl,rfl⟩:=hv
  exact⟨_,rfl,(Kd (by rw[Io.1];decide)).trans (by rw[Io.1])⟩
 have h1:(((BJ cs).setM (N "draws") (.lst 1)).setM (N "kinds") (.d (.str A5))).m (N "draws")=some (.lst 1):=AM (by decide+kernel) AI
 have h2:(((BJ cs).setM (N "draws") (.lst 1)).setM (N "kinds") (.d (.str A5))).m (N "kinds")=some (.d (.str A5)):=AI
 obtain⟨_,cs1,⟨_,rfl,op,hop,rfl⟩,c1,e1⟩:=(CE.take ed (by decide) el).h (ys:=ys) (cs:=cs) (m:=(((BJ cs).setM (N "draws") (.lst 1)).setM (N "kinds") (.d (.str A5))).m) (b:=fun z0=>none) c ⟨h1,h2⟩
 generalize hτ:St.setM ⟨cs1,(((BJ cs).setM (N "draws") (.lst 1)).setM (N "kinds") (.d (.str A5))).m,fun z0=>none⟩ (N "op") (.d (Aa op))=τ
 have td:τ.m (N "draws")=some (.lst 1):=by rw[←hτ];exact AM (by decide+kernel) h1
 have tk:τ.m (N "kinds")=some (.d (.str A5)):=by rw[←hτ];exact AM (by decide+kernel) h2
 have to:τ.m (N "op")=some (.d (Aa op)):=by rw[←hτ];exact AI
 have tc:ES ys τ.cs:=by rw[←hτ];exact c1
 have ek:=Io.2 op hop
 have et:BQ (AG C5 (AG Af (AB (N "kinds")) (AB (N "op"))) (cF (D.str (N "-").cps.toList))) τ=.ok (decide (Cg op=[])) τ:=by
  refine Ax (AE (AE (AH tk) (AH to) (Uz (by unfold big;lia) (TY hop))) AJ ?_)
  rw[L7 (by show(_&&true)=true;rw[Bool.and_true];exact decide_eq_true (Nat.lt_trans ek.2.2 (by decide))) rfl,←ek.1,show(N "-").cps.toList=[45] by decide+kernel,show decide ([A5.getD op 0]=[45])=decide (A5.getD op 0=45) from decide_eq_decide.mpr ⟨fun e=>List.head_eq_of_cons_eq e,fun e=>by rw[e]⟩]
 have ep:=CE.bin (F:=Ay PV) (E:=fun m z0=>m (N "draws")=some (.lst 1)) (V:=(· =.d (.int ((10^9:Nat):Int)))) (.c (d:=.int 10)) (.c (d:=.int 9)) fun a b σ h1 h2=>by
  subst h1 h2
  exact⟨_,rfl,rfl⟩
 have ed:CE (fun m z0=>m (N "draws")=some (.lst 1)) (AB (N "draws")) (· =.lst 1):=.v fun m b h=>h
 have ea:JO (fun arg cs'=>(arg=none↔Cg op=[])) (fun arg cs'=>(∀a,arg=some a→a<10^9)) (fun arg cs'=>ES ys cs') (fun arg cs'=>CG (BQ (AG C5 (AG Af (AB (N "kinds")) (AB (N "op"))) (cF (D.str (N "-").cps.toList)))) (cF D.none) (AN AL (AD [AB (N "draws"),CG (BQ (AG (CC fun a b=>decide (a>b)) (AN AL (AD [AB (N "draws"),cF (D.int 4)])) (cF (D.int 0)))) (cF (D.int 4)) (AG (Ay PV) (cF (D.int 10)) (cF (D.int 9)))])) τ=.ok (.d (IX arg)) {τ with cs:=cs'}):=by
  by_cases q:Cg op=[]
  ·exact⟨none,τ.cs,⟨fun z0=>q,fun z0=>rfl⟩,fun a h=>(nomatch h),tc,BV (et.trans (by rw[decide_eq_true q])) AJ⟩
  ·rw[decide_eq_false q] at et
   have eg:=CE.bin (F:=CC fun a b=>decide (a>b)) (V:=Hi fun d=>∃b,d=.bool b) (CE.takeC ed 4) (.c (d:=.int 0)) fun a b σ h1 h2=>by
    obtain⟨_,rfl,i,_,rfl⟩:=h1
    subst h2
    exact⟨_,⟨_,rfl,_,rfl⟩,rfl⟩
   obtain⟨_,cs2,⟨_,rfl,b,rfl⟩,c2,e2⟩:=eg.h (m:=τ.m) (b:=τ.b) tc td
   obtain⟨k,hk0,hk,e3⟩:EU (fun(k:Nat)=>0<k) (fun(k:Nat)=>k≤10^9) (fun(k:Nat)=>∀cs,EU (fun cs'=>(ES ys cs→ES ys cs')) (fun cs'=>(b=true→cF (D.int 4) ⟨cs,τ.m,τ.b⟩=.ok (.d (.int k)) ⟨cs',τ.m,τ.b⟩)) (fun cs'=>(b=false→AG (Ay PV) (cF (D.int 10)) (cF (D.int 9)) ⟨cs,τ.m,τ.b⟩=.ok (.d (.int k)) ⟨cs',τ.m,τ.b⟩))):=by
    cases b with
    |true=>exact⟨4,by decide,by decide,fun cs=>⟨cs,id,fun z0=>rfl,fun h=>nomatch h⟩⟩
    |false=>exact⟨10^9,by decide,Nat.le_refl _,fun cs=>⟨cs,id,fun h=>(nomatch h),fun z0=>rfl⟩⟩
   obtain⟨cs3,i3,a3,b3⟩:=e3 cs2
   obtain⟨i,cs4,hi,c4,e4⟩:=VU hk0 (i3 c2)
   refine⟨some i,cs4,⟨(fun h=>nomatch h),fun h=>absurd h q⟩,fun a h=>by cases h;lia,c4,BM et (DQ (σ1:=⟨cs3,τ.m,τ.b⟩) (vs:=[.lst 1,.d (.int k)]) (AA (AH td) (AA (Za (Ax e2) a3 b3) AC)) e4)⟩
 obtain⟨arg,cs',h1,h2,c',e2⟩:=ea
 refine⟨Hl (op,arg),_,⟨(op,arg),⟨hop,h1,h2⟩,rfl⟩,c',A6 (AS e1 ?_) (DJ (BU (AA (AH to) (AA e2 AC)) rfl))⟩
 exact Ae.trans (by rw[hτ])
noncomputable def Ga:List (List Nat):=C1.map (·.1)
theorem Ta(hc:clo cs.length cs=true):EL [] cs=.ok (.d (.lst (Ga.map .str))) cs:=by
 unfold EL IQ
 refine Ac (σ0:=BJ cs) rfl (by kernel_rfl) ?_
 refine Av (AS AJ Ae) (Av (AS (AE (AH AI) AJ (DP (by kernel_rfl))) Ae) (Av (AS (AE (AH AI) AJ (DP (by kernel_rfl))) Ae) (Av (AS (AE (AH AI) AJ (DP (by kernel_rfl))) Ae) (Av (AS (AE (AH AI) AJ (DP (by kernel_rfl))) Ae) (Av (AS (AE (AH AI) AJ (DP (by kernel_rfl))) Ae) (BY (BG (AH AI) rfl (AA AJ AC) (Mv (Nat.le_of_ble_eq_true (by kernel_rfl)))) ?_))))))
 refine(BH hc rfl).trans ?_
 congr 3
end
theorem cR{n k:Nat}(h:0<k):Nat.toDigits 16 (n+k*16)=Nat.toDigits 16 (n/16+k)++[Nat.digitChar (n%16)]:=by
 rw[Nat.toDigits_of_base_le (by decide) (Nat.le_trans (Nat.le_mul_of_pos_left 16 h) (Nat.le_add_left _ _)),Nat.add_mul_div_right n k (by decide),Nat.add_mul_mod_self_right]
theorem cT{n:Nat}(h:n<65536):Nat.toDigits 16 (n+65536)=[Nat.digitChar 1,Nat.digitChar (n/4096),Nat.digitChar (n/256%16),Nat.digitChar (n/16%16),Nat.digitChar (n%16)]:=by
 refine(cR (n:=n) (k:=4096) (by decide)).trans ?_
 rw[show Nat.toDigits 16 (n/16+4096)=_ from cR (n:=n/16) (k:=256) (by decide),show Nat.toDigits 16 (n/16/16+256)=_ from cR (n:=n/16/16) (k:=16) (by decide),show n/16/16=n/256 from Nat.div_div_eq_div_mul ..,
  show Nat.toDigits 16 (n/256/16+16)=_ from cR (n:=n/256/16) (k:=1) (by decide),show n/256/16=n/4096 from Nat.div_div_eq_div_mul ..,show n/4096/16=0 from(Nat.div_div_eq_div_mul ..).trans (Nat.div_eq_of_lt h),Nat.mod_eq_of_lt (Nat.div_lt_of_lt_mul h)]
 rfl
theorem cU{n:Nat}(h:n<65536):Pb ((n:Int)+65536)=[48,120,49]++Kc n:=by
 have hd':∀k<16,(Nat.digitChar k).toNat=hd k:=by decide+kernel
 have e0:((n:Int)+65536).natAbs=n+65536:=by lia
 have e1:Pb ((n:Int)+65536)=[48,120]++(Str.ofString (String.ofList (Nat.toDigits 16 (n+65536)))).cps.toList:=by
  unfold Pb baseText
  rw[if_neg (by lia),e0]
  show(((Str.ofString "").cps++(Str.ofString "0x").cps)++(Str.ofString (String.ofList (Nat.toDigits 16 (n+65536)))).cps).toList=_
  rw[Array.toList_append,Array.toList_append,show(Str.ofString "").cps.toList=[] by decide+kernel,show(Str.ofString "0x").cps.toList=[48,120] by decide+kernel]
  rfl
 rw[e1,cT h,show(Str.ofString (String.ofList [Nat.digitChar 1,Nat.digitChar (n/4096),Nat.digitChar (n/256%16),Nat.digitChar (n/16%16),Nat.digitChar (n%16)])).cps.toList=(String.ofList [Nat.digitChar 1,Nat.digitChar (n/4096),Nat.digitChar (n/256%16),Nat.digitChar (n/16%16),Nat.digitChar (n%16)]).toList.map Char.toNat from cpsOfBytes_string _,String.toList_ofList]
 simp only[List.map_cons,List.map_nil]
 rw[hd' 1 (by lia),hd' (n/4096) (by lia),hd' (n/256%16) (by lia),hd' (n/16%16) (by lia),hd' (n%16) (by lia)]
 rfl
section
variable {σ σ1:St} {cs:List AK} {f g m h:St→R AV}
theorem f6{F G:AV→AV→St→R AV}{a b d:AV}{c e:Bool}(h1:f σ=.ok a σ)(h2:m σ=.ok b σ)(h3:F a b σ=.ok (.d (.bool c)) σ)(h4:h σ=.ok d σ)(h5:G b d σ=.ok (.d (.bool e)) σ):M7 F G f m h σ=.ok (.d (.bool (c&&e))) σ:=by
 refine(bind_ok h1).trans ((bind_ok h2).trans ((bind_ok h3).trans ((bind_ok (a:=c) rfl).trans ?_)))
 cases c
 ·rfl
 ·exact(bind_ok h4).trans h5
theorem aR(c:Nat):(((decide ((33:Int)≤c)&&decide ((c:Int)≤126))&& !(decide ((34:Int)=c)||(decide ((92:Int)=c)||false))))=Cr c:=by
 unfold Cr
 rw[Bool.eq_iff_iff]
 simp only[Bool.and_eq_true,decide_eq_true_eq,Bool.not_eq_true',Bool.or_eq_false_iff,decide_eq_false_iff_not,List.cons.injEq,and_true]
 lia
theorem aU{n:Int}:JX (.d (.int n)) (.d (.tup [.int 34,.int 92])) σ=.ok (.d (.bool (!(decide (34=n)||(decide (92=n)||false))))) σ:=by
 have:Pd σ.cs (.d (.int n)) [.int 34,.int 92]=some (decide (34=n)||(decide (92=n)||false)):=by
  show(match OP σ.cs (.d (.int 34)) (.d (.int n)),(match OP σ.cs (.d (.int 92)) (.d (.int n)),some false with|some a,some b=>some (a||b)|_,_=>none) with|some a,some b=>some (a||b)|_,_=>none)=_
  rw[Iz,Iz]
 show(ofO (Pd σ.cs (.d (.int n)) [.int 34,.int 92]) fun r=>R.ok (AV.d (.bool (!r))) σ)=_
 rw[this];rfl
theorem Q3{l:List Nat}(h:∀c∈l,c<65536)(hl:l.length≤10000)(hc:clo cs.length cs=true):DD [.d (.str l)] cs=.ok (.d (.str (DI l))) cs:=by
 unfold DD HN
 refine Ac (σ0:=(BJ cs).setM (N "text") (.d (.str l))) rfl (by kernel_rfl) ?_
 refine Av (AS AJ Ae) ?_
 refine L5 (BN B0 rfl) (fun xs σ=>JO (fun pre post=>l=pre++post) (fun pre post=>xs=post.map (fun c=>D.str [c])) (fun pre post=>σ.cs=cs) (fun pre post=>σ.m (N "found")=some (.d (.str (Cw pre))))) ⟨[],l,rfl,rfl,rfl,AI⟩ ?_ ?_
 ·rintro x xs σ ⟨pre,post,e,e2,e3,e4⟩
  cases post with
  |nil=>cases e2
  |cons c post=>
   cases e2
   have hcc:c<65536:=h c (by rw[e];simp)
   have hpl:(Cw pre).length≤60000:=by
    have:=IV pre
    have:l.length=pre.length+(post.length+1):=by rw[e];simp
    lia
   have hq:Cw (pre++[c])=Cw pre++Sk c:=by simp[Cw]
   refine⟨_,Ae,.inl ⟨((σ.setM (N "sign") (.d (.str [c]))).setM (N "is_plain") (.d (.bool (Cr c)))).setM (N "found") (.d (.str (Cw (pre++[c])))),?_,pre++[c],post,by rw[e];simp,rfl,e3,AI⟩⟩
   generalize hτ:σ.setM (N "sign") (.d (.str [c]))=τ
   have ts:τ.m (N "sign")=some (.d (.str [c])):=by rw[←hτ];exact AI
   have tf:τ.m (N "found")=some (.d (.str (Cw pre))):=by rw[←hτ];exact AM (by decide+kernel) e4
   have eo:∀{τ:St},τ.m (N "sign")=some (.d (.str [c]))→BK Pc (AD [AB (N "sign")]) τ=.ok (.d (.int c)) τ:=fun ts=>Ao (AA (AH ts) AC) rfl
   have ts':(τ.setM (N "is_plain") (.d (.bool (Cr c)))).m (N "sign")=some (.d (.str [c])):=AM (by decide+kernel) ts
   have tf':(τ.setM (N "is_plain") (.d (.bool (Cr c)))).m (N "found")=some (.d (.str (Cw pre))):=AM (by decide+kernel) tf
   have e1:=Es (f6 (F:=CC fun a b=>decide (a≤b)) (G:=CC fun a b=>decide (a≤b)) (AJ (σ:=τ) (d:=.int 33)) (eo ts) rfl (AJ (d:=.int 126)) rfl) fun z0=>AE (F:=JX) (eo ts) (BU (AA (AJ (d:=.int 34)) (AA (AJ (d:=.int 92)) AC)) rfl) aU
   rw[aR] at e1
   have e2:CG (BQ (AB (N "is_plain"))) (AB (N "sign")) (AG As (cF (D.str (N "\\u").cps.toList)) (CD (BK YM (AD [AG As (BK Pc (AD [AB (N "sign")])) (cF (D.int 65536))])) (some (cF (D.int 3))) none)) (τ.setM (N "is_plain") (.d (.bool (Cr c))))=.ok (.d (.str (Sk c))) (τ.setM (N "is_plain") (.d (.bool (Cr c)))):=by
    refine Ux (c:=Cr c) (Ax (AH AI)) (fun hp=>?_) fun hp=>?_
    ·rw[show Sk c=[c] by unfold Sk;rw[if_pos hp]]
     exact AH ts'
    ·rw[show Sk c=92::117::Kc c by unfold Sk;rw[if_neg (by rw[hp];decide)]]
     have eh:YM [.d (.int ((c:Int)+65536))] (τ.setM (N "is_plain") (.d (.bool (Cr c))))=.ok (.d (.str ([48,120,49]++Kc c))) (τ.setM (N "is_plain") (.d (.bool (Cr c)))):=by
      show(if(Pb ((c:Int)+65536)).length≤big then R.ok (AV.d (.str (Pb ((c:Int)+65536)))) _ else .stuck)=_
      rw[cU hcc];exact if_pos (by show 7≤big;decide)
     exact AE AJ (QV (Ao (AA (AE (eo ts') AJ rfl) AC) eh) AJ (by decide) (by show 7≤big;decide)) (DP rfl)
   refine A6 (AS e1 Ae) ((AS (AE (AH tf') e2 (DP (Nat.ble_eq.mpr ?_))) Ae).trans (by rw[hq]))
   have:=Vx c
   unfold big;lia
 ·rintro σ ⟨pre,post,e,e2,e3,e4⟩
  cases post with
  |cons=>cases e2
  |nil=>
   rw[List.append_nil] at e
   subst e
   have hq:=IV l
   exact BY (AE (AE AJ (AH e4) (DP (Nat.ble_eq.mpr (by show 1+_≤_;unfold big;lia)))) AJ (DP (Nat.ble_eq.mpr (by rw[List.length_append];show 1+_+1≤_;unfold big;lia)))) (BH hc e3)
end
section
variable {σ σ1:St} {cs:List AK} {f g m:St→R AV} {h:Hd} {us:List D}
theorem GN{a b:List Nat}(h1:f σ=.ok (.d (.str a)) σ)(h2:g σ=.ok (.d (.str b)) σ)(hl:a.length+b.length≤big):AG As f g σ=.ok (.d (.str (a++b))) σ:=AE h1 h2 (Fj hl)
theorem VX{pc:Nat}(H:iw h)(hpc:pc<h.code.length)(hc:clo cs.length cs=true):D7 [.d (.obj (h.flds us)),.d (.int pc),.d (.lst (Ga.map .str)),.d (.str A5)] cs=.ok (.d (.str (BI h pc))) cs:=by
 unfold D7 Jo
 refine Ac (σ0:=((((BJ cs).setM (N "drawn") (.d (.obj (h.flds us)))).setM (N "pc") (.d (.int pc))).setM (N "names") (.d (.lst (Ga.map .str)))).setM (N "kinds") (.d (.str A5))) rfl (by kernel_rfl) ?_
 obtain⟨op,arg,e⟩:∃op arg,h.code[pc]=(op,arg):=⟨_,_,rfl⟩
 have hm:=H.ok.code _ (List.getElem_mem hpc)
 have hA:=H.args _ (List.getElem_mem hpc)
 rw[e] at hm hA
 obtain⟨hop,ha⟩:=hm
 have hop:op<85:=hop
 have ha:∀a,arg=some a→B7 a:=ha
 have hA:arg=none↔Cg op=[]:=hA
 have hpc':pc<10000:=by have:=H.ok.lens.2.2.1;lia
 have hln:pc<h.lines.length:=by rw[←H.rows];exact hpc
 have hcode:BI h pc=AW [32] (Ak h pc op arg)++Cs h op arg:=by unfold BI;rw[List.getElem?_eq_getElem hpc,e]
 have v0:∀{x v},(((BJ cs).setM (N "drawn") (.d (.obj (h.flds us)))).setM (N "pc") (.d (.int pc))).m x=some v→x≠N "names" →x≠N "kinds" →(((((BJ cs).setM (N "drawn") (.d (.obj (h.flds us)))).setM (N "pc") (.d (.int pc))).setM (N "names") (.d (.lst (Ga.map .str)))).setM (N "kinds") (.d (.str A5))).m x=some v:=fun q h1 h2=>AM h2 (AM h1 q)
 refine Av (σ1:=((((((BJ cs).setM (N "drawn") (.d (.obj (h.flds us)))).setM (N "pc") (.d (.int pc))).setM (N "names") (.d (.lst (Ga.map .str)))).setM (N "kinds") (.d (.str A5))).setM (N "op") (.d (Aa op))).setM (N "given") (.d (IX arg))) (AS (AE (Ab (AH (v0 (AM (by decide+kernel) AI) (by decide+kernel) (by decide+kernel))) Jw) (AH (v0 AI (by decide+kernel) (by decide+kernel))) (B8 (x:=Hl (op,arg)) (by rw[List.getElem?_map,List.getElem?_eq_getElem hpc,e];rfl) (by unfold big;lia))) rfl) ?_
 generalize hτ:((((((BJ cs).setM (N "drawn") (.d (.obj (h.flds us)))).setM (N "pc") (.d (.int pc))).setM (N "names") (.d (.lst (Ga.map .str)))).setM (N "kinds") (.d (.str A5))).setM (N "op") (.d (Aa op))).setM (N "given") (.d (IX arg))=τ
 have tg:τ.m (N "given")=some (.d (IX arg)):=by rw[←hτ];exact AI
 have to:τ.m (N "op")=some (.d (Aa op)):=by rw[←hτ];exact AM (by decide+kernel) AI
 have tk:τ.m (N "kinds")=some (.d (.str A5)):=by rw[←hτ];exact AM (by decide+kernel) (AM (by decide+kernel) AI)
 have tn:τ.m (N "names")=some (.d (.lst (Ga.map .str))):=by rw[←hτ];exact AM (by decide+kernel) (AM (by decide+kernel) (AM (by decide+kernel) AI))
 have tp:τ.m (N "pc")=some (.d (.int pc)):=by rw[←hτ];exact AM (by decide+kernel) (AM (by decide+kernel) (v0 AI (by decide+kernel) (by decide+kernel)))
 have tu:τ.m (N "drawn")=some (.d (.obj (h.flds us))):=by rw[←hτ];exact AM (by decide+kernel) (AM (by decide+kernel) (v0 (AM (by decide+kernel) AI) (by decide+kernel) (by decide+kernel)))
 have tc:τ.cs=cs:=by rw[←hτ];rfl
 have hcl:clo τ.cs.length τ.cs=true:=by rw[tc];exact hc
 have hl0:h.lines.getD pc 0=h.lines[pc]:=by rw[List.getD_eq_getElem?_getD,List.getElem?_eq_getElem hln];rfl
 have hnum:=H.ok.lines _ (List.getElem_mem hln)
 have l1:=Bf (n:=pc) (Nat.lt_trans hpc' (by decide))
 have l2:=Bf hnum
 have l3:(Fi op).length≤20:=(Kg hop).2.1
 have l4:(if arg=none then[] else[32]++A9 ((arg.getD 0:Nat):Int)).length≤32:=by
  cases arg with
  |none=>exact Nat.zero_le _
  |some a=>have:=Bf (ha a rfl);show(A9 (a:Int)).length+1≤32;lia
 have hw:AW [32] (Ak h pc op arg)=((((A9 pc++[32])++A9 (h.lines[pc]:Nat))++[32])++Fi op)++(if arg=none then[] else[32]++A9 ((arg.getD 0:Nat):Int)):=by
  unfold Ak
  rw[hl0]
  cases arg with
  |none=>show A9 pc++[32]++(A9 _++[32]++Fi op)=_;simp
  |some a=>show A9 pc++[32]++(A9 _++[32]++(Fi op++[32]++A9 a))=_;simp
 have b:∀{n:Nat},n≤300→n≤big:=fun h=>Nat.le_trans h (by decide)
 have eg:CG (BQ (AG bD (AB (N "given")) (cF .none))) (cF (.str (N "").cps.toList)) (AG As (cF (.str (N " ").cps.toList)) (BK Ew (AD [AB (N "given")]))) τ=.ok (.d (.str (if arg=none then[] else[32]++A9 ((arg.getD 0:Nat):Int)))) τ:=by
  cases arg with
  |none=>exact BV (Ax (AE (AH tg) AJ rfl)) AJ
  |some a=>exact BM (Ax (AE (AH tg) AJ rfl)) (GN AJ (Ao (AA (AH tg) AC) (Eo (ha a rfl))) (b (by have:=Bf (ha a rfl);show 1+(A9 (a:Int)).length≤300;lia)))
 have ew:=GN (GN (GN (GN (GN (Ao (AA (AH tp) AC) (Eo (Nat.lt_trans hpc' (by decide)))) (AJ (d:=.str [32])) (b (by show _+1≤_;lia)))
  (Ao (AA (AE (Ab (AH tu) Ms) (AH tp) (B8 (x:=Aa h.lines[pc]) (by rw[List.getElem?_map,List.getElem?_eq_getElem hln];rfl) (by unfold big;lia))) AC) (Eo hnum)) (b (by rw[List.length_append];show _+1+_≤_;lia))) (AJ (d:=.str [32])) (b (by rw[List.length_append,List.length_append];show _+1+_+1≤_;lia)))
  (AE (AH tn) (AH to) (B8 (x:=.str (Fi op)) (by
   have hop':op<C1.length:=by rw[Mt];exact hop
   have:Fi op=(C1[op]).1:=by unfold Fi MA;rw[List.getD_eq_getElem?_getD,List.getElem?_eq_getElem hop'];rfl
   rw[this]
   unfold Ga
   rw[List.getElem?_map,List.getElem?_map,List.getElem?_eq_getElem hop'];rfl) (by unfold big;lia))) (b (by rw[List.length_append,List.length_append,List.length_append];show _+1+_+1+_≤_;lia))) eg (b (by rw[List.length_append,List.length_append,List.length_append,List.length_append];show _+1+_+1+_+_≤_;lia))
 rw[←hw] at ew
 have lw:(AW [32] (Ak h pc op arg)).length≤300:=by
  rw[hw,List.length_append,List.length_append,List.length_append,List.length_append,List.length_append];show _+1+_+1+_+_≤_;lia
 refine Av (AS ew Ae) ?_
 generalize hτ2:τ.setM (N "line") (.d (.str (AW [32] (Ak h pc op arg))))=τ2
 have tl2:τ2.m (N "line")=some (.d (.str (AW [32] (Ak h pc op arg)))):=by rw[←hτ2];exact AI
 have tg2:τ2.m (N "given")=some (.d (IX arg)):=by rw[←hτ2];exact AM (by decide+kernel) tg
 have to2:τ2.m (N "op")=some (.d (Aa op)):=by rw[←hτ2];exact AM (by decide+kernel) to
 have tk2:τ2.m (N "kinds")=some (.d (.str A5)):=by rw[←hτ2];exact AM (by decide+kernel) tk
 have tu2:τ2.m (N "drawn")=some (.d (.obj (h.flds us))):=by rw[←hτ2];exact AM (by decide+kernel) tu
 have tc2:τ2.cs=cs:=by rw[←hτ2];exact tc
 have lc:(h.consts.map cD).length≤big:=by rw[List.length_map];exact Nat.le_trans H.ok.lens.2.1 (by decide)
 have et:DL (Eu .And) [BQ (AG Ot (AG Af (AB (N "kinds")) (AB (N "op"))) (cF (.str (N "ks").cps.toList))),BQ (AG (CC fun a b=>decide (a<b)) (AB (N "given")) (BK BA (AD [AQ (N "consts") (AB (N "drawn"))])))] τ2=.ok (decide (Cg op=sL "k" ∨Cg op=sL "s")&&decide (arg.getD 0<h.consts.length)) τ2:=by
  refine HQ (Ax (AE (AE (AH tk2) (AH to2) (Uz (by unfold big;lia) (TY hop))) AJ (jk (Io.2 op hop).2.1))) fun q=>?_
  cases arg with
  |none=>
   have q:=of_decide_eq_true q
   rw[hA.mp rfl] at q
   rcases q with q|q<;>exact absurd q (by decide+kernel)
  |some a=>exact Mp (Ax (AE (AH tg2) (Ao (AA (Ab (AH tu2) Gq) AC) (CI lc)) (by show R.ok (AV.d (.bool (decide ((a:Int)<((h.consts.map cD).length:Nat))))) τ2=_;rw[List.length_map];congr 3;exact decide_eq_decide.mpr Int.ofNat_lt)))
 cases hb:decide (Cg op=sL "k" ∨Cg op=sL "s")&&decide (arg.getD 0<h.consts.length) with
 |false=>
  rw[hb] at et
  have hr:Cs h op arg=[]:=by
   unfold Cs
   cases arg with
   |none=>rfl
   |some a=>
    dsimp only
    by_cases q:Cg op=sL "k" ∨Cg op=sL "s"
    ·rw[if_pos q]
     rw[decide_eq_true q,Bool.true_and,decide_eq_false_iff_not] at hb
     have hb:¬a<h.consts.length:=hb
     rw[List.getElem?_eq_none (Nat.le_of_not_lt hb)]
    ·rw[if_neg q]
  rw[hr,List.append_nil] at hcode
  rw[hcode]
  exact Av (BM et Cq) (BY (AH tl2) (BH hc tc2))
 |true=>
  rw[hb] at et
  rw[Bool.and_eq_true,decide_eq_true_eq,decide_eq_true_eq] at hb
  cases arg with
  |none=>rcases hb.1 with q|q<;>(rw[hA.mp rfl] at q;exact absurd q (by decide+kernel))
  |some a=>
   have hlt:a<h.consts.length:=hb.2
   have hr:Cs h op (some a)=sL " ; "++EP h.consts[a]:=by
    unfold Cs
    dsimp only
    rw[if_pos hb.1,List.getElem?_eq_getElem hlt]
   have hk:=H.ok.consts _ (List.getElem_mem hlt)
   have lk:=I5 hk
   have hx:(h.consts.map cD)[a]? =some (cD h.consts[a]):=by rw[List.getElem?_map,List.getElem?_eq_getElem hlt];rfl
   generalize h.consts[a]=c at hr hk lk hx
   have e1:=AS (t:=Az (N "value")) (AE (F:=Af) (Ab (AH tu2) Gq) (AH tg2) (B8 hx (by have:=H.ok.lens.2.1;unfold big;lia))) Ae
   have v3:(τ2.setM (N "value") (.d (cD c))).m (N "value")=some (.d (cD c)):=AI
   have l3':(τ2.setM (N "value") (.d (cD c))).m (N "line")=_:=AM (by decide+kernel) tl2
   have e2:CG (BQ (BK F8 (AD [AB (N "value"),cF (.ty "str")]))) (AN DD (AD [AB (N "value")])) (BK Ew (AD [AB (N "value")])) (τ2.setM (N "value") (.d (cD c)))=.ok (.d (.str (EP c))) (τ2.setM (N "value") (.d (cD c))):=by
    cases c with
    |inl l=>exact BV (Ax (Ao (AA (AH v3) (AA AJ AC)) rfl)) (AY (AA (AH v3) AC) (Q3 hk.1 hk.2 (by show clo τ2.cs.length τ2.cs=true;rw[tc2];exact hc)))
    |inr n=>exact BM (Ax (Ao (AA (AH v3) (AA AJ AC)) rfl)) (Ao (AA (AH v3) AC) (Eo hk))
   have e3:=GN (GN (AH l3') (AJ (d:=.str (sL " ; "))) (by show _+3≤big;unfold big;lia)) e2 (by rw[List.length_append];show _+3+_≤big;unfold big;lia)
   refine Av (BV et (A6 e1 (AS e3 Ae))) (BY (AH AI) ?_)
   rw[hcode,hr,←List.append_assoc]
   exact BH hc tc2
end
noncomputable def Tb(n:Nat)(h:Hd)(cv uv lv:AV):List (Str×AV):=[(N "name",.d (Ek h.name)),(N "params",.d (.lst (h.params.map .str))),(N "code",cv),(N "consts",.lst (n+2)),(N "units",uv),(N "handlers",.lst (n+4)),(N "lines",lv),
 (N "local_count",.d (Aa h.lc)),(N "cell_count",.d (Aa h.cc)),(N "captures",.d (.lst (h.caps.map Le))),(N "is_strict",.d (.bool h.strict)),(N "uses_arguments",.d (.bool h.args)),(N "self_slot",.d (Hm h.self)),(N "arguments_place",.d (Hm h.argp)),(N "param_places",.d (.lst (h.places.map Hm)))]
noncomputable def OM(n:Nat)(h:Hd)(cv uv lv:AV):List AK:=[.dict (Tb n h cv uv lv),B9 [],B9 (h.consts.map cD),B9 [],B9 (h.handlers.map L9),B9 []]
noncomputable def mE(b:Str→Option AV):Prop:=b (N "draws")=some (.lst 1)∧b (N "kinds")=some (.d (.str A5))
structure Md(ys:List AK)(n:Nat)(h:Hd)(cv uv lv:AV)(inn:D)(τ:St):Prop where
 hn:n=ys.length+2
 c:ES (ys++OM n h cv uv lv) τ.cs
 e:mE τ.b
 i:τ.m (N "inner")=some (.d inn)
 m:τ.m (N "drawn")=some (.obj 117 n)
 l1:cv.lo (n+6)=true
 l2:uv.lo (n+6)=true
 l3:lv.lo (n+6)=true
section
variable {ys cs A A':List AK} {n j:Nat} {h h':Hd} {cv uv lv cv' uv' lv' v:AV} {inn d:D} {τ:St} {f:St→R AV} {V:AV→Prop} {x:Str} {l:List D}
theorem ES.turn(c:ES (ys++A) cs):aq (fun b=>b.length=ys.length+2) (fun b=>cs=b++A) (fun b=>(∀A',A'.length=A.length→A'.all (AK.lo (ys.length+2+A.length))=true→ES (ys++A') (b++A'))) (fun b=>∀cs0,ES ys cs0→ES ys b):=by
 cases c with
 |@mk p s hp hc=>
  refine⟨dr p s++ys,by rw[List.length_append];show 2+_=_;lia,(List.append_assoc ..).symm,fun A' hl ha=>?_,fun cs0 h=>by cases h with|mk _ h=>exact .mk hp (OH h)⟩
  have e:∀A:List AK,(dr p s++(ys++A)).length=ys.length+2+A.length:=fun A=>by rw[List.length_append,List.length_append];show 2+_=_;lia
  rw[List.append_assoc]
  refine .mk hp ?_
  rw[e,hl]
  rw[e] at hc
  have hc:((dr p s++(ys++A)).all (AK.lo (ys.length+2+A.length)))=true:=hc
  rw[List.all_append,List.all_append,Bool.and_eq_true,Bool.and_eq_true] at hc
  show((dr p s++(ys++A')).all (AK.lo (ys.length+2+A.length)))=true
  rw[List.all_append,List.all_append,hc.1,hc.2.1,ha];rfl
theorem dO(h1:cv.lo (n+6)=true)(h2:uv.lo (n+6)=true)(h3:lv.lo (n+6)=true):(OM n h cv uv lv).all (AK.lo (n+6))=true:=by
 have q:∀j,j<6→(AV.lst (n+j)).lo (n+6)=true:=fun j hj=>decide_eq_true (Nat.add_lt_add_left hj n)
 have hd:AK.lo (n+6) (.dict (Tb n h cv uv lv))=true:=by
  show(true&&(true&&(cv.lo (n+6)&&((AV.lst (n+2)).lo (n+6)&&(uv.lo (n+6)&&((AV.lst (n+4)).lo (n+6)&&(lv.lo (n+6)&&(true&&(true&&(true&&(true&&(true&&(true&&(true&&(true&&true)))))))))))))))=true
  rw[h1,h2,h3,q 2 (by decide),q 4 (by decide)];rfl
 show(_&&(_&&(_&&(_&&(_&&(_&&true))))))=true
 rw[hd,Ii,Ii,Ii];rfl
theorem Md.ev(T:Md ys n h cv uv lv inn τ)(hf:CE (fun z0 b=>mE b) f V):E2_3 (fun v cs'=>V v) (fun v cs'=>f τ=.ok v ⟨cs',τ.m,τ.b⟩) (fun v cs'=>Md ys n h cv uv lv inn ⟨cs',τ.m,τ.b⟩):=by
 obtain⟨v,cs',hv,c,e⟩:=hf.h (m:=τ.m) T.c T.e
 exact⟨v,cs',hv,e,⟨T.hn,c,T.e,T.i,T.m,T.l1,T.l2,T.l3⟩⟩
theorem Md.set(T:Md ys n h cv uv lv inn τ)(h1:N "inner" ≠x)(h2:N "drawn" ≠x):Md ys n h cv uv lv inn (τ.setM x v):=⟨T.hn,T.c,T.e,AM h1 T.i,AM h2 T.m,T.l1,T.l2,T.l3⟩
theorem Md.put(T:Md ys n h cv uv lv inn τ)(hs:∀n,EZ x v (Tb n h cv uv lv)=Tb n h' cv' uv' lv')(hc:h'.consts=h.consts)(hh:h'.handlers=h.handlers)(l1:cv'.lo (n+6)=true)(l2:uv'.lo (n+6)=true)(l3:lv'.lo (n+6)=true):
  Aj (fun cs'=>EE x (AB (N "drawn")) v τ=.ok () ⟨cs',τ.m,τ.b⟩) (fun cs'=>Md ys n h' cv' uv' lv' inn ⟨cs',τ.m,τ.b⟩):=by
 obtain⟨b,hb,e,k,k0⟩:=T.c.turn
 have hn:b.length=n:=by rw[hb,T.hn]
 have hm:OM n h' cv' uv' lv'=(OM n h cv uv lv).set 0 (.dict (Tb n h' cv' uv' lv')):=by unfold OM;rw[hc,hh];rfl
 have e1:=JM (v:=v) (AH T.m) (J1 (n:=x) (v:=v) (c:=117) (fs:=Tb n h cv uv lv) rfl (by rw[e,←hn];exact Lh 0) (Nat.le_of_ble_eq_true rfl))
 rw[hs,e,←hn,show ∀c,(b++OM b.length h cv uv lv).set b.length c=b++(OM b.length h cv uv lv).set 0 c from fun c=>S7 0,hn,←hm] at e1
 refine⟨_,e1,T.hn,k _ rfl ?_,T.e,T.i,T.m,l1,l2,l3⟩
 rw[←T.hn]
 exact dO l1 l2 l3
theorem Md.attr(T:Md ys n h cv uv lv inn τ)(hl:(Tb n h cv uv lv).lookup x=some v):AQ x (AB (N "drawn")) τ=.ok v τ:=by
 obtain⟨b,hb,e,k,k0⟩:=T.c.turn
 have hn:b.length=n:=by rw[hb,T.hn]
 exact Ab (AH T.m) (I9 rfl (by rw[e,←hn];exact Lh 0) hl)
theorem Md.app(T:Md ys n h cv uv lv inn τ)(hj:(OM n h cv uv lv)[j]? =some (B9 l))(hl:l.length≤big)(hs:(OM n h cv uv lv).set j (B9 (l++[d]))=OM n h' cv uv lv):
  Fv τ.cs (.lst (n+j))=true∧Aj (fun cs'=>En Au (.lst (n+j)) [.d d] τ=.ok (.d .none) ⟨cs',τ.m,τ.b⟩) (fun cs'=>Md ys n h' cv uv lv inn ⟨cs',τ.m,τ.b⟩):=by
 obtain⟨b,hb,e,k,k0⟩:=T.c.turn
 have hn:b.length=n:=by rw[hb,T.hn]
 have e1:=WO e hj
 have e2:=aO (x:=d) e hj hl
 rw[hn] at e1 e2
 rw[hs] at e2
 refine⟨e1,_,e2,T.hn,k _ rfl ?_,T.e,T.i,T.m,T.l1,T.l2,T.l3⟩
 rw[←T.hn]
 exact dO T.l1 T.l2 T.l3
theorem Md.fin{us:List D}{co ln:List D}(T:Md ys n h (.d (.lst co)) (.d (.lst us)) (.d (.lst ln)) inn τ){cs0:List AK}(c0:ES ys cs0)(hco:co=h.code.map Hl)(hln:ln=h.lines.map Aa):Aj (fun cs'=>ES ys cs') (fun cs'=>Mine.Internal.fin true n (.ok (.ret (.obj 117 n)) τ)=.ok (.d (.obj (h.flds us))) cs'):=by
 obtain⟨b,hb,e,k,k0⟩:=T.c.turn
 obtain rfl:b.length=n:=by rw[hb,T.hn]
 subst hco hln
 have hL:∀(x:Str) ns (u:AV) r e es,JQ b.length (b++OM b.length h (.d (.lst (h.code.map Hl))) (.d (.lst us)) (.d (.lst (h.lines.map Aa)))) u=some e→Hn b.length (b++OM b.length h (.d (.lst (h.code.map Hl))) (.d (.lst us)) (.d (.lst (h.lines.map Aa)))) ns r=some es→Hn b.length (b++OM b.length h (.d (.lst (h.code.map Hl))) (.d (.lst us)) (.d (.lst (h.lines.map Aa)))) (x::ns) ((x,u)::r)=some (e::es):=fun x ns u r e es q1 q2=>by
  unfold Hn;rw[if_pos rfl,q1,q2]
 have h2:=Ih (n:=0) (b:=b) (ys:=OM b.length h (.d (.lst (h.code.map Hl))) (.d (.lst us)) (.d (.lst (h.lines.map Aa)))) (j:=2) (l:=h.consts.map cD) rfl
 have h4:=Ih (n:=0) (b:=b) (ys:=OM b.length h (.d (.lst (h.code.map Hl))) (.d (.lst us)) (.d (.lst (h.lines.map Aa)))) (j:=4) (l:=h.handlers.map L9) rfl
 have h5:Hn b.length (b++OM b.length h (.d (.lst (h.code.map Hl))) (.d (.lst us)) (.d (.lst (h.lines.map Aa)))) JI (Tb b.length h (.d (.lst (h.code.map Hl))) (.d (.lst us)) (.d (.lst (h.lines.map Aa))))=some (h.flds us):=
  hL _ _ _ _ _ _ rfl (hL _ _ _ _ _ _ rfl (hL _ _ _ _ _ _ rfl (hL _ _ _ _ _ _ h2 (hL _ _ _ _ _ _ rfl (hL _ _ _ _ _ _ h4 (hL _ _ _ _ _ _ rfl (hL _ _ _ _ _ _ rfl (hL _ _ _ _ _ _ rfl (hL _ _ _ _ _ _ rfl (hL _ _ _ _ _ _ rfl (hL _ _ _ _ _ _ rfl (hL _ _ _ _ _ _ rfl (hL _ _ _ _ _ _ rfl (hL _ _ _ _ _ _ rfl rfl))))))))))))))
 have h1:Tl b.length τ.cs (.obj 117 b.length)=some (.obj (h.flds us)):=by
  rw[e]
  show(if(117:Nat)=117∧b.length≤b.length then(match(b++OM b.length h (.d (.lst (h.code.map Hl))) (.d (.lst us)) (.d (.lst (h.lines.map Aa))))[b.length]? with|some (.dict fs)=>(Hn b.length (b++OM b.length h (.d (.lst (h.code.map Hl))) (.d (.lst us)) (.d (.lst (h.lines.map Aa)))) JI fs).map D.obj|_=>none) else none)=_
  rw[if_pos ⟨rfl,Nat.le_refl _⟩,show(b++OM b.length h (.d (.lst (h.code.map Hl))) (.d (.lst us)) (.d (.lst (h.lines.map Aa))))[b.length]? =some (.dict (Tb b.length h (.d (.lst (h.code.map Hl))) (.d (.lst us)) (.d (.lst (h.lines.map Aa))))) from Lh 0]
  show(Hn _ _ JI (Tb _ _ _ _ _)).map D.obj=_
  rw[h5];rfl
 have h6:τ.cs.take b.length=b:=by rw[e,List.take_left]
 have h7:=k0 cs0 c0
 refine⟨b,h7,?_⟩
 have h8:=h7.clo
 unfold Mine.Internal.fin
 simp only[LF,h1,h6,h8,if_true]
end
section
variable {E:Xe} {f g t k l:St→R AV} {V W:AV→Prop} {fa:St→R (List AV)} {Vs:List AV→Prop} {U:D→Prop} {x:Str} {ys cs:List AK} {σ τ:St} {d inn:D} {n:Nat} {h:Hd} {cv uv lv:AV}
noncomputable abbrev Tc:Xe:=fun z0 b=>mE b
theorem Ip:CE Tc (Aq (N "draws")) (· =.lst 1):=.bx fun m b h=>h.1
theorem aV:CE Tc (AN B3 (AD [Aq (N "draws")])) (Hi fun d=>Aj (fun l=>WL 3 l) (fun l=>d=.str l)):=.mono (.call (U:=fun d=>Aj (fun l=>d=.str l) (fun l=>WL 3 l)) (.cons Ip .nil) ⟨fun c h=>by
 obtain⟨_,_,rfl,rfl,rfl⟩:=h
 exact VW.h c rfl⟩) fun v h=>by obtain⟨d,e,l,q,t⟩:=h;exact⟨d,e,l,t,q⟩
theorem VY:CE Tc (AN Cj (AD [Aq (N "draws")])) (Hi fun d=>Aj (fun p=>Xa 12 p) (fun p=>d=Hm p)):=.call (.cons Ip .nil) ⟨fun c h=>by
 obtain⟨_,_,rfl,rfl,rfl⟩:=h
 exact TX.h c rfl⟩
theorem kF:CE Tc (AN CN (AD [Aq (N "draws"),Aq (N "kinds")])) (Hi fun d=>Aj (fun(c:Nat×Option Nat)=>(c.1<85∧(c.2=none↔Cg c.1=[])∧∀a,c.2=some a→a<10^9)) (fun(c:Nat×Option Nat)=>d=Hl c)):=.call (.cons Ip (.cons (.bx (x:=N "kinds") fun m b h=>h.2) .nil)) ⟨fun c h=>by
 obtain⟨_,_,rfl,rfl,_,_,rfl,rfl,rfl⟩:=h
 exact Mi.h c rfl⟩
theorem MH(n:Nat)(hn:Nat.ble 1 n=true:=by rfl):CE Tc (AN AL (AD [Aq (N "draws"),cF (.int n)])) (Hi fun d=>Aj (fun(i:Nat)=>i<n) (fun(i:Nat)=>d=Aa i)):=.takeC Ip n hn
theorem aW:CE Tc (AG C5 (AN AL (AD [Aq (N "draws"),cF (.int (2:Nat))])) (cF (.int 1))) (Hi fun d=>∃b,d=.bool b):=.takeEq Ip 2
theorem aX{α:Type}{P:α→Prop}{emb:α→D}{n:Nat}(hn:Nat.ble 1 n=true)(hk:n≤1000)(he:CE Tc g (Hi fun d=>Aj (fun y=>P y) (fun y=>d=emb y))):CE Tc (Bg (A7 (BK Bw (AD [AN AL (AD [Aq (N "draws"),cF (.int n)])]))) (Az x) g) (Hi fun d=>Aj (fun(ys:List α)=>(ys.length<n∧∀y∈ys,P y)) (fun(ys:List α)=>d=.lst (ys.map emb))):=
 .mono (.comp (.rng (MH n hn) (by lia)) hk (fun z0 z0 h=>h) he) fun v ⟨d,e,ds,e2,hl,hU⟩=>by
  obtain⟨ys,rfl,h1,h2⟩:=Xf hU
  exact⟨d,e,ys,⟨by lia,h1⟩,e2⟩
theorem Md.asg{α:Type}{P:α→Prop}{emb:α→D}{H:α→Hd}(T:Md ys n h cv uv lv inn τ)(hf:CE Tc f (Hi fun d=>Aj (fun y=>P y) (fun y=>d=emb y)))(hs:∀y n,EZ x (.d (emb y)) (Tb n h cv uv lv)=Tb n (H y) cv uv lv)(hc:∀y,(H y).consts=h.consts)(hh:∀y,(H y).handlers=h.handlers):
  E2_3 (fun y τ'=>P y) (fun y τ'=>Ag f (EE x (AB (N "drawn"))) τ=.ok .next τ') (fun y τ'=>Md ys n (H y) cv uv lv inn τ'):=by
 obtain⟨_,cs1,⟨_,rfl,y,hy,rfl⟩,e1,T1⟩:=T.ev hf
 obtain⟨cs2,e2,T2⟩:=T1.put (hs y) (hc y) (hh y) T.l1 T.l2 T.l3
 exact⟨y,_,hy,AS e1 e2,T2⟩
theorem Md.asg2{α:Type}{P:α→Prop}{emb:α→D}{x':Str}{H1:α→Hd}{H2:α→α→Hd}(T:Md ys n h cv uv lv inn τ)(hf:CE Tc f (Hi fun d=>Aj (fun y=>P y) (fun y=>d=emb y)))(hg:CE Tc g (Hi fun d=>Aj (fun y=>P y) (fun y=>d=emb y)))
  (hs:∀y n,EZ x (.d (emb y)) (Tb n h cv uv lv)=Tb n (H1 y) cv uv lv)(hs2:∀y z n,EZ x' (.d (emb z)) (Tb n (H1 y) cv uv lv)=Tb n (H2 y z) cv uv lv)(hc:∀y,(H1 y).consts=h.consts)(hh:∀y,(H1 y).handlers=h.handlers)(hc2:∀y z,(H2 y z).consts=h.consts)(hh2:∀y z,(H2 y z).handlers=h.handlers):
  gH (fun y z τ'=>P y) (fun y z τ'=>P z) (fun y z τ'=>F9 (AD [f,g]) [EE x (AB (N "drawn")),EE x' (AB (N "drawn"))] τ=.ok .next τ') (fun y z τ'=>Md ys n (H2 y z) cv uv lv inn τ'):=by
 obtain⟨_,cs1,⟨_,rfl,y,hy,rfl⟩,e1,T1⟩:=T.ev hf
 obtain⟨_,cs2,⟨_,rfl,z,hz,rfl⟩,e2,T2⟩:=T1.ev hg
 obtain⟨cs3,e3,T3⟩:=T2.put (hs y) (hc y) (hh y) T.l1 T.l2 T.l3
 obtain⟨cs4,e4,T4⟩:=T3.put (hs2 y z) ((hc2 y z).trans (hc y).symm) ((hh2 y z).trans (hh y).symm) T.l1 T.l2 T.l3
 exact⟨y,z,_,hy,hz,Ks (AA e1 (AA e2 AC)) (Qm e3 e4),T4⟩
theorem Md.loop{α:Type}{P:α→Prop}{b:St→R AF}{N':Nat}{H:List α→Hd}(T:Md ys n (H []) cv uv lv inn τ)(hn:Nat.ble 1 N'=true)(hk:N'≤1000)
  (step:∀τ zs,zs.length≤1000→Md ys n (H zs) cv uv lv inn τ→E2_3 (fun y τ'=>P y) (fun y τ'=>b τ=.ok .next τ') (fun y τ'=>Md ys n (H (zs++[y])) cv uv lv inn τ')):
  JO (fun zs τ'=>zs.length<N') (fun zs τ'=>(∀z∈zs,P z)) (fun zs τ'=>EF (A7 (BK Bw (AD [AN AL (AD [Aq (N "draws"),cF (.int N')])]))) (Az (N "turn")) b τ=.ok .next τ') (fun zs τ'=>Md ys n (H zs) cv uv lv inn τ'):=by
 obtain⟨_,cs1,⟨_,rfl,i,hi,rfl⟩,e1,T1⟩:=T.ev (.rng (MH N' hn) (by lia))
 have ei:=BN e1 (E8 (n:=i) (by lia))
 rw[Ff ei rfl]
 obtain⟨zs,τ',h1,h2,h3,h4⟩:=Mo (t:=Az (N "turn")) (b:=b) (fun xs τ=>EU (fun(zs:List α)=>zs.length+xs.length=i) (fun(zs:List α)=>(∀z∈zs,P z)) (fun(zs:List α)=>Md ys n (H zs) cv uv lv inn τ)) (fun r=>JO (fun zs τ'=>zs.length=i) (fun zs τ'=>(∀z∈zs,P z)) (fun zs τ'=>r=.ok .next τ') (fun zs τ'=>Md ys n (H zs) cv uv lv inn τ'))
  (fun τ ⟨zs,a,b,c⟩=>⟨zs,τ,by rw[List.length_nil] at a;lia,b,rfl,c⟩) (fun y xs τ ⟨zs,a,p,T⟩=>by
   rw[List.length_cons] at a
   obtain⟨z,τ',hz,e,T'⟩:=step (τ.setM (N "turn") (.d y)) zs (by lia) (T.set (by decide+kernel) (by decide+kernel))
   refine⟨_,Ae,.inl ⟨τ',e,zs++[z],by rw[List.length_append];show _+1+_=_;lia,fun w hw=>?_,T'⟩⟩
   rcases List.mem_append.mp hw with hw|hw
   ·exact p w hw
   ·rw[List.mem_singleton.mp hw];exact hz) ((List.range i).map Aa) _ ⟨[],by rw[List.length_map,List.length_range];exact Nat.zero_add _,fun z0 h=>(nomatch h),T1⟩
 exact⟨zs,τ',by lia,h2,h3,h4⟩
theorem Md.grow{α:Type}{P:α→Prop}{emb:α→D}{j:Nat}{l:List D}{h':α→Hd}(T:Md ys n h cv uv lv inn τ)(hl:(Tb n h cv uv lv).lookup x=some (.lst (n+j)))(hf:CE Tc f (Hi fun d=>Aj (fun y=>P y) (fun y=>d=emb y)))(hj:(OM n h cv uv lv)[j]? =some (B9 l))(hb:l.length≤big)
  (hs:∀y,(OM n h cv uv lv).set j (B9 (l++[emb y]))=OM n (h' y) cv uv lv):E2_3 (fun y τ'=>P y) (fun y τ'=>A0 (AO Fv (En Au) (AQ x (AB (N "drawn"))) (AD [f])) τ=.ok .next τ') (fun y τ'=>Md ys n (h' y) cv uv lv inn τ'):=by
 have e0:=T.attr hl
 obtain⟨_,cs1,⟨_,rfl,y,hy,rfl⟩,e1,T1⟩:=T.ev hf
 obtain⟨i1,cs2,e2,T2⟩:=T1.app hj hb (hs y)
 obtain⟨i0,_⟩:=T.app hj hb (hs y)
 exact⟨y,_,hy,C2 (BG e0 i0 (AA e1 AC) e2),T2⟩
end
structure f7(h:Hd):Prop where
 sz:fx 3 (2^64) h
 code:h.code≠[]
 n1:h.code.length≤6
 n2:h.consts.length≤3
 n3:h.handlers.length≤2
section
variable {f g:St→R AV} {ys cs:List AK} {σ τ:St} {d inn:D} {n:Nat} {h:Hd} {cv uv lv:AV}
theorem ik:CE Tc (CG (BQ (AG C5 (AN AL (AD [Aq (N "draws"),cF (.int (3:Nat))])) (cF (.int 0)))) (cF .none) (AN B3 (AD [Aq (N "draws")]))) (Hi fun d=>Aj (fun(o:Option (List Nat))=>(∀l,o=some l→WL 3 l)) (fun(o:Option (List Nat))=>d=Ek o)):=
 .ife (.takeEq Ip 3) (.mono .c fun v h=>⟨_,h,none,fun l h=>(nomatch h),rfl⟩) (.mono aV fun v h=>by
  obtain⟨d,e,l,t,q⟩:=h
  exact⟨d,e,some l,fun m h=>by cases h;exact t,q⟩)
theorem f8:CE Tc (CG (BQ (AG C5 (AN AL (AD [Aq (N "draws"),cF (.int (2:Nat))])) (cF (.int 0)))) (AN B3 (AD [Aq (N "draws")])) (AN AL (AD [Aq (N "draws"),AG (Ay PV) (cF (.int 2)) (cF (.int 64))]))) (Hi fun d=>Aj (fun c=>fw 3 (2^64) c) (fun c=>d=cD c)):=
 .ife (.takeEq Ip 2) (.mono aV fun v h=>by
  obtain⟨d,e,l,t,q⟩:=h
  exact⟨d,e,.inl l,t,q⟩) (.mono (.take Ip (n:=2^64) (by decide) (.bin (.c (d:=.int 2)) (.c (d:=.int 64)) fun a b σ h1 h2=>by
   subst h1 h2
   exact⟨_,rfl,rfl⟩)) fun v h=>by
  obtain⟨d,e,i,hi,q⟩:=h
  exact⟨d,e,.inr i,hi,q⟩)
theorem Q4{hs:List (Nat×Nat×Nat×Nat×Bool)}(T:Md ys n {h with handlers:=hs} cv uv lv inn τ)(hl:hs.length≤1000):
  E2_3 (fun y τ'=>(y.1<2^64∧y.2.1<2^64∧y.2.2.1<2^64∧y.2.2.2.1<2^64)) (fun y τ'=>AP (NM (Bg (A7 (BK Bw (AD [cF (D.int 4)]))) (Az (N "spot")) (AN AL (AD [Aq (N "draws"),cF (D.int 20)]))) (N "numbers")) (A0 (AO Fv (En Au) (AQ (N "handlers") (AB (N "drawn"))) (AD [CU (AD [AG Af (AB (N "numbers")) (cF (D.int 0)),AG Af (AB (N "numbers")) (cF (D.int 1)),AG Af (AB (N "numbers")) (cF (D.int 2)),AG Af (AB (N "numbers")) (cF (D.int 3)),AG C5 (AN AL (AD [Aq (N "draws"),cF (D.int 2)])) (cF (D.int 1))])]))) τ=.ok .next τ') (fun y τ'=>Md ys n {h with handlers:=hs++[y]} cv uv lv inn τ'):=by
 obtain⟨ds,cs1,e1,c1,l1,h1⟩:=Q1 (x:=N "spot") (g:=AN AL (AD [Aq (N "draws"),cF (.int (20:Nat))])) (U:=fun d=>Aj (fun(i:Nat)=>i<20) (fun(i:Nat)=>d=Aa i)) (Eb:=mE) (BN (Ao (AA (AJ (σ:=τ) (d:=.int (4:Nat))) AC) (show Bw [.d (.int (4:Nat))] τ=.ok (.d (.rng 0 (4:Nat) 1)) τ from rfl)) (E8 (n:=4) (by decide))) (by decide) T.c T.e (MH 20)
 have T1:Md ys n {h with handlers:=hs} cv uv lv inn ⟨cs1,τ.m,τ.b⟩:=⟨T.hn,c1,T.e,T.i,T.m,T.l1,T.l2,T.l3⟩
 obtain⟨ns,rfl,h2,h3⟩:=Xf h1
 have l1:(ns.map Aa).length=4:=l1
 rw[List.length_map] at l1
 match ns,l1,h2,e1 with
 |[p,q,r,s],_,h2,e1=>
  have T2:=T1.set (x:=N "numbers") (v:=.d (.lst ([p,q,r,s].map Aa))) (by decide+kernel) (by decide+kernel)
  have v2:(St.setM ⟨cs1,τ.m,τ.b⟩ (N "numbers") (.d (.lst ([p,q,r,s].map Aa)))).m (N "numbers")=some (.d (.lst ([p,q,r,s].map Aa))):=AI
  have ix:∀{j:Nat} {x},[p,q,r,s][j]? =some x→j≤10→AG Af (AB (N "numbers")) (cF (.int j)) (St.setM ⟨cs1,τ.m,τ.b⟩ (N "numbers") (.d (.lst ([p,q,r,s].map Aa))))=.ok (.d (Aa x)) _:=fun e hj=>AE (AH v2) AJ (B8 (by rw[List.getElem?_map,e];rfl) (by unfold big;lia))
  have e0:=T2.attr (x:=N "handlers") (v:=.lst (n+4)) rfl
  obtain⟨_,cs3,⟨_,rfl,b,rfl⟩,e3,T3⟩:=T2.ev aW
  obtain⟨i1,cs4,e4,T4⟩:=T3.app (d:=L9 (p,q,r,s,b)) (j:=4) (l:=hs.map L9) (h':={h with handlers:=hs++[(p,q,r,s,b)]}) rfl (by rw[List.length_map];unfold big;lia) (by show[_,_,_,_,B9 (hs.map L9++[L9 _]),_]=[_,_,_,_,B9 ((hs++[_]).map L9),_];rw[List.map_append];rfl)
  obtain⟨i0,_⟩:=T2.app (d:=L9 (p,q,r,s,b)) (j:=4) (l:=hs.map L9) (h':={h with handlers:=hs++[(p,q,r,s,b)]}) rfl (by rw[List.length_map];unfold big;lia) (by show[_,_,_,_,B9 (hs.map L9++[L9 _]),_]=[_,_,_,_,B9 ((hs++[_]).map L9),_];rw[List.map_append];rfl)
  have sm:∀{i},i∈[p,q,r,s]→i<2^64:=fun hi=>Nat.lt_trans (h2 _ hi) (by decide)
  exact⟨(p,q,r,s,b),_,⟨sm (.head _),sm (.tail _ (.head _)),sm (.tail _ (.tail _ (.head _))),sm (.tail _ (.tail _ (.tail _ (.head _))))⟩,
   A6 (Qc e1) (C2 (BG e0 i0 (AA (BU (AA (ix (j:=0) rfl (by decide)) (AA (ix (j:=1) rfl (by decide)) (AA (ix (j:=2) rfl (by decide)) (AA (ix (j:=3) rfl (by decide)) (AA e3 AC))))) rfl) AC) e4)),T4⟩
end
section
variable {f g:St→R AV} {ys cs:List AK} {σ τ:St} {d inn:D} {n:Nat} {h:Hd} {cv uv lv:AV}
theorem aY:CE Tc (AG C5 (AN AL (AD [Aq (N "draws"),cF (.int 2)])) (cF (.int 1))) (Hi fun d=>Aj (fun(y:Bool)=>True) (fun(y:Bool)=>d=.bool y)):=.mono aW fun v h=>by obtain⟨d,e,b,q⟩:=h;exact⟨d,e,b,trivial,q⟩
theorem jp:CE Tc (CU (AD [AG C5 (AN AL (AD [Aq (N "draws"),cF (.int 2)])) (cF (.int 1)),AN AL (AD [Aq (N "draws"),cF (.int 9)])])) (Hi fun d=>Aj (fun(y:Bool×Nat)=>y.2<9) (fun(y:Bool×Nat)=>d=Le y)):=.tup (.cons aW (.cons (MH 9) .nil)) fun vs hv=>by
 obtain⟨_,_,rfl,⟨_,rfl,b,rfl⟩,_,_,rfl,⟨_,rfl,i,hi,rfl⟩,rfl⟩:=hv
 exact⟨_,rfl,by show 2≤big;decide,(b,i),hi,rfl⟩
theorem aZ{m b:Str→Option AV}(c:ES ys cs)(he:mE b)(hi:m (N "inner")=some (.d inn)):E2_3 (fun o τ'=>(∀l,o=some l→WL 3 l)) (fun o τ'=>Ag (AN FH (AD [CG (BQ (AG C5 (AN AL (AD [Aq (N "draws"),cF (.int 3)])) (cF (.int 0)))) (cF .none) (AN B3 (AD [Aq (N "draws")])),Bi (AD [])])) (Az (N "drawn")) ⟨cs,m,b⟩=.ok .next τ') (fun o τ'=>Md ys (ys.length+2) (K6 o []) (.lst (ys.length+2+1)) (.lst (ys.length+2+3)) (.lst (ys.length+2+5)) inn τ'):=by
 obtain⟨_,cs1,⟨_,rfl,o,ho,rfl⟩,c1,e1⟩:=ik.h (m:=m) c he
 have hn:=c1.len
 have e2:=Zq (b:=cs1) (nm:=o) (ps:=[])
 refine⟨o,_,ho,AS (DQ (AA e1 (AA (Bq AC rfl) AC)) e2) Ae,rfl,?_,he,AM (by decide+kernel) hi,AI.trans (by rw[hn]),?_,?_,?_⟩
 ·have hc:=Qj (h:=K6 o []) (us:=[]) c1.clo
  rw[hn] at hc
  show ES _ (cs1++Ap cs1.length (K6 o []) [])
  rw[hn]
  cases c1 with
  |@mk p s hp _=>
   rw[List.append_assoc] at hc ⊢
   exact .mk hp hc
 ·exact decide_eq_true (by lia)
 ·exact decide_eq_true (by lia)
 ·exact decide_eq_true (by lia)
theorem VZ(inner:List U):Xo Cp (· =[.lst 1,.d (.str A5),.d (.lst (Us.D inner))]) (fun d=>Aj (fun h=>f7 h) (fun h=>d=(U.mk h inner).D)):=⟨fun{ys cs vs} c hv=>by
 subst hv
 unfold Cp Jm
 have hst:Ct (BR D6.s) D6.names cs [.lst 1,.d (.str A5),.d (.lst (Us.D inner))]=(((BJ cs).setB (N "draws") (.lst 1)).setB (N "kinds") (.d (.str A5))).setM (N "inner") (.d (.lst (Us.D inner))):=by kernel_rfl
 have he:mE ((((BJ cs).setB (N "draws") (.lst 1)).setB (N "kinds") (.d (.str A5))).setM (N "inner") (.d (.lst (Us.D inner)))).b:=⟨(QP (by decide+kernel) b_hit:(((BJ cs).setB (N "draws") (.lst 1)).setB (N "kinds") (.d (.str A5))).b (N "draws")=_),(b_hit:(((BJ cs).setB (N "draws") (.lst 1)).setB (N "kinds") (.d (.str A5))).b (N "kinds")=_)⟩
 obtain⟨o,τ0,ho,e0,T0⟩:=aZ (inn:=.lst (Us.D inner)) (m:=((((BJ cs).setB (N "draws") (.lst 1)).setB (N "kinds") (.d (.str A5))).setM (N "inner") (.d (.lst (Us.D inner)))).m) c he AI
 obtain⟨ps,τ1,hps,e1,T1⟩:=T0.asg (x:=N "params") (H:=fun ps=>{K6 o [] with params:=ps}) (aX (x:=N "turn") (n:=3) rfl (by decide) aV) (fun y n=>by kernel_rfl) (fun z0=>rfl) fun z0=>rfl
 obtain⟨pl,τ2,hpl,e2,T2⟩:=T1.asg (x:=N "param_places") (H:=fun pl=>(Hd.wplaces (K6 o ps) pl)) (aX (x:=N "turn") (n:=3) rfl (by decide) VY) (fun y n=>by kernel_rfl) (fun z0=>rfl) fun z0=>rfl
 obtain⟨s1,s2,τ3,hs1,hs2,e3,T3⟩:=T2.asg2 (x:=N "self_slot") (x':=N "arguments_place") (H1:=fun s=>(Hd.wself (Hd.wplaces (K6 o ps) pl) s)) (H2:=fun s t=>(Hd.wargp (Hd.wself (Hd.wplaces (K6 o ps) pl) s) t)) VY VY (fun y n=>by kernel_rfl) (fun y z n=>by kernel_rfl) (fun z0=>rfl) (fun z0=>rfl) (fun z0 z0=>rfl) fun z0 z0=>rfl
 obtain⟨b1,b2,τ4,_,_,e4,T4⟩:=T3.asg2 (x:=N "is_strict") (x':=N "uses_arguments") (H1:=fun s=>(Hd.wstrict (Hd.wargp (Hd.wself (Hd.wplaces (K6 o ps) pl) s1) s2) s)) (H2:=fun s t=>(Hd.wargs (Hd.wstrict (Hd.wargp (Hd.wself (Hd.wplaces (K6 o ps) pl) s1) s2) s) t)) aY aY (fun y n=>by kernel_rfl) (fun y z n=>by kernel_rfl) (fun z0=>rfl) (fun z0=>rfl) (fun z0 z0=>rfl) fun z0 z0=>rfl
 obtain⟨co,τ5,hco,hcs,e5,T5⟩:=Md.loop (P:=fw 3 (2^64)) (N':=4) (H:=fun zs=>(Hd.wconsts (Hd.wargs (Hd.wstrict (Hd.wargp (Hd.wself (Hd.wplaces (K6 o ps) pl) s1) s2) b1) b2) zs)) T4 rfl (by decide) fun τ zs hz T=>Md.grow (x:=N "consts") (j:=2) (l:=zs.map cD) (emb:=cD) (h':=fun y=>(Hd.wconsts (Hd.wargs (Hd.wstrict (Hd.wargp (Hd.wself (Hd.wplaces (K6 o ps) pl) s1) s2) b1) b2) (zs++[y]))) T rfl f8 rfl (by rw[List.length_map];unfold big;lia) fun y=>by
  show[_,_,B9 (zs.map cD++[cD y]),_,_,_]=[_,_,B9 ((zs++[y]).map cD),_,_,_]
  rw[List.map_append];rfl
 have dr6:CE Tc (BK Bw (AD [AG As (cF (.int 1)) (AN AL (AD [Aq (N "draws"),cF (.int (6:Nat))]))])) (Hi fun d=>Aj (fun(i:Nat)=>(1≤i∧i≤6)) (fun(i:Nat)=>d=.rng 0 (i:Int) 1)):=.fn (.cons (.bin (F:=As) (V:=Hi fun d=>Aj (fun(i:Nat)=>(1≤i∧i≤6)) (fun(i:Nat)=>d=Aa i)) (.c (d:=.int 1)) (MH 6) fun a b σ h1 h2=>by
   subst h1
   obtain⟨_,rfl,i,hi,rfl⟩:=h2
   refine⟨_,⟨_,rfl,1+i,⟨by lia,by lia⟩,rfl⟩,?_⟩
   rfl) .nil) fun vs σ hv=>by
  obtain⟨_,_,rfl,⟨_,rfl,i,hi,rfl⟩,rfl⟩:=hv
  exact⟨_,⟨_,rfl,i,hi,rfl⟩,rfl⟩
 obtain⟨_,cs6,⟨_,rfl,ds,rfl,hd1,hd2⟩,e6,T6⟩:=T5.ev (.compI (x:=N "turn") (I:=fun i=>1≤i∧i≤6) dr6 (fun i h=>by lia) (fun z0 z0 h=>h) kF)
 obtain⟨code,rfl,hc1,hc2⟩:=Xf hd2
 rw[List.length_map] at hd1
 obtain⟨cs7,e7,T7⟩:=T6.put (x:=N "code") (v:=.d (.lst (code.map Hl))) (h':=(Hd.wconsts (Hd.wargs (Hd.wstrict (Hd.wargp (Hd.wself (Hd.wplaces (K6 o ps) pl) s1) s2) b1) b2) co)) (cv':=.d (.lst (code.map Hl))) (fun n=>by kernel_rfl) rfl rfl rfl T5.l2 T5.l3
 have a8:=T7.attr (x:=N "code") (v:=.d (.lst (code.map Hl))) rfl
 obtain⟨ls',cs8,e8,c8,l8,h8⟩:=Q1 (x:=N "one") (g:=AN AL (AD [Aq (N "draws"),cF (.int (9:Nat))])) (U:=fun d=>Aj (fun(i:Nat)=>i<9) (fun(i:Nat)=>d=Aa i)) (Eb:=mE) (BN a8 rfl) (by rw[List.length_map];unfold big;lia) T7.c T7.e (MH 9)
 obtain⟨ls,rfl,hl1,hl2⟩:=Xf h8
 rw[List.length_map,List.length_map] at l8
 have T8:Md ys (ys.length+2) (Hd.wconsts (Hd.wargs (Hd.wstrict (Hd.wargp (Hd.wself (Hd.wplaces (K6 o ps) pl) s1) s2) b1) b2) co) (.d (.lst (code.map Hl))) (.lst (ys.length+2+3)) (.lst (ys.length+2+5)) (.lst (Us.D inner)) ⟨cs8,τ5.m,τ5.b⟩:=⟨T7.hn,c8,T7.e,T7.i,T7.m,T7.l1,T7.l2,T7.l3⟩
 obtain⟨cs9,e9,T9⟩:=T8.put (x:=N "lines") (v:=.d (.lst (ls.map Aa))) (h':=(Hd.whandlers (Hd.wconsts (Hd.wargs (Hd.wstrict (Hd.wargp (Hd.wself (Hd.wplaces (K6 o ps) pl) s1) s2) b1) b2) co) [])) (lv':=.d (.lst (ls.map Aa))) (fun n=>by kernel_rfl) rfl rfl T8.l1 T8.l2 rfl
 obtain⟨hs,τA,hhs,hhp,eA,TA⟩:=Md.loop (P:=fun y:Nat×Nat×Nat×Nat×Bool=>y.1<2^64∧y.2.1<2^64∧y.2.2.1<2^64∧y.2.2.2.1<2^64) (N':=3) (H:=fun zs=>(Hd.whandlers (Hd.wconsts (Hd.wargs (Hd.wstrict (Hd.wargp (Hd.wself (Hd.wplaces (K6 o ps) pl) s1) s2) b1) b2) co) zs)) T9 rfl (by decide) fun τ zs hz T=>Q4 (h:=(Hd.wconsts (Hd.wargs (Hd.wstrict (Hd.wargp (Hd.wself (Hd.wplaces (K6 o ps) pl) s1) s2) b1) b2) co)) T hz
 obtain⟨r1,r2,τB,hr1,hr2,eB,TB⟩:=TA.asg2 (x:=N "local_count") (x':=N "cell_count") (P:=fun i=>i<30) (emb:=Aa) (H1:=fun s=>(Hd.wlc (Hd.whandlers (Hd.wconsts (Hd.wargs (Hd.wstrict (Hd.wargp (Hd.wself (Hd.wplaces (K6 o ps) pl) s1) s2) b1) b2) co) hs) s)) (H2:=fun s t=>(Hd.wcc (Hd.wlc (Hd.whandlers (Hd.wconsts (Hd.wargs (Hd.wstrict (Hd.wargp (Hd.wself (Hd.wplaces (K6 o ps) pl) s1) s2) b1) b2) co) hs) s) t)) (MH 30) (MH 30) (fun y n=>by kernel_rfl) (fun y z n=>by kernel_rfl) (fun z0=>rfl) (fun z0=>rfl) (fun z0 z0=>rfl) fun z0 z0=>rfl
 obtain⟨ca,τC,hca,eC,TC⟩:=TB.asg (x:=N "captures") (H:=fun ca=>(Hd.wcaps (Hd.wcc (Hd.wlc (Hd.whandlers (Hd.wconsts (Hd.wargs (Hd.wstrict (Hd.wargp (Hd.wself (Hd.wplaces (K6 o ps) pl) s1) s2) b1) b2) co) hs) r1) r2) ca)) (aX (x:=N "turn") (n:=3) rfl (by decide) jp) (fun y n=>by kernel_rfl) (fun z0=>rfl) fun z0=>rfl
 obtain⟨csD,eD,TD⟩:=TC.put (x:=N "units") (v:=.d (.lst (Us.D inner))) (h':=⟨o,ps,code,co,hs,ls,r1,r2,ca,b1,b2,s1,s2,pl⟩) (cv':=.d (.lst (code.map Hl))) (uv':=.d (.lst (Us.D inner))) (lv':=.d (.lst (ls.map Aa))) (fun n=>by kernel_rfl) rfl rfl rfl rfl rfl
 obtain⟨cs',c',eE⟩:=TD.fin c rfl rfl
 refine⟨_,cs',⟨⟨o,ps,code,co,hs,ls,r1,r2,ca,b1,b2,s1,s2,pl⟩,?_,rfl⟩,c',?_⟩
 ·have up:∀{p:Pl} {M:Nat},M≤2^64→Xa M p→Xa (2^64) p:=fun{p M} hM h=>by
   cases p with
   |none=>trivial
   |some q=>exact Nat.lt_of_lt_of_le h hM
  refine⟨⟨ho,hps.2,hcs,fun c hc=>⟨(hc1 c hc).1,(hc1 c hc).2.1,fun a q=>Nat.lt_trans ((hc1 c hc).2.2 a q) (by decide)⟩,hhp,fun n hn=>Nat.lt_trans (hl1 n hn) (by decide),by show code.length=ls.length;lia,Nat.lt_trans hr1 (by decide),Nat.lt_trans hr2 (by decide),fun x hx=>Nat.lt_trans (hca.2 x hx) (by decide),up (by decide) hs1,up (by decide) hs2,fun p hp=>up (by decide) (hpl.2 p hp),?_,?_,?_,?_,?_,?_⟩,?_,?_,?_,?_⟩
  all_goals dsimp only
  ·have:=hps.1;lia
  ·have:=hpl.1;lia
  ·have:=hca.1;lia
  ·lia
  ·lia
  ·lia
  ·intro e;rw[e] at hc2;rw[e] at hd1;exact absurd hd1.1 (by decide)
  ·exact hd1.2
  ·lia
  ·lia
 ·refine Ld (F:=D6) (σ0:=(((BJ cs).setB (N "draws") (.lst 1)).setB (N "kinds") (.d (.str A5))).setM (N "inner") (.d (.lst (Us.D inner)))) (r:=.ok (.ret (.obj 117 (ys.length+2))) ⟨csD,τC.m,τC.b⟩) rfl hst ?_ (by rw[c.len];exact eE)
  exact A6 e0 (A6 e1 (A6 e2 (A6 e3 (A6 e4 (A6 e5 (A6 (AS e6 e7) (A6 (AS e8 e9) (A6 eA (A6 eB (A6 eC (A6 (AS (AH TC.i) eD) (DJ (AH TD.m)))))))))))))⟩
end
section
variable {α:Type} {σ σ1 τ:St} {cs ys:List AK} {t:List Nat} {f:St→R AV} {tt:AV→St→R Unit} {b:St→R AF}
theorem Ha(T:Dc t)(hc:clo cs.length cs=true):A4 [.d (.str t)] cs=.ok (.d (.bool (VH t).isNone)) cs:=by
 unfold A4 D9
 refine Ac (σ0:=(BJ cs).setM (N "text") (.d (.str t))) rfl (by kernel_rfl) ?_
 have e1:AN BF (AD [AB (N "text")]) ((BJ cs).setM (N "text") (.d (.str t)))=Mf U.D (VH t) ((BJ cs).setM (N "text") (.d (.str t))):=cE (AA (AH AI) AC) (by show(BF _ cs).on _=_;rw[GL T hc];exact VB (σ:=(BJ cs).setM (N "text") (.d (.str t))))
 cases e:VH t with
 |none=>
  rw[e] at e1
  refine No (v:=.d (.bool true)) (σ1:=(BJ cs).setM (N "text") (.d (.str t))) ?_ (BH hc rfl)
  unfold NN
  rw[CR e1]
 |some u=>
  rw[e] at e1
  refine Av (σ1:=(BJ cs).setM (N "text") (.d (.str t))) ?_ (BY AJ (BH hc rfl))
  unfold NN
  rw[C2 e1]
theorem aa{ι:Type}{fi:St→R (List D)}{t:AV→St→R Unit}{f:St→R AV}{xs:List ι}(e g:ι→D)(hf:fi σ=.ok (xs.map e) σ1)(hl:xs.length≤big)
  (step:∀x∈xs,∀σ:St,σ.cs=σ1.cs→σ.b=σ1.b→JO (fun σ' σ2=>t (.d (e x)) σ=.ok () σ') (fun σ' σ2=>f σ'=.ok (.d (g x)) σ2) (fun σ' σ2=>σ2.cs=σ1.cs) (fun σ' σ2=>σ2.b=σ1.b)):Rl fi t f σ=.ok (.lst σ1.cs.length) {σ1 with cs:=σ1.cs++[B9 (xs.map g)]}:=by
 obtain⟨σ',e',h1,h2⟩:=Ju e g xs (inner σ1) rfl rfl step
 refine(bind_ok (σ:=σ1) (a:=xs.map g) ((bind_ok hf).trans ((if_pos (by rw[List.length_map];exact hl)).trans ?_))).trans rfl
 rw[e']
 show R.ok _ _=_
 rw[h1,h2]
 rfl
theorem PR{i:Nat}{all:List AV}(P:St→Prop)(hP:∀σ,P σ→BL σ.cs i=some all):∀(xs:List D) (σ:St),P σ→(∀x∈xs,∀σ,P σ→E2_3 (fun σ1 σ2=>tt (.d x) σ=.ok () σ1) (fun σ1 σ2=>b σ1=.ok .next σ2) (fun σ1 σ2=>P σ2))→Aj (fun σ'=>JJ i all tt b xs σ=.ok .next σ') (fun σ'=>P σ')
 |[],σ,h,_=>⟨σ,by unfold JJ;exact if_pos (hP σ h),h⟩
 |x::xs,σ,h,step=>by
  obtain⟨σ1,σ2,e1,e2,h2⟩:=step x (.head _) σ h
  obtain⟨σ',e3,h3⟩:=PR P hP xs σ2 h2 fun y hy=>step y (.tail _ hy)
  refine⟨σ',?_,h3⟩
  unfold JJ
  rw[if_pos (hP σ h),bind_ok e1,bind_ok e2]
  exact e3
theorem Td{xs:List Int}(hl:xs.length≤63):Aj (fun cs'=>ES [] cs') (fun cs'=>EK [.d (.arg (xs.map .int))] []=.ok (.lst 1) cs'):=by
 have h40:(xs.take 40).length≤40:=List.length_take_le ..
 have hp:∀(p:List Nat) s,clo (dr p s++[]).length (dr p s++[])=true:=fun p s=>by
  show(AK.lo 2 (B9 (p.map Aa))&&_)=true
  rw[Ii];rfl
 have es:CD (AB (N "script")) none (some (cF (D.int 40))) ((BJ []).setM (N "script") (.d (.arg (xs.map .int))))=.ok (.d (.lst ((xs.take 40).map .int))) ((BJ []).setM (N "script") (.d (.arg (xs.map .int)))):=by
  refine(bind_ok (AH AI)).trans ((bind_ok (a:=(none,some (40:Int))) rfl).trans ?_)
  show(if(xs.map D.int).length≤big then R.ok (AV.d (.lst (JV none (some 40) (xs.map .int)))) _ else .stuck)=_
  rw[if_pos (by rw[List.length_map];unfold big;lia)]
  show R.ok (AV.d (.lst (((xs.map .int).take 40).drop 0))) _=_
  rw[List.drop_zero,List.map_take]
 have e1:=aa (t:=Az (N "one")) (f:=BK bP (AD [BK bQ (AD [AB (N "one")])])) D.int (fun i:Int=>Aa i.natAbs) (BN es rfl) (by unfold big;lia) fun x z0 σ h1 h2=>⟨σ.setM (N "one") (.d (.int x)),_,rfl,Ao (AA (Ao (AA (AH AI) AC) rfl) AC) rfl,h1,h2⟩
 have hm:(xs.take 40).map (fun i:Int=>Aa i.natAbs)=((xs.take 40).map Int.natAbs).map Aa:=by rw[List.map_map];rfl
 rw[hm] at e1
 have hpl:((xs.take 40).map Int.natAbs).length≤40:=by rw[List.length_map];exact h40
 generalize(xs.take 40).map Int.natAbs=p at e1 hpl
 have e2:=Mq (ts:=[Az (N "seed"),Az (N "pool")]) (AA e1 (AA (AJ (d:=.int 7411)) AC)) rfl
 generalize hτ:St.setM (St.setM _ _ _) _ _=τ at e2
 have tc:τ.cs=[B9 (p.map Aa)]:=by rw[←hτ];rfl
 have tp:τ.m (N "pool")=some (.lst 0):=by rw[←hτ];exact AI
 have ts:τ.m (N "seed")=some (.d (Aa 7411)):=by rw[←hτ];exact AM (by decide+kernel) AI
 obtain⟨τ',e3,c3,p3,s,s3⟩:=PR (i:=0) (all:=(p.map Aa).map AV.d) (tt:=Az (N "one")) (b:=Ag (AG (Ay Ge) (AG As (AG As (AG (Ay JD) (AB (N "seed")) (cF (D.int 31))) (AG (Ay Ge) (AB (N "one")) (cF (D.int 1000003)))) (cF (D.int 5))) (cF (D.int 2147483647))) (Az (N "seed"))) (fun σ=>σ.cs=[B9 (p.map Aa)]∧σ.m (N "pool")=some (.lst 0)∧∃s:Nat,σ.m (N "seed")=some (.d (Aa s))) (fun σ h=>by unfold BL;rw[h.1];rfl) (p.map Aa) τ ⟨tc,tp,_,ts⟩ fun x hx σ ⟨h1,h2,s,h3⟩=>by
  obtain⟨v,_,rfl⟩:=List.mem_map.mp hx
  have v1:(σ.setM (N "one") (.d (Aa v))).m (N "seed")=some (.d (Aa s)):=AM (by decide+kernel) h3
  exact⟨_,_,Ae,AS (AE (AE (AE (AE (AH v1) AJ (Ze (k:=31))) (AE (AH AI) AJ (L6 (k:=1000003))) rfl) AJ rfl) AJ (L6 (n:=s*31+v%1000003+5) (k:=2147483647))) Ae,h1,AM (by decide+kernel) (AM (by decide+kernel) h2),_,AI⟩
 have e4:UH (AB (N "pool")) (Az (N "one")) (Ag (AG (Ay Ge) (AG As (AG As (AG (Ay JD) (AB (N "seed")) (cF (D.int 31))) (AG (Ay Ge) (AB (N "one")) (cF (D.int 1000003)))) (cF (D.int 5))) (cF (D.int 2147483647))) (Az (N "seed"))) τ=.ok .next τ':=by
  refine(bind_ok (AH tp)).trans ?_
  unfold Rh
  dsimp only
  rw[tc,if_pos (show 0<[B9 (p.map Aa)].length from Nat.one_pos),show BL [B9 (p.map Aa)] 0=some ((p.map Aa).map AV.d) from rfl]
  dsimp only
  rw[Qi]
  exact e3
 refine⟨dr p s++[],.mk hpl (hp p s),?_⟩
 unfold EK IN
 refine Ld (σ0:=(BJ []).setM (N "script") (.d (.arg (xs.map .int)))) rfl (by kernel_rfl) (A6 e2 (A6 e4 (DJ (KZ (AA (AH p3) (AA (AH s3) AC)))))) ?_
 show RC.ok (.lst τ'.cs.length) (τ'.cs++[.lst [.lst 0,.d (Aa s)]])=_
 rw[c3];rfl
end
section
variable {σ τ:St} {cs ys:List AK} {L:List (List Nat)} {u v:U} {w:List Nat} {ws:List (List Nat)} {a k:Nat}
noncomputable def Te:List (List Nat):=[sL "x",sL "0",sL "07",sL "\"",sL "end",sL "\"a\"",sL "local1",sL ";"]
theorem Tf:∀w∈Te,JB w=true∧w.length≤30∧w≠sL "unit":=by decide+kernel
noncomputable def Tg(L:List (List Nat))(a k:Nat)(w:List Nat):List (List Nat):=L.take a++[AW [32] ((Ai (L.getD a [])).set k w)]++L.drop (a+1)
structure f9(L B:List (List Nat)):Prop where
 ne:B≠[]
 ln:∀l∈B,Bl 30 l
 len:B.length=L.length
 cnt:B.countP Aw≤L.countP Aw
set_option tactic.hygienic true in
theorem cV(HL:∀l∈L,Bl 30 l)(ha:a<L.length)(hw:w∈Te):f9 L (Tg L a k w):=by
 obtain⟨v1,v2,v3⟩:=Tf w hw
 have el:L.getD a []=L[a]:=by rw[List.getD_eq_getElem?_getD,List.getElem?_eq_getElem ha];rfl
 have hl:=(HL _ (List.getElem_mem ha)).words
 have h0:Ai L[a]≠[]:=CZ 32 _
 unfold Tg
 rw[el]
 generalize hws:Ai L[a]=ws at hl h0
 have n0:ws.set k w≠[]:=fun e=>h0 (List.length_eq_zero_iff.mp (by rw[←List.length_set (i:=k) (a:=w),e];rfl))
 have nv:∀x∈ws.set k w,JB x=true∧x.length≤30:=fun x hx=>by
  rcases List.mem_or_eq_of_mem_set hx with hx|rfl
  ·exact hl.2 x hx
  ·exact⟨v1,v2⟩
 have nl:Bl 30 (AW [32] (ws.set k w)):=.mk n0 (by rw[List.length_set];exact hl.1) nv
 refine⟨(fun e=>nomatch (List.append_eq_nil_iff.mp (List.append_eq_nil_iff.mp e).1).2),fun l hl'=>?_,?_,?_⟩
 ·rcases List.mem_append.mp hl' with hl'|hl'
  ·rcases List.mem_append.mp hl' with hl'|hl'
   ·exact HL l (List.mem_of_mem_take hl')
   ·rw[List.mem_singleton.mp hl'];exact nl
  ·exact HL l (List.mem_of_mem_drop hl')
 ·rw[List.length_append,List.length_append,List.length_take,List.length_drop]
  show min a L.length+1+_=_
  lia
 ·have hL:L=L.take a++[L[a]]++L.drop (a+1):=by
   rw[List.append_assoc]
   show L=L.take a++L[a]::L.drop (a+1)
   rw[←List.drop_eq_getElem_cons ha,List.take_append_drop]
  have hu:Aw (AW [32] (ws.set k w))=true→Aw L[a]=true:=fun h=>by
   unfold Aw at h ⊢
   rw[CX n0 fun x hx=>(nv x hx).1] at h
   rw[hws]
   have h:=eq_of_beq h
   cases ws with
   |nil=>exact absurd rfl h0
   |cons y ws=>
    cases k with
    |zero=>exact absurd (Option.some.inj h) v3
    |succ k=>rw[show((y::ws).set (k+1) w).head? =(y::ws).head? from rfl] at h;rw[h];exact beq_self_eq_true _
  have h1:[AW [32] (ws.set k w)].countP Aw≤[L[a]].countP Aw:=by
   rw[List.countP_singleton,List.countP_singleton]
   split
   ·rename_i q;rw[if_pos (hu q)];exact Nat.le_refl _
   ·exact Nat.zero_le _
  conv=>rhs;rw[hL]
  rw[List.countP_append,List.countP_append,List.countP_append,List.countP_append]
  lia
set_option tactic.hygienic true in
theorem cW{B:List (List Nat)}(HB:f9 L B)(hl:L.length≤400)(hc:L.countP Aw≤8):Dc (AW [10] B)∧AT 10 (AW [10] B)=B∧∀v,VH (AW [10] B)=some v→K0 v:=by
 obtain⟨T,e,_⟩:=Dc.of HB.ne (fun l h=>(HB.ln l h).mono (by decide)) (by rw[HB.len];lia) (Nat.le_trans HB.cnt hc)
 refine⟨T,e,fun v h=>?_⟩
 unfold VH at h
 rw[e] at h
 cases q:J4 B 8 0 with
 |none=>rw[q] at h;cases h
 |some p=>
  obtain⟨u,e1⟩:=p
  rw[q] at h
  have h:(if e1=B.length then some u else none)=some v:=h
  split at h
  ·rename_i he
   cases h
   obtain⟨z1,z2,z3,z4⟩:=dK HB.ln (by rw[HB.len];lia) 8 q
   have hb:cnt B 0≤8:=Nat.le_trans HB.cnt hc
   exact⟨z1.ok PN,z2,by lia,OE PN z1,by have:=HB.len;lia⟩
  ·cases h
end
section
variable {σ σ1 τ:St} {cs ys:List AK} {L:List (List Nat)} {u v:U} {w:List Nat} {ws:List (List Nat)} {a k:Nat} {f g:St→R AV}
theorem ae{l:List Nat}(h:l.length≤big):Gy NF (.d (.str l)) [.d (.str [32])] σ=.ok (.lst σ.cs.length) {σ with cs:=σ.cs++[B9 ((Ai l).map .str)]}:=if_pos h
theorem gA{b:List AK}{ls:List (List Nat)}{k:Nat}{w:List Nat}(e:σ.cs=b++[B9 (ls.map .str)])(hk:k<ls.length)(hl:ls.length≤1000):YY (.d (.str w)) (.lst b.length) (.d (.int k)) σ=.ok () {σ with cs:=b++[B9 ((ls.set k w).map .str)]}:=by
 show(ofO (BL σ.cs b.length) fun xs=>if(0:Int)≤k∧(k:Int).toNat<xs.length∧(k:Int)≤big then R.ok () {σ with cs:=σ.cs.set b.length (.lst (xs.set (k:Int).toNat (.d (.str w))))} else .stuck)=_
 rw[show BL σ.cs b.length=some ((ls.map .str).map AV.d) by rw[e];exact Gr]
 show(if(0:Int)≤k∧(k:Int).toNat<((ls.map .str).map AV.d).length∧(k:Int)≤big then R.ok () {σ with cs:=σ.cs.set b.length (.lst (((ls.map .str).map AV.d).set k (.d (.str w))))} else .stuck)=_
 rw[if_pos ⟨Int.natCast_nonneg _,by rw[List.length_map,List.length_map];exact hk,by unfold big;lia⟩,e,Nq]
 rw[List.map_set]
 unfold B9
 rw[List.map_set]
theorem cX{b:List AK}{ls:List (List Nat)}(e:σ.cs=b++[B9 (ls.map .str)])(h:De ls≤big):Gy Dd (.d (.str [32])) [.lst b.length] σ=.ok (.d (.str (AW [32] ls))) σ:=by
 have h1:He σ.cs (.lst b.length)=some (.lst (ls.map .str)):=by
  show(match σ.cs[b.length]? with|some (.lst xs)=>(Fu xs).map D.lst|_=>none)=_
  rw[e,Ig]
  show(Fu _).map D.lst=_
  rw[Qi];rfl
 have:=Jx (σ:=σ) (sep:=[32]) (ls:=ls) rfl h
 show(ofO ((Wj σ.cs (.lst b.length)).bind Di) fun ls=>if[32].length≤1∧(ls.map List.length).sum+ls.length≤big then R.ok (AV.d (.str (AW [32] ls))) σ else .stuck)=_
 rw[show Wj σ.cs (.lst b.length)=some (ls.map .str) by unfold Wj;rw[h1];rfl]
 exact this
theorem cY{L:List (List Nat)}{n:List Nat}(tl:σ.m (N "lines")=some (.d (.lst (L.map .str))))(ta:σ.m (N "at")=some (.d (Aa a)))(h:f σ=.ok (.d (.str n)) σ)(hl:L.length≤1000)(ha:a<L.length):
  AG As (AG As (CD (AB (N "lines")) none (some (AB (N "at")))) (Bi (AD [f]))) (CD (AB (N "lines")) (some (AG As (AB (N "at")) (cF (.int 1)))) none) σ=.ok (.d (.lst ((L.take a++[n]++L.drop (a+1)).map .str))) σ:=by
 have e1:=Nx (AH tl) (AH ta) (Int.natCast_nonneg a) (by rw[List.length_map];unfold big;lia)
 have e2:=Nw (AH tl) (g:=AG As (AB (N "at")) (cF (.int 1))) (lo:=(a:Int)+1) (AE (AH ta) AJ rfl) (by lia) (by rw[List.length_map];unfold big;lia)
 rw[show((a:Int)).toNat=a from rfl,←List.map_take] at e1
 rw[show((a:Int)+1).toNat=a+1 by lia,←List.map_drop] at e2
 refine(AE (AE e1 (Bq (AA h AC) rfl) (Jy (by rw[List.length_map,List.length_take];show _+1≤big;unfold big;lia))) e2 (Jy (by rw[List.length_append,List.length_map,List.length_map,List.length_take,List.length_drop];show _+1+_≤big;unfold big;lia))).trans ?_
 rw[List.map_append,List.map_append];rfl
theorem ES.last{c:AK}(h:ES (ys++[c]) cs):aq (fun b=>b.length=ys.length+2) (fun b=>cs=b++[c]) (fun b=>(∀c',c'.lo (ys.length+3)=true→ES (ys++[c']) (b++[c']))) (fun b=>∀cs0,ES ys cs0→ES ys b):=by
 obtain⟨b,h1,h2,h3,h4⟩:=h.turn
 exact⟨b,h1,h2,fun c' hc=>h3 [c'] rfl (by show(c'.lo (ys.length+2+1)&&true)=true;rw[Bool.and_true];exact hc),h4⟩
theorem ES.push{c:AK}(h:ES ys cs)(hc:c.lo (ys.length+3)=true):ES (ys++[c]) (cs++[c]):=by
 have hl:=h.len
 cases h with
 |@mk p s hp hk=>
  rw[List.append_assoc]
  refine .mk hp ?_
  rw[←List.append_assoc]
  refine Ki hk ?_
  rw[hl];exact hc
theorem WQ{n:Nat}(ls:List (List Nat)):(B9 (ls.map .str)).lo n=true:=Ii _
end
section
variable {σ σ1 τ:St} {cs ys:List AK} {L:List (List Nat)} {u v:U} {w:List Nat} {ws:List (List Nat)} {a k:Nat} {f g:St→R AV}
theorem gB{E:Xe}{f:St→R AV}(hd:CE E f (· =.lst 1)):CE E (AG Af (Bi (AD [cF (.str (N "x").cps.toList),cF (.str (N "0").cps.toList),cF (.str (N "07").cps.toList),cF (.str (N "\"").cps.toList),cF (.str (N "end").cps.toList),cF (.str (N "\"a\"").cps.toList),cF (.str (N "local1").cps.toList),cF (.str (N ";").cps.toList)])) (AN AL (AD [f,cF (.int (8:Nat))]))) (Hi fun d=>Aj (fun w=>w∈Te) (fun w=>d=.str w)):=
 .bin (V1:=(· =.d (.lst (Te.map .str)))) ⟨fun c e=>⟨_,_,rfl,c,Bq (AA AJ (AA AJ (AA AJ (AA AJ (AA AJ (AA AJ (AA AJ (AA AJ AC)))))))) rfl⟩⟩ (.takeC hd 8) fun a b σ h1 h2=>by
  subst h1
  obtain⟨_,rfl,i,hi,rfl⟩:=h2
  have hl:i<Te.length:=hi
  exact⟨_,⟨_,rfl,_,List.getElem_mem hl,rfl⟩,B8 (by rw[List.getElem?_map,List.getElem?_eq_getElem hl];rfl) (by unfold big;lia)⟩
theorem Va{B:List (List Nat)}(HB:f9 L B)(hl:L.length≤400)(hc:L.countP Aw≤8)(tb:τ.m (N "bent")=some (.d (.str (AW [10] B))))(hcl:clo τ.cs.length τ.cs=true):Aj (fun τ'=>τ'.cs=τ.cs) (fun τ'=>AP (CG (BQ (AN A4 (AD [AB (N "bent")]))) (A3 (cF (.bool true))) BX) (AP (Ag (AN BF (AD [AB (N "bent")])) (Az (N "found"))) (A3 (AN Bh (AD [AN BF (AD [AN Bz (AD [AB (N "found")])]),AB (N "found")])))) τ=.ok (.ret (.d (.bool true))) τ'):=by
 obtain⟨T,e,hT⟩:=cW HB hl hc
 have e1:BQ (AN A4 (AD [AB (N "bent")])) τ=.ok (VH (AW [10] B)).isNone τ:=Ax (AY (AA (AH tb) AC) (Ha T hcl))
 cases q:VH (AW [10] B) with
 |none=>rw[q] at e1;exact⟨τ,rfl,Ka (BV e1 (DJ AJ))⟩
 |some v=>
  rw[q] at e1
  have H:=hT v q
  have e2:AN BF (AD [AB (N "bent")]) τ=.ok (.d v.D) τ:=AY (AA (AH tb) AC) (by rw[GL T hcl,q];rfl)
  have tf:(τ.setM (N "found") (.d v.D)).m (N "found")=some (.d v.D):=AI
  have hcl':clo (τ.setM (N "found") (.d v.D)).cs.length (τ.setM (N "found") (.d v.D)).cs=true:=hcl
  have e3:=AY (AA (AY (AA (AH tf) AC) (Ic H.dep H.ok.ok H.text.2.2 hcl')) AC) (show BF [.d (.str (AW [10] v.lines))] (τ.setM (N "found") (.d v.D)).cs=.ok (.d v.D) (τ.setM (N "found") (.d v.D)).cs by rw[GL H.text.1 hcl',H.rd];rfl)
  have e4:=AY (AA e3 (AA (AH tf) AC)) (PO H.ok (Nat.le_trans H.size (by decide)) hcl')
  exact⟨τ.setM (N "found") (.d v.D),rfl,A6 (BM e1 Cq) (A6 (AS e2 Ae) (DJ e4))⟩
theorem OI{L:List (List Nat)}(HL:∀l∈L,Bl 30 l)(h0:L≠[])(hl:L.length≤400)(hc:L.countP Aw≤8):Xo B5 (· =[.lst 1,.d (.lst (L.map .str))]) (· =.bool true):=by
 unfold B5 DZ
 refine⟨fun{ys cs vs} c hv=>?_⟩
 subst hv
 have hst:Ct (BR Bk.s) Bk.names cs [.lst 1,.d (.lst (L.map .str))]=((BJ cs).setM (N "draws") (.lst 1)).setM (N "lines") (.d (.lst (L.map .str))):=by kernel_rfl
 have hlen:0<L.length:=List.length_pos_iff.mpr h0
 have v1:(((BJ cs).setM (N "draws") (.lst 1)).setM (N "lines") (.d (.lst (L.map .str)))).m (N "draws")=some (.lst 1):=AM (by decide+kernel) AI
 have v2:(((BJ cs).setM (N "draws") (.lst 1)).setM (N "lines") (.d (.lst (L.map .str)))).m (N "lines")=some (.d (.lst (L.map .str))):=AI
 have ed:CE (fun m z0=>m (N "draws")=some (.lst 1)) (AB (N "draws")) (· =.lst 1):=.v fun m b h=>h
 have el:=CE.fn (E:=fun m z0=>m (N "draws")=some (.lst 1)∧m (N "lines")=some (.d (.lst (L.map .str)))) (F:=BA) (V:=(· =.d (.int L.length))) (.cons (.v (x:=N "lines") fun m b h=>h.2) .nil) fun vs σ hv=>by
  obtain⟨_,_,rfl,rfl,rfl⟩:=hv
  exact⟨_,rfl,by rw[CI (by rw[List.length_map];unfold big;lia),List.length_map]⟩
 obtain⟨_,cs1,⟨_,rfl,a,ha,rfl⟩,c1,e1⟩:=(CE.take (.v (x:=N "draws") fun m b h=>h.1) hlen el).h (m:=(((BJ cs).setM (N "draws") (.lst 1)).setM (N "lines") (.d (.lst (L.map .str)))).m) (b:=fun z0=>none) c ⟨v1,v2⟩
 generalize hτ:St.setM ⟨cs1,(((BJ cs).setM (N "draws") (.lst 1)).setM (N "lines") (.d (.lst (L.map .str)))).m,fun z0=>none⟩ (N "at") (.d (Aa a))=τ
 have td:τ.m (N "draws")=some (.lst 1):=by rw[←hτ];exact AM (by decide+kernel) v1
 have tl:τ.m (N "lines")=some (.d (.lst (L.map .str))):=by rw[←hτ];exact AM (by decide+kernel) v2
 have ta:τ.m (N "at")=some (.d (Aa a)):=by rw[←hτ];exact AI
 have tc:ES ys τ.cs:=by rw[←hτ];exact c1
 have E1:Ag (AN AL (AD [AB (N "draws"),BK BA (AD [AB (N "lines")])])) (Az (N "at")) (((BJ cs).setM (N "draws") (.lst 1)).setM (N "lines") (.d (.lst (L.map .str))))=.ok .next τ:=AS e1 (Ae.trans (by rw[hτ]))
 clear hτ
 have hla:=HL _ (List.getElem_mem ha)
 have el2:L.getD a []=L[a]:=by rw[List.getD_eq_getElem?_getD,List.getElem?_eq_getElem ha];rfl
 have hw0:Ai L[a]≠[]:=CZ 32 _
 have hw8:=hla.words.1
 have hwk:=hla.words.2
 have hlb:L[a].length≤big:=by have:=hla.len;unfold big;lia
 have E2:Ag (AO JE (Gy NF) (AG Af (AB (N "lines")) (AB (N "at"))) (AD [cF (.str (N " ").cps.toList)])) (Az (N "words")) τ=.ok .next (St.setM {τ with cs:=τ.cs++[B9 ((Ai L[a]).map .str)]} (N "words") (.lst τ.cs.length)):=
  AS (BG (AE (AH tl) (AH ta) (B8 (x:=.str L[a]) (by rw[List.getElem?_map,List.getElem?_eq_getElem ha];rfl) (by unfold big;lia))) rfl (AA AJ AC) (ae hlb)) Ae
 have hn:=tc.len
 have tc2:ES (ys++[B9 ((Ai L[a]).map .str)]) (τ.cs++[B9 ((Ai L[a]).map .str)]):=tc.push (WQ _)
 have hm:∀{x v},τ.m x=some v→N "words" ≠x→(St.setM {τ with cs:=τ.cs++[B9 ((Ai L[a]).map .str)]} (N "words") (.lst τ.cs.length)).m x=some v:=fun h1 h2=>AM (Ne.symm h2) h1
 have w2:(St.setM {τ with cs:=τ.cs++[B9 ((Ai L[a]).map .str)]} (N "words") (.lst τ.cs.length)).m (N "words")=some (.lst τ.cs.length):=AI
 have td2:=hm td (by decide+kernel)
 have tl2:=hm tl (by decide+kernel)
 have ta2:=hm ta (by decide+kernel)
 generalize hτ2:St.setM {τ with cs:=τ.cs++[B9 ((Ai L[a]).map .str)]} (N "words") (.lst τ.cs.length)=τ2 at E2 hm w2 td2 tl2 ta2
 have tc2:ES (ys++[B9 ((Ai L[a]).map .str)]) τ2.cs:=by rw[←hτ2];exact tc2
 clear hτ2 hm
 rw[hn] at w2
 obtain⟨_,cs3,⟨_,rfl,w,hw,rfl⟩,c3,e3⟩:=(gB ed).h (m:=τ2.m) (b:=τ2.b) tc2 td2
 have elw:BK BA (AD [AB (N "words")]) ⟨cs3,τ2.m,τ2.b⟩=.ok (.d (.int (Ai L[a]).length)) ⟨cs3,τ2.m,τ2.b⟩:=by
  obtain⟨b,hb,e,_⟩:=c3.last
  rw[←hb] at w2
  refine Ao (AA (AH w2) AC) ?_
  have:=dM (σ:=⟨cs3,τ2.m,τ2.b⟩) (b:=b) (ys:=[B9 ((Ai L[a]).map .str)]) (j:=0) (l:=(Ai L[a]).map .str) e rfl (by rw[List.length_map];unfold big;lia)
  rw[List.length_map] at this
  exact this
 obtain⟨k,cs4,hk,c4,e4⟩:=VU (List.length_pos_iff.mpr hw0) c3
 obtain⟨b,hb,e,kk,k0⟩:=c4.last
 have E3:Ag (AG Af (Bi (AD [cF (.str (N "x").cps.toList),cF (.str (N "0").cps.toList),cF (.str (N "07").cps.toList),cF (.str (N "\"").cps.toList),cF (.str (N "end").cps.toList),cF (.str (N "\"a\"").cps.toList),cF (.str (N "local1").cps.toList),cF (.str (N ";").cps.toList)])) (AN AL (AD [AB (N "draws"),cF (.int 8)]))) (ci (AB (N "words")) (AN AL (AD [AB (N "draws"),BK BA (AD [AB (N "words")])]))) τ2=.ok .next ⟨b++[B9 (((Ai L[a]).set k w).map .str)],τ2.m,τ2.b⟩:=
  AS e3 (dB (AH w2) (DQ (AA (AH td2) (AA elw AC)) e4) (by rw[←hb];exact gA e hk (by lia)))
 have c5:=kk (B9 (((Ai L[a]).set k w).map .str)) (WQ _)
 have ej:AO JE (Gy Dd) (cF (.str (N " ").cps.toList)) (AD [AB (N "words")]) ⟨b++[B9 (((Ai L[a]).set k w).map .str)],τ2.m,τ2.b⟩=.ok (.d (.str (AW [32] ((Ai L[a]).set k w)))) ⟨b++[B9 (((Ai L[a]).set k w).map .str)],τ2.m,τ2.b⟩:=
  BG AJ rfl (AA (AH (by rw[←hb] at w2;exact w2)) AC) (cX rfl (Nat.le_trans (EQ (B:=30) fun x hx=>by
   rcases List.mem_or_eq_of_mem_set hx with hx|rfl
   ·exact(hwk x hx).2
   ·exact(Tf _ hw).2.1) (by rw[List.length_set];unfold big;lia)))
 have HB:=cV (k:=k) HL ha hw
 have eb:Tg L a k w=L.take a++[AW [32] ((Ai L[a]).set k w)]++L.drop (a+1):=by unfold Tg;rw[el2]
 have E4:=AS (t:=Az (N "bent")) (BG (chk:=JE) (F:=Gy Dd) (AJ (d:=.str [10])) rfl (AA (cY (σ:=⟨b++[B9 (((Ai L[a]).set k w).map .str)],τ2.m,τ2.b⟩) tl2 ta2 ej (by lia) ha) AC) (Jx rfl (by
  rw[←eb]
  exact(Dc.of HB.ne (fun l h=>(HB.ln l h).mono (by decide)) (by rw[HB.len];lia) (Nat.le_trans HB.cnt hc)).2.2))) Ae
 rw[←eb] at E4
 generalize hτ5:St.setM ⟨b++[B9 (((Ai L[a]).set k w).map .str)],τ2.m,τ2.b⟩ (N "bent") (.d (.str (AW [10] (Tg L a k w))))=τ5 at E4
 have c6:ES (ys++[B9 (((Ai L[a]).set k w).map .str)]) τ5.cs:=by rw[←hτ5];exact c5
 obtain⟨τ6,e6,E6⟩:=Va HB hl hc (by rw[←hτ5];exact AI) c6.clo
 obtain⟨b',hb',e',_,k0'⟩:=c6.last
 refine⟨_,b',rfl,k0' cs c,Ld (F:=Bk) (fz:=true) rfl hst (A6 E1 (A6 E2 (A6 E3 (A6 E4 E6)))) ?_⟩
 have h7:τ6.cs.take cs.length=b':=by rw[e6,e',c.len,←hb',List.take_left]
 have h8:=(k0' cs c).clo
 rw[hb',←c.len] at h8
 unfold fin
 simp only[LF,Tl,JQ,h7,h8,if_true]
end
section
variable {σ σ1 τ:St} {cs ys:List AK} {L:List (List Nat)} {u v:U} {a k:Nat} {f g:St→R AV} {G:R AF→Prop} {inner:List U}
structure Dn(u:U):Prop where
 sz:dJ 3 (2^64) u
 ln:u.lines.length≤18*u.size
theorem OJ:∀us:List U,Us.dep us≤Us.size us
 |[]=>Nat.le_refl _
 |.mk h us::r=>by
  have h1:=OJ us
  have h2:=OJ r
  show max (Us.dep us+1) (Us.dep r)≤(1+Us.size us)+Us.size r
  exact Nat.max_le.mpr ⟨by lia,by lia⟩
theorem af{us:List U}(H:∀u∈us,Dn u):(Us.lines us).length≤18*Us.size us:=by
 induction us with
 |nil=>exact Nat.le_refl _
 |cons u us ih=>
  have h1:=(H u (.head _)).ln
  have h2:=ih fun v hv=>H v (.tail _ hv)
  show(u.lines++Us.lines us).length≤18*(u.size+Us.size us)
  rw[List.length_append];lia
theorem WU{h:Hd}{us:List U}(M:f7 h)(H:∀u∈us,Dn u):Dn (.mk h us):=by
 refine⟨.mk M.sz fun u hu=>(H u hu).sz,?_⟩
 have h1:=af H
 have h2:=M.n1
 have h3:=M.n2
 have h4:=M.n3
 rw[U.lines_eq]
 simp only[List.length_append,List.length_map,List.length_range]
 have h6:(Ep h).length=6:=rfl
 have h7:[sL "end"].length=1:=rfl
 have h8:(U.mk h us).size=1+Us.size us:=rfl
 lia
structure Lw(inner:List U)(τ:St):Prop where
 c:ES [] τ.cs
 d:τ.m (N "draws")=some (.lst 1)
 n:τ.m (N "names")=some (.d (.lst (Ga.map .str)))
 k:τ.m (N "kinds")=some (.d (.str A5))
 i:τ.m (N "inner")=some (.d (.lst (Us.D inner)))
theorem Lw.set{x:Str}{v:AV}(T:Lw inner τ)(h1:N "draws" ≠x)(h2:N "names" ≠x)(h3:N "kinds" ≠x)(h4:N "inner" ≠x):Lw inner (τ.setM x v):=⟨T.c,AM h1 T.d,AM h2 T.n,AM h3 T.k,AM h4 T.i⟩
theorem PS{us:List U}{m b:Str→Option AV}{cs':List AK}(c:ES [] cs)(e:g ⟨cs,m,b⟩=.ok (.d (.lst (Us.D us))) ⟨cs',m,b⟩)(c':ES [] cs')(d:m (N "draws")=some (.lst 1))(k:m (N "kinds")=some (.d (.str A5))):E2_3 (fun h cs2=>f7 h) (fun h cs2=>ES [] cs2) (fun h cs2=>AN Cp (AD [AB (N "draws"),AB (N "kinds"),g]) ⟨cs,m,b⟩=.ok (.d (U.mk h us).D) ⟨cs2,m,b⟩):=by
 obtain⟨_,cs2,⟨h,hM,rfl⟩,c2,e2⟩:=(VZ us).h c' rfl
 exact⟨h,cs2,hM,c2,DQ (AA (AH d) (AA (AH k) (AA e AC))) e2⟩
theorem ag(T:Lw inner τ)(H:∀u∈inner,Dn u)(hi:inner.length≤1000):JO (fun inner' τ'=>(∀u∈inner',Dn u)) (fun inner' τ'=>Us.size inner'≤Us.size inner+1) (fun inner' τ'=>Lw inner' τ') (fun inner' τ'=>AP (Ag (AN Cp (AD [AB (N "draws"),AB (N "kinds"),CG (BQ (AG C5 (AN AL (AD [AB (N "draws"),cF (.int 2)])) (cF (.int 0)))) (AB (N "inner")) (Bi (AD []))])) (Az (N "drawn"))) (Ag (CG (BQ (AG JY (AQ (N "units") (AB (N "drawn"))) (Bi (AD [])))) (Bi (AD [AB (N "drawn")])) (AG As (AB (N "inner")) (Bi (AD [AB (N "drawn")])))) (Az (N "inner"))) τ=.ok .next τ'):=by
 obtain⟨_,cs1,⟨_,rfl,b,rfl⟩,c1,e1⟩:=(CE.takeEq (E:=fun m z0=>m (N "draws")=some (.lst 1)) (c:=0) (.v (x:=N "draws") fun m b h=>h) 2).h (m:=τ.m) (b:=τ.b) T.c T.d
 obtain⟨us,hus,eg⟩:Aj (fun(us:List U)=>(us=inner∨us=[])) (fun(us:List U)=>CG (BQ (AG C5 (AN AL (AD [AB (N "draws"),cF (.int 2)])) (cF (.int 0)))) (AB (N "inner")) (Bi (AD [])) τ=.ok (.d (.lst (Us.D us))) ⟨cs1,τ.m,τ.b⟩):=by
  cases b with
  |true=>exact⟨inner,.inl rfl,BV (Ax e1) (AH T.i)⟩
  |false=>exact⟨[],.inr rfl,BM (Ax e1) (Bq AC rfl)⟩
 obtain⟨h,cs2,hM,c2,e2⟩:=PS (cs:=τ.cs) (m:=τ.m) (b:=τ.b) T.c eg c1 T.d T.k
 have Hus:∀u∈us,Dn u:=by
  rcases hus with rfl|rfl
  ·exact H
  ·exact fun u h=>nomatch h
 have hsz:Us.size us≤Us.size inner:=by
  rcases hus with rfl|rfl
  ·exact Nat.le_refl _
  ·exact Nat.zero_le _
 have hD:=WU hM Hus
 have T2:Lw inner ((⟨cs2,τ.m,τ.b⟩:St).setM (N "drawn") (.d (U.mk h us).D)):=Lw.set (τ:=⟨cs2,τ.m,τ.b⟩) ⟨c2,T.d,T.n,T.k,T.i⟩ (by decide+kernel) (by decide+kernel) (by decide+kernel) (by decide+kernel)
 have td:((⟨cs2,τ.m,τ.b⟩:St).setM (N "drawn") (.d (U.mk h us).D)).m (N "drawn")=some (.d (U.mk h us).D):=AI
 generalize hτ:(⟨cs2,τ.m,τ.b⟩:St).setM (N "drawn") (.d (U.mk h us).D)=τ2 at T2 td
 have e3:BQ (AG JY (AQ (N "units") (AB (N "drawn"))) (Bi (AD []))) τ2=.ok (us.length !=0) τ2:=Ax (AE (Ab (AH td) I3) (Bq AC rfl) (by show R.ok (AV.d (.bool ((Us.D us).length !=0))) τ2=_;rw[MC]))
 have el:Bi (AD [AB (N "drawn")]) τ2=.ok (.d (.lst (Us.D [U.mk h us]))) τ2:=Bq (AA (AH td) AC) rfl
 have eq1:Ag (AN Cp (AD [AB (N "draws"),AB (N "kinds"),CG (BQ (AG C5 (AN AL (AD [AB (N "draws"),cF (.int 2)])) (cF (.int 0)))) (AB (N "inner")) (Bi (AD []))])) (Az (N "drawn")) τ=.ok .next τ2:=AS e2 (Ae.trans (by rw[hτ]))
 have up:∀i':List U,Lw i' (τ2.setM (N "inner") (.d (.lst (Us.D i')))):=fun i'=>⟨T2.c,AM (by decide+kernel) T2.d,AM (by decide+kernel) T2.n,AM (by decide+kernel) T2.k,AI⟩
 cases us with
 |nil=>
  refine⟨inner++[U.mk h []],_,fun u hu=>?_,by rw[K3];exact Nat.le_refl _,up _,A6 eq1 (AS (BM e3 (AE (AH T2.i) el (Jy (by rw[MC];show _+1≤big;unfold big;lia)))) (Ae.trans ?_))⟩
  ·rcases List.mem_append.mp hu with hu|hu
   ·exact H u hu
   ·rw[List.mem_singleton.mp hu];exact hD
  ·rw[show Us.D inner++Us.D [U.mk h []]=Us.D (inner++[U.mk h []]) by rw[MD,MD,MD,List.map_append]]
 |cons w ws=>
  refine⟨[U.mk h (w::ws)],_,fun u hu=>by rw[List.mem_singleton.mp hu];exact hD,?_,up _,A6 eq1 (AS (BV e3 el) Ae)⟩
  show(1+Us.size (w::ws))+0≤_
  lia
end
section
variable {σ σ1 τ:St} {cs ys:List AK} {L:List (List Nat)} {u v:U} {a k:Nat} {f g:St→R AV} {G:R AF→Prop} {inner:List U}
theorem cZ(H:Dn u)(hs:u.size≤3):K0 u:=by
 have hd:u.dep≤3:=by
  have:=OJ [u]
  have h1:Us.dep [u]=max u.dep 0:=rfl
  have h2:Us.size [u]=u.size+0:=rfl
  lia
 have:=H.ln
 exact⟨H.sz.ok J9,by lia,by lia,fun l hl=>(OE J9 H.sz l hl).mono (by decide),by lia⟩
theorem Xg{cs:List AK}(hc:clo cs.length cs=true):Rs FH [.d (.str (sL "other")),.d (.lst [.str (sL "b")])] cs=.ok (.d Lq.D) cs:=by
 have h1:=Zq (b:=cs) (nm:=some (sL "other")) (ps:=[sL "b"])
 have h2:=dG (b:=cs) (h:=K6 (some (sL "other")) [sL "b"]) (us:=[])
 have h3:(cs++Ap cs.length (K6 (some (sL "other")) [sL "b"]) []).take cs.length=cs:=List.take_left
 unfold Rs
 rw[show FH [.d (.str (sL "other")),.d (.lst [.str (sL "b")])] cs=_ from h1]
 dsimp only
 rw[h2,h3]
 dsimp only
 rw[if_pos hc];rfl
structure Lx(u:U)(τ:St):Prop where
 c:ES [] τ.cs
 d:τ.m (N "draws")=some (.lst 1)
 n:τ.m (N "names")=some (.d (.lst (Ga.map .str)))
 k:τ.m (N "kinds")=some (.d (.str A5))
 du:τ.m (N "drawn")=some (.d u.D)
 t:τ.m (N "text")=some (.d (.str (AW [10] u.lines)))
 a:τ.m (N "again")=some (.d u.D)
 l:τ.m (N "lines")=some (.d (.lst (u.lines.map .str)))
theorem Lx.set{x:Str}{v:AV}(T:Lx u τ)(h:x=N "pc"):Lx u (τ.setM x v):=by
 subst h
 exact⟨T.c,AM (by decide+kernel) T.d,AM (by decide+kernel) T.n,AM (by decide+kernel) T.k,AM (by decide+kernel) T.du,AM (by decide+kernel) T.t,AM (by decide+kernel) T.a,AM (by decide+kernel) T.l⟩
theorem Xh(T:Lw inner τ)(hu:τ.m (N "drawn")=some (.d u.D))(H:K0 u):EU (fun τ'=>Lx u τ') (fun τ'=>Ag (AN Bz (AD [AB (N "drawn")])) (Az (N "text")) τ=.ok .next (τ.setM (N "text") (.d (.str (AW [10] u.lines))))) (fun τ'=>KH (AD [AN BF (AD [AB (N "text")]),AO JE (Gy Gz) (AB (N "text")) (AD [cF (.str (N "\n").cps.toList)])]) [Az (N "lines"),Az (N "again")] (τ.setM (N "text") (.d (.str (AW [10] u.lines))))=.ok .next τ'):=by
 have e1:=AS (t:=Az (N "text")) (AY (AA (AH hu) AC) (Ic H.dep H.ok.ok H.text.2.2 T.c.clo)) Ae
 have vt:(τ.setM (N "text") (.d (.str (AW [10] u.lines)))).m (N "text")=some (.d (.str (AW [10] u.lines))):=AI
 have e2:=AY (σ1:=τ.setM (N "text") (.d (.str (AW [10] u.lines)))) (AA (AH vt) AC) (show BF [.d (.str (AW [10] u.lines))] τ.cs=.ok (.d u.D) τ.cs by rw[GL H.text.1 T.c.clo,H.rd];rfl)
 have e3:AO JE (Gy Gz) (AB (N "text")) (AD [cF (.str (N "\n").cps.toList)]) (τ.setM (N "text") (.d (.str (AW [10] u.lines))))=.ok (.d (.lst (u.lines.map .str))) (τ.setM (N "text") (.d (.str (AW [10] u.lines)))):=BG (AH vt) rfl (AA AJ AC) ((Mv (c:=10) H.text.1.len).trans (by rw[H.text.2.1]))
 refine⟨_,?_,e1,Mq (AA e2 (AA e3 AC)) rfl⟩
 exact⟨T.c,AM (by decide+kernel) (AM (by decide+kernel) (AM (by decide+kernel) T.d)),AM (by decide+kernel) (AM (by decide+kernel) (AM (by decide+kernel) T.n)),AM (by decide+kernel) (AM (by decide+kernel) (AM (by decide+kernel) T.k)),
  AM (by decide+kernel) (AM (by decide+kernel) (AM (by decide+kernel) hu)),AM (by decide+kernel) (AM (by decide+kernel) AI),AI,AM (by decide+kernel) AI⟩
theorem ah{h:Hd}{us:List U}(T:Lx (.mk h us) τ)(H:K0 (.mk h us))(hn:h.code≠[]):DL (Eu .Or) [K9 (BQ (AN Bh (AD [AB (N "again"),AB (N "drawn")]))),BQ (AG Iq (AN Bz (AD [AB (N "again")])) (AB (N "text"))),BQ (AN Bh (AD [AB (N "again"),AN (Rs FH) (AD [cF (.str (N "other").cps.toList),Bi (AD [cF (.str (N "b").cps.toList)])])]))] τ=.ok false τ:=by
 have hs:(U.mk h us).size≤1000:=Nat.le_trans H.size (by decide)
 have hcl:=T.c.clo
 have e1:=IU (Ax (AY (AA (AH T.a) (AA (AH T.du) AC)) (PO H.ok hs hcl)))
 have okt:Gb (AW [10] (U.mk h us).lines)=true:=GX fun c hc=>by
  rcases N7 hc with rfl|⟨l,hl,hc⟩
  ·decide
  ·have:=(H.ln l hl).sign c hc;lia
 have e2:=Ax (AE (AY (AA (AH T.a) AC) (Ic H.dep H.ok.ok H.text.2.2 hcl)) (AH T.t) (O7 okt okt))
 rw[decide_eq_true rfl] at e2
 cases H.ok with
 |mk R _=>
  have e3:=Ax (AY (AA (AH T.a) (AA (AY (AA AJ (AA (Bq (AA (AJ (d:=.str (sL "b"))) AC) rfl) AC)) (Xg hcl)) AC)) (VS R.ok hn hs hcl))
  exact Ke (c:=false) e1 fun z0=>Ke (c:=false) e2 fun z0=>QT e3
theorem Xi{h:Hd}{us:List U}(T:Lx (.mk h us) τ)(H:K0 (.mk h us)){g':St→R AF}(hk:∀τ,Lx (.mk h us) τ→Bd (g' τ) G):Bd (AP (EF (A7 (BK Bw (AD [BK BA (AD [AQ (N "code") (AB (N "drawn"))])]))) (Az (N "pc")) (CG (BQ (AG (CC fun a b=>decide (a<b)) (AO PZ (NC ND) (AB (N "lines")) (AD [AN D7 (AD [AB (N "drawn"),AB (N "pc"),AB (N "names"),AB (N "kinds")])])) (cF (.int 1)))) (A3 (cF (.bool false))) BX)) g' τ) G:=by
 cases H.ok with
 |mk O _=>
  have lc:h.code.length≤1000:=O.ok.lens.2.2.1
  have e1:BK Bw (AD [BK BA (AD [AQ (N "code") (AB (N "drawn"))])]) τ=.ok (.d (.rng 0 (h.code.length:Nat) 1)) τ:=Ao (AA (Ao (AA (Ab (AH T.du) Jw) AC) (CI (by rw[List.length_map];unfold big;lia))) AC) (by rw[List.length_map];rfl)
  refine L5 (BN e1 (E8 (n:=h.code.length) (by lia))) (fun xs τ=>Lx (.mk h us) τ∧∀x∈xs,Aj (fun(pc:Nat)=>pc<h.code.length) (fun(pc:Nat)=>x=Aa pc)) ⟨T,fun x hx=>?_⟩ (fun x xs τ ⟨T,hx⟩=>?_) fun τ ⟨T,_⟩=>hk τ T
  ·obtain⟨pc,hpc,rfl⟩:=List.mem_map.mp hx
   exact⟨pc,List.mem_range.mp hpc,rfl⟩
  ·obtain⟨pc,hpc,rfl⟩:=hx x (.head _)
   have T1:=T.set (x:=N "pc") (v:=.d (Aa pc)) rfl
   have vp:(τ.setM (N "pc") (.d (Aa pc))).m (N "pc")=some (.d (Aa pc)):=AI
   have el:=AY (AA (AH T1.du) (AA (AH vp) (AA (AH T1.n) (AA (AH T1.k) AC)))) (VX (us:=Us.D us) O hpc T1.c.clo)
   have hmem:BI h pc∈(U.mk h us).lines:=by
    rw[U.lines_eq]
    exact List.mem_append_right _ (List.mem_append_right _ (List.mem_append_right _ (List.mem_append_left _ (List.mem_map.mpr ⟨pc,List.mem_range.mpr hpc,rfl⟩))))
   have ec:NC ND (.d (.lst ((U.mk h us).lines.map .str))) [.d (.str (BI h pc))] (τ.setM (N "pc") (.d (Aa pc)))=.ok (.d (.int ((U.mk h us).lines.count (BI h pc):Nat))) (τ.setM (N "pc") (.d (Aa pc))):=by
    show(ofO (Di ((U.mk h us).lines.map .str)) fun ls=>if ls.length≤big then R.ok (AV.d (.int (ls.count (BI h pc)))) _ else .stuck)=_
    rw[show Di ((U.mk h us).lines.map .str)=some (U.mk h us).lines from Ev _]
    exact if_pos (by have:=H.len;unfold big;lia)
   have hc:0<(U.mk h us).lines.count (BI h pc):=List.count_pos_iff.mpr hmem
   refine⟨_,Ae,.inl ⟨_,BM (Ax (AE (BG (AH T1.l) rfl (AA el AC) ec) AJ ?_)) Cq,T1,fun y hy=>hx y (.tail _ hy)⟩⟩
   show R.ok (AV.d (.bool (decide ((((U.mk h us).lines.count (BI h pc):Nat):Int)<1)))) _=_
   rw[decide_eq_false (by lia)]
end
section
variable {σ σ1 τ:St} {cs ys:List AK} {L:List (List Nat)} {u v:U} {a k:Nat} {f g:St→R AV} {G:R AF→Prop} {inner:List U}
theorem cb{l:List D}{i:Nat}(hf:f σ=.ok (.d (.lst l)) σ)(hg:g σ=.ok (.d (.int i)) σ1)(hl:l.length≤big):CD f none (some g) σ=.ok (.d (.lst (l.take i))) σ1:=by
 refine(bind_ok hf).trans ((bind_ok (a:=(none,some (i:Int))) (σ:=σ1) ?_).trans ?_)
 ·refine(bind_ok (a:=(none:Option Int)) rfl).trans ?_
  refine(bind_ok (a:=some (i:Int)) (σ:=σ1) ?_).trans rfl
  exact(bind_ok hg).trans rfl
 ·show(if l.length≤big then R.ok (AV.d (.lst (JV none (some (i:Int)) l))) σ1 else .stuck)=_
  rw[if_pos hl]
  rfl
theorem Th(T:Lx u τ)(H:K0 u):Aj (fun cs'=>ES [] cs') (fun cs'=>DL (Eu .Or) [K9 (BQ (AN A4 (AD [AO JE (Gy Dd) (cF (.str (N "\n").cps.toList)) (AD [CD (AB (N "lines")) none (some (AN AL (AD [AB (N "draws"),BK BA (AD [AB (N "lines")])])))])]))),K9 (BQ (AN A4 (AD [AG As (AB (N "text")) (cF (.str (N "\nend").cps.toList))])))] τ=.ok false ⟨cs',τ.m,τ.b⟩):=by
 have hl:=H.len
 have hpos:0<u.lines.length:=List.length_pos_iff.mpr (K1 u)
 have el:=CE.fn (E:=fun m z0=>m (N "draws")=some (.lst 1)∧m (N "lines")=some (.d (.lst (u.lines.map .str)))) (F:=BA) (V:=(· =.d (.int u.lines.length))) (.cons (.v (x:=N "lines") fun m b h=>h.2) .nil) fun vs σ hv=>by
  obtain⟨_,_,rfl,rfl,rfl⟩:=hv
  exact⟨_,rfl,by rw[CI (by rw[List.length_map];unfold big;lia),List.length_map]⟩
 obtain⟨_,cs1,⟨_,rfl,i,hi,rfl⟩,c1,e1⟩:=(CE.take (.v (x:=N "draws") fun m b h=>h.1) hpos el).h (m:=τ.m) (b:=τ.b) T.c ⟨T.d,T.l⟩
 have es:=cb (AH T.l) e1 (by rw[List.length_map];unfold big;lia)
 rw[←List.map_take] at es
 obtain⟨T1,r1⟩:=H.cut hi
 obtain⟨T2,r2⟩:=H.more
 have hj:De (u.lines.take i)≤big:=by
  have h0:∀l∈u.lines.take i,l.length≤1464:=fun l h=>(H.ln l (List.mem_of_mem_take h)).len
  have:=EQ h0
  have h2:(1464+1)*(u.lines.take i).length≤(1464+1)*400:=Nat.mul_le_mul_left _ (by rw[List.length_take];lia)
  unfold big;lia
 have e2:=IU (Ax (AY (AA (BG (chk:=JE) (F:=Gy Dd) (AJ (d:=.str [10])) rfl (AA es AC) (Jx rfl hj)) AC) (Ha T1 c1.clo)))
 rw[r1] at e2
 have ht:AW [10] (u.lines++[sL "end"])=AW [10] u.lines++(sL "\nend"):=by
  rw[OA (K1 u)]
  congr 1
 have e3:=IU (Ax (AY (σ1:=⟨cs1,τ.m,τ.b⟩) (AA (AE (AH (σ:=⟨cs1,τ.m,τ.b⟩) T.t) (AJ (d:=.str (sL "\nend"))) (Fj (by
  have:=T2.len
  rw[ht,List.length_append] at this
  exact this))) AC) (by rw[←ht];exact Ha T2 c1.clo)))
 rw[r2] at e3
 refine⟨cs1,c1,?_⟩
 exact Nn (o:=Eu .Or) e2 (Nn (o:=Eu .Or) e3 ZZ)
noncomputable def kG(r:R AF):Prop:=∃σ',r=.ok (.ret (.d (.bool true))) σ'
theorem law_plain(is:List Int)(hl:is.length≤63):∃σ',ZX (Ct (BR O4.s) O4.names [] [.d (.arg (is.map .int))])=.ok (.ret (.d (.bool true))) σ':=by
 unfold ZX
 rw[show Ct (BR O4.s) O4.names [] [.d (.arg (is.map .int))]=(BJ []).setM (N "script") (.d (.arg (is.map .int))) by kernel_rfl]
 refine(Bd.h ?_:kG _)
 obtain⟨cs0,c0,e0⟩:=Td hl
 have hc0:=c0.clo
 have e1:=Ks (ts:=[Az (N "draws"),Az (N "names"),Az (N "kinds"),Az (N "inner")]) (AA (DQ (AA (AH (σ:=(BJ []).setM (N "script") (.d (.arg (is.map .int)))) AI) AC) e0) (AA (AY AC (Ta hc0)) (AA (AY AC (TZ hc0)) (AA (Bq AC rfl) AC)))) rfl
 refine Av e1 ?_
 generalize hτ:St.setM (St.setM (St.setM (St.setM _ _ _) _ _) _ _) _ _=τ
 have T:Lw [] τ:=by
  rw[←hτ]
  exact⟨c0,AM (by decide+kernel) (AM (by decide+kernel) (AM (by decide+kernel) AI)),AM (by decide+kernel) (AM (by decide+kernel) AI),AM (by decide+kernel) AI,AI⟩
 clear hτ e1 e0
 obtain⟨_,cs1,⟨_,rfl,i,hi,rfl⟩,c1,e1⟩:=(CE.rng (.takeC (E:=fun m z0=>m (N "draws")=some (.lst 1)) (.v (x:=N "draws") fun m b h=>h) 3) (by decide)).h (m:=τ.m) (b:=τ.b) T.c T.d
 refine L5 (BN e1 (E8 (n:=i) (by lia))) (fun xs τ=>EU (fun inner=>Lw inner τ) (fun inner=>(∀u∈inner,Dn u)) (fun inner=>Us.size inner+xs.length≤2)) ⟨[],⟨c1,T.d,T.n,T.k,T.i⟩,fun z0 h=>(nomatch h),by rw[List.length_map,List.length_range];show 0+i≤2;lia⟩ (fun x xs τ ⟨inner,T,H,hs⟩=>?_) fun τ ⟨inner,T,H,hs⟩=>?_
 ·rw[List.length_cons] at hs
  have:=Gv inner
  obtain⟨inner',τ',H',hs',T',e⟩:=ag (T.set (x:=N "turn") (v:=.d x) (by decide+kernel) (by decide+kernel) (by decide+kernel) (by decide+kernel)) H (by lia)
  exact⟨_,Ae,.inl ⟨τ',e,inner',T',H',by lia⟩⟩
 rw[List.length_nil] at hs
 obtain⟨h,cs2,hM,c2,e2⟩:=PS (cs:=τ.cs) (m:=τ.m) (b:=τ.b) (g:=AB (N "inner")) T.c (AH T.i) T.c T.d T.k
 have D:=WU hM H
 have hsz:(U.mk h inner).size≤3:=by have h1:(U.mk h inner).size=1+Us.size inner:=rfl;lia
 have HT:=cZ D hsz
 refine Av (AS e2 Ae) ?_
 obtain⟨τ3,T3,e3,e4⟩:=Xh (inner:=inner) (τ:=(⟨cs2,τ.m,τ.b⟩:St).setM (N "drawn") (.d (U.mk h inner).D)) (Lw.set (τ:=⟨cs2,τ.m,τ.b⟩) ⟨c2,T.d,T.n,T.k,T.i⟩ (by decide+kernel) (by decide+kernel) (by decide+kernel) (by decide+kernel)) AI HT
 refine Av e3 (Av e4 (Ce (c:=false) (ah T3 HT hM.code) (fun e=>nomatch e) fun z0=>Xi T3 HT fun τ4 T4=>?_))
 obtain⟨cs5,c5,e5⟩:=Th T4 HT
 refine Kb (c:=false) e5 (fun e=>nomatch e) fun z0=>?_
 obtain⟨d,cs6,rfl,_,e6⟩:=(OI (L:=(U.mk h inner).lines) (OE J9 D.sz) (K1 _) HT.len (by rw[GM HT.ok];exact HT.size)).h c5 rfl
 exact BY (DQ (AA (AH (σ:=⟨cs5,τ4.m,τ4.b⟩) T4.d) (AA (AH (σ:=⟨cs5,τ4.m,τ4.b⟩) T4.l) AC)) e6) ⟨_,rfl⟩
end
theorem PT{P:Params}{R:WRecords}{cl:Str→Option Addr}{h:Heap}:∀{vs:List Value} {ws:List WData} {as:List Addr},ReadsAllW R cl h vs ws as→WShape.hasItems [] ws .int=true→Aj (fun(is:List Int)=>is.length=ws.length) (fun(is:List Int)=>C3 P h vs (is.map .int))
 |_,_,_,.nil,_=>⟨[],rfl,.nil⟩
 |_,_,_,.cons h r,e=>by
  unfold WShape.hasItems at e
  rw[Bool.and_eq_true] at e
  obtain⟨is,hl,hi⟩:=PT r e.2
  obtain⟨i,rfl⟩:=hasW_int e.1
  cases h with
  |int i t=>exact⟨i::is,congrArg Nat.succ hl,.cons (.int i t) hi⟩
theorem Ti{P:Params}{R:WRecords}{cl:Str→Option Addr}{h:Heap}{vs:List Value}{args:List WData}{as:List Addr}(q:ReadsAllW R cl h vs args as)
  (e:WShape.hasAll [] args [.list .int]=true):E2_3 (fun a ds=>vs=[.ref a]) (fun a ds=>args=[.list ds]) (fun a ds=>Aj (fun(is:List Int)=>is.length=ds.length) (fun(is:List Int)=>Rd P h (.ref a) (.arg (is.map .int)))):=by
 obtain⟨d,r,rfl,e1,e2⟩:=hasAllW_cons e
 obtain rfl:=hasAllW_nil e2
 obtain⟨ds,rfl,e3⟩:=hasW_list e1
 cases q with
 |cons q r=>
  cases r
  cases q with
  |list h1 h2 h3 h4=>
   obtain⟨is,hl,hi⟩:=PT (P:=P) h4 e3
   exact⟨_,_,rfl,rfl,is,hl,.arg ⟨_,h1,h2,_,h3⟩ hi⟩
theorem ai{n:Nat}(h:63<n):less? (.int 63) (.int n)=some true:=by
 show some (decide ((63:Int)<n))=some true
 rw[decide_eq_true (by lia)]
theorem gC{ds:List WData}(h:rr.pre.holds rr.records {args:=[.list ds]}=true):ds.length≤63:=by
 have:(WTm.and (.not (.lt (.lit (.int 63)) (.len (.arg 0)))) (.lit (.bool true))).holds [] {args:=[.list ds]}=true:=h
 simp[WTm.holds,WTm.value] at this
 refine Nat.le_of_not_lt fun q=>?_
 rw[show less? (.int 63) (.int ds.length)=some true from ai q] at this
 cases this
theorem walk_of{F:Fn}(K:Bb F){B:St→R AF}(hB:Pj F 51 B)(hF:∀P,nsIn (Kp pw P) mainGlobals (Str.ofString "law")=some (some (.ref F.a)))(hN:F.names.length=1)
  (law:∀is:List Int,is.length≤63→∃σ',B (Ct (BR F.s) F.names [] [.d (.arg (is.map .int))])=.ok (.ret (.d (.bool true))) σ'):
  WalkO (qv pw) loose (XL (qv pw) []) HK.says rr ⟨Str.ofString "law",am (ET pw 44),JH (ET pw 44),BR (ET pw 44),(ET pw 44).pos⟩ [] fun f vs=>call f vs:=by
 intro w s₀ s₁ mg mb G Y a o pm cd doc dV kV ho hd hc hdf hmg hg args vals as hpre hlay hrd hwl hlo
 have wd:(KP w).In s₁.heap:=kIn_of Y
 have ha:a=F.a:=by
  have:=(mg_of wd G.T.g (hF w.params)).symm.trans hmg
  injection this with this;injection this with this;exact this.symm
 subst ha
 obtain⟨b,ds,rfl,rfl,is,hl,hb⟩:=Ti (P:=w.params) hrd (pre_splitW hpre).1
 obtain⟨σ',e⟩:=law is (by rw[hl];exact gC (pre_splitW hpre).2)
 refine wpAny_call (codeAny_mono (O1 K hB (rs:=[]) (cs:=[]) (g:=s₁.heap) (φ:=fun z0=>0) (A:=callerA) (bs:=[.d (.arg (is.map .int))]) (by decide) (by decide) rfl ⟨[],rfl,fun e he=>(nomatch he)⟩ wd ⟨mg,mb,topRead_of G.T⟩
  ⟨fun z0 z0 e=>e,fun i hi=>absurd hi (Nat.not_lt_zero _),fun i j hi=>absurd hi (Nat.not_lt_zero _),fun i c e=>(by simp at e),fun p hp=>(nomatch hp),fun p hp=>(nomatch hp),List.nodup_nil⟩ (.one hb) hN.symm (by rw[e];exact fun z=>nomatch z)) fun r s' h=>?_)
 obtain⟨h1,tk,k,hG,h⟩:=h
 rw[e] at h
 rcases r with er|(_|_|_|v)
 ·obtain⟨_,z,_⟩:=h;cases z
 ·exact h.elim
 ·exact h.elim
 ·exact h.elim
 ·obtain⟨f,rfl,b',τ,z,g',φ',S',X',v',sm'⟩:=h
  cases z
  have hv:Vk f=.bool true:=by
   cases f<;>first|exact v'.elim|(cases v';rfl)
  rw[hv]
  have keep:∀b o,s₁.heap.get? b=some o→s'.heap.get? b=some o:=fun b o q=>X'.kept b o (k b o q) (fun i hi=>absurd hi (Nat.not_lt_zero _)) fun z=>by
   rcases hG b z with z|z
   ·cases z
   ·rw[q] at z;cases z
  exact⟨.inl ⟨_,.bool true,[],rfl,fun z0=>rfl,.bool true,(by show(WShape.has [] (.bool true) .bool&&(WTm.eq .res (.lit (.bool true))).holds [] {args:=[.list ds],res:=some (.bool true),after:=[.list ds]})=true;kernel_rfl),fun z0=>⟨List.nodup_nil,fun a ha=>(nomatch ha)⟩⟩,.of_keep keep,sm'.os,.of_eq (sm'.gens.trans hg)⟩
end Mine.Internal
theorem PySem.Challenge.cw_nt0367_01_holds : PySem.Challenge.rw_nt0367_01.Holds :=
  Mine.Internal.head (Mine.Internal.walk_of Mine.Internal.K_law (fun G a b => (Mine.Internal.B_law.h G a b).h) (fun P => by kernel_rfl) rfl Mine.Internal.law_plain)
