import PyProof.Rows.All
import Wide.All
import OpenK.AllK
import Wide.FinOn
import Lean
import PySem.Challenge.RW_xm0979_01
open PySem PySem.W PyProof.Rows PySem.Calls PySem.Spec
set_option Elab.async false
set_option maxRecDepth 100000
set_option linter.unusedVariables false
set_option maxHeartbeats 8000000
namespace Mine
-- the head: the text's top, run by the kernel in one go for each way of the one row that it asks
noncomputable abbrev pw : Program := PySem.Challenge.pw_xm0979_01
noncomputable def view : Program := { pw with main := { pw.main with body := (pw.main.body.drop 1).take 19 ++ pw.main.body.drop 21 } }
noncomputable def frag (P : Params) : Frag :=
  (3, (Obj.mk (Value.type "dict") none (Data.dict #[(DictEntry.mk (PyData.keyHash P "__name__") (.str "__name__" 165) (.str "law_xm0979_01" 813)), (DictEntry.mk (PyData.keyHash P "__doc__") (.str "__doc__" 166) Value.none), (DictEntry.mk (PyData.keyHash P "__package__") (.str "__package__" 167) Value.none), (DictEntry.mk (PyData.keyHash P "__loader__") (.str "__loader__" 168) (Value.builtin "__main__.__loader__#opaque")), (DictEntry.mk (PyData.keyHash P "__spec__") (.str "__spec__" 169) Value.none), (DictEntry.mk (PyData.keyHash P "__annotations__") (.str "__annotations__" 170) (.ref 6)), (DictEntry.mk (PyData.keyHash P "__builtins__") (.str "__builtins__" 171) (.ref 4)), (DictEntry.mk (PyData.keyHash P "__file__") (.str "__file__" 173) (.str "/claim/cut.py" 172)), (DictEntry.mk (PyData.keyHash P "__cached__") (.str "__cached__" 174) Value.none), (DictEntry.mk (PyData.keyHash P "MOST_NUMBER") (.str "MOST_NUMBER" 192) (.int 1000000000 191)), (DictEntry.mk (PyData.keyHash P "MOST_WORD") (.str "MOST_WORD" 194) (.int 32 193)), (DictEntry.mk (PyData.keyHash P "MOST_TEXT") (.str "MOST_TEXT" 196) (.int 120 195)), (DictEntry.mk (PyData.keyHash P "MOST_RULE") (.str "MOST_RULE" 198) (.int 300 197)), (DictEntry.mk (PyData.keyHash P "SMALL_SIGNS") (.str "SMALL_SIGNS" 200) (.str "abcdefghijklmnopqrstuvwxyz" 199)), (DictEntry.mk (PyData.keyHash P "NAME_SIGNS") (.str "NAME_SIGNS" 205) (.str "abcdefghijklmnopqrstuvwxyzABCDEFGHIJKLMNOPQRSTUVWXYZ0123456789-_" 204)), (DictEntry.mk (PyData.keyHash P "INDEX_BOUNDS") (.str "INDEX_BOUNDS" 226) (.ref 15)), (DictEntry.mk (PyData.keyHash P "SHAPES") (.str "SHAPES" 478) (.ref 154)), (DictEntry.mk (PyData.keyHash P "shapes_by_word") (.str "shapes_by_word" 488) (.ref 161)), (DictEntry.mk (PyData.keyHash P "SHAPE_ROWS") (.str "SHAPE_ROWS" 748) (.ref 163)), (DictEntry.mk (PyData.keyHash P "is_whole") (.str "is_whole" 755) (.ref 561)), (DictEntry.mk (PyData.keyHash P "is_name") (.str "is_name" 761) (.ref 566)), (DictEntry.mk (PyData.keyHash P "is_plain_text") (.str "is_plain_text" 767) (.ref 571)), (DictEntry.mk (PyData.keyHash P "fits_index") (.str "fits_index" 777) (.ref 578)), (DictEntry.mk (PyData.keyHash P "fits_shape") (.str "fits_shape" 787) (.ref 585)), (DictEntry.mk (PyData.keyHash P "is_ascending") (.str "is_ascending" 793) (.ref 590)), (DictEntry.mk (PyData.keyHash P "fits_kind") (.str "fits_kind" 799) (.ref 595)), (DictEntry.mk (PyData.keyHash P "part_order") (.str "part_order" 806) (.ref 602)), (DictEntry.mk (PyData.keyHash P "path_order") (.str "path_order" 812) (.ref 607)), (DictEntry.mk (PyData.keyHash P "_law_pool") (.str "_law_pool" 823) (.ref 614)), (DictEntry.mk (PyData.keyHash P "_law_take") (.str "_law_take" 832) (.ref 621)), (DictEntry.mk (PyData.keyHash P "_law_one") (.str "_law_one" 840) (.ref 628)), (DictEntry.mk (PyData.keyHash P "_law_is_name") (.str "_law_is_name" 849) (.ref 635)), (DictEntry.mk (PyData.keyHash P "_law_is_plain") (.str "_law_is_plain" 855) (.ref 640)), (DictEntry.mk (PyData.keyHash P "_law_fits") (.str "_law_fits" 866) (.ref 647)), (DictEntry.mk (PyData.keyHash P "_law_part") (.str "_law_part" 876) (.ref 654)), (DictEntry.mk (PyData.keyHash P "_law_texts_right") (.str "_law_texts_right" 885) (.ref 661)), (DictEntry.mk (PyData.keyHash P "_law_shape_right") (.str "_law_shape_right" 891) (.ref 666)), (DictEntry.mk (PyData.keyHash P "_law_thing") (.str "_law_thing" 903) (.ref 673)), (DictEntry.mk (PyData.keyHash P "_law_kind_right") (.str "_law_kind_right" 909) (.ref 678)), (DictEntry.mk (PyData.keyHash P "_law_part_key") (.str "_law_part_key" 916) (.ref 685)), (DictEntry.mk (PyData.keyHash P "_law_path") (.str "_law_path" 922) (.ref 690)), (DictEntry.mk (PyData.keyHash P "_law_orders_right") (.str "_law_orders_right" 928) (.ref 695)), (DictEntry.mk (PyData.keyHash P "_law_told_right") (.str "_law_told_right" 934) (.ref 700)), (DictEntry.mk (PyData.keyHash P "law") (.str "law" 945) (.ref 707))] 44) #[])) ::
  (15, (Obj.mk (Value.type "dict") none (Data.dict #[(DictEntry.mk (PyData.keyHash P "<vlan>") (.str "<vlan>" 206) (.ref 16)), (DictEntry.mk (PyData.keyHash P "<port>") (.str "<port>" 209) (.ref 17)), (DictEntry.mk (PyData.keyHash P "<row>") (.str "<row>" 212) (.ref 18)), (DictEntry.mk (PyData.keyHash P "<queue>") (.str "<queue>" 215) (.ref 19)), (DictEntry.mk (PyData.keyHash P "<mirror>") (.str "<mirror>" 218) (.ref 20))] 5) #[])) ::
  (16, (Obj.mk (Value.type "tuple") none (Data.seq #[(.int 1 207), (.int 4094 208)] 0) #[])) ::
  (17, (Obj.mk (Value.type "tuple") none (Data.seq #[(.int 1 210), (.int 512 211)] 0) #[])) ::
  (18, (Obj.mk (Value.type "tuple") none (Data.seq #[(.int 1 213), (.int 9999 214)] 0) #[])) ::
  (19, (Obj.mk (Value.type "tuple") none (Data.seq #[(.int 0 216), (.int 7 217)] 0) #[])) ::
  (20, (Obj.mk (Value.type "tuple") none (Data.seq #[(.int 1 219), (.int 8 220)] 0) #[])) ::
  (21, (Obj.mk (Value.type "tuple") none (Data.seq #[(.str "host" 227)] 0) #[])) ::
  (22, (Obj.mk (Value.type "tuple") none (Data.seq #[(.str "name" 228)] 0) #[])) ::
  (23, (Obj.mk (Value.type "tuple") none (Data.seq #[(.ref 21), (.ref 22)] 0) #[])) ::
  (24, (Obj.mk (Value.type "tuple") none (Data.seq #[(.str "bridge" 229), (.str "priority" 230)] 0) #[])) ::
  (25, (Obj.mk (Value.type "tuple") none (Data.seq #[(.str "number" 231), (.int 0 232), (.int 61440 233), (.int 4096 234)] 0) #[])) ::
  (26, (Obj.mk (Value.type "tuple") none (Data.seq #[(.ref 24), (.ref 25)] 0) #[])) ::
  (27, (Obj.mk (Value.type "tuple") none (Data.seq #[(.str "spanning" 235), (.str "mode" 236)] 0) #[])) ::
  (28, (Obj.mk (Value.type "tuple") none (Data.seq #[(.str "off" 238), (.str "old" 239), (.str "rapid" 240), (.str "mst" 241)] 0) #[])) ::
  (29, (Obj.mk (Value.type "tuple") none (Data.seq #[(.str "word" 237), (.ref 28)] 0) #[])) ::
  (30, (Obj.mk (Value.type "tuple") none (Data.seq #[(.ref 27), (.ref 29)] 0) #[])) ::
  (31, (Obj.mk (Value.type "tuple") none (Data.seq #[(.str "spanning" 242), (.str "hello" 243)] 0) #[])) ::
  (32, (Obj.mk (Value.type "tuple") none (Data.seq #[(.str "number" 244), (.int 1 245), (.int 10 246), (.int 1 247)] 0) #[])) ::
  (33, (Obj.mk (Value.type "tuple") none (Data.seq #[(.ref 31), (.ref 32)] 0) #[])) ::
  (34, (Obj.mk (Value.type "tuple") none (Data.seq #[(.str "spanning" 248), (.str "age" 249)] 0) #[])) ::
  (35, (Obj.mk (Value.type "tuple") none (Data.seq #[(.str "number" 250), (.int 6 251), (.int 40 252), (.int 1 253)] 0) #[])) ::
  (36, (Obj.mk (Value.type "tuple") none (Data.seq #[(.ref 34), (.ref 35)] 0) #[])) ::
  (37, (Obj.mk (Value.type "tuple") none (Data.seq #[(.str "spanning" 254), (.str "delay" 255)] 0) #[])) ::
  (38, (Obj.mk (Value.type "tuple") none (Data.seq #[(.str "number" 256), (.int 4 257), (.int 30 258), (.int 1 259)] 0) #[])) ::
  (39, (Obj.mk (Value.type "tuple") none (Data.seq #[(.ref 37), (.ref 38)] 0) #[])) ::
  (40, (Obj.mk (Value.type "tuple") none (Data.seq #[(.str "spanning" 260), (.str "hold" 261)] 0) #[])) ::
  (41, (Obj.mk (Value.type "tuple") none (Data.seq #[(.str "number" 262), (.int 1 263), (.int 10 264), (.int 1 265)] 0) #[])) ::
  (42, (Obj.mk (Value.type "tuple") none (Data.seq #[(.ref 40), (.ref 41)] 0) #[])) ::
  (43, (Obj.mk (Value.type "tuple") none (Data.seq #[(.str "region" 266), (.str "name" 267)] 0) #[])) ::
  (44, (Obj.mk (Value.type "tuple") none (Data.seq #[(.str "name" 268)] 0) #[])) ::
  (45, (Obj.mk (Value.type "tuple") none (Data.seq #[(.ref 43), (.ref 44)] 0) #[])) ::
  (46, (Obj.mk (Value.type "tuple") none (Data.seq #[(.str "region" 269), (.str "revision" 270)] 0) #[])) ::
  (47, (Obj.mk (Value.type "tuple") none (Data.seq #[(.str "number" 271), (.int 0 272), (.int 65535 273), (.int 1 274)] 0) #[])) ::
  (48, (Obj.mk (Value.type "tuple") none (Data.seq #[(.ref 46), (.ref 47)] 0) #[])) ::
  (49, (Obj.mk (Value.type "tuple") none (Data.seq #[(.str "map" 275), (.str "<vlan>" 276), (.str "instance" 277)] 0) #[])) ::
  (50, (Obj.mk (Value.type "tuple") none (Data.seq #[(.str "number" 278), (.int 0 279), (.int 64 280), (.int 1 281)] 0) #[])) ::
  (51, (Obj.mk (Value.type "tuple") none (Data.seq #[(.ref 49), (.ref 50)] 0) #[])) ::
  (52, (Obj.mk (Value.type "tuple") none (Data.seq #[(.str "table" 282), (.str "age" 283)] 0) #[])) ::
  (53, (Obj.mk (Value.type "tuple") none (Data.seq #[(.str "number" 284), (.int 10 285), (.int 1000000 286), (.int 1 287)] 0) #[])) ::
  (54, (Obj.mk (Value.type "tuple") none (Data.seq #[(.ref 52), (.ref 53)] 0) #[])) ::
  (55, (Obj.mk (Value.type "tuple") none (Data.seq #[(.str "table" 288), (.str "most" 289)] 0) #[])) ::
  (56, (Obj.mk (Value.type "tuple") none (Data.seq #[(.str "number" 290), (.int 1 291), (.int 65536 292), (.int 1 293)] 0) #[])) ::
  (57, (Obj.mk (Value.type "tuple") none (Data.seq #[(.ref 55), (.ref 56)] 0) #[])) ::
  (58, (Obj.mk (Value.type "tuple") none (Data.seq #[(.str "vlan" 294), (.str "<vlan>" 295), (.str "kind" 296)] 0) #[])) ::
  (59, (Obj.mk (Value.type "tuple") none (Data.seq #[(.str "plain" 298), (.str "primary" 299), (.str "isolated" 300), (.str "community" 301)] 0) #[])) ::
  (60, (Obj.mk (Value.type "tuple") none (Data.seq #[(.str "word" 297), (.ref 59)] 0) #[])) ::
  (61, (Obj.mk (Value.type "tuple") none (Data.seq #[(.ref 58), (.ref 60)] 0) #[])) ::
  (62, (Obj.mk (Value.type "tuple") none (Data.seq #[(.str "vlan" 302), (.str "<vlan>" 303), (.str "name" 304)] 0) #[])) ::
  (63, (Obj.mk (Value.type "tuple") none (Data.seq #[(.str "text" 305)] 0) #[])) ::
  (64, (Obj.mk (Value.type "tuple") none (Data.seq #[(.ref 62), (.ref 63)] 0) #[])) ::
  (65, (Obj.mk (Value.type "tuple") none (Data.seq #[(.str "vlan" 306), (.str "<vlan>" 307), (.str "fid" 308)] 0) #[])) ::
  (66, (Obj.mk (Value.type "tuple") none (Data.seq #[(.str "number" 309), (.int 1 310), (.int 4094 311), (.int 1 312)] 0) #[])) ::
  (67, (Obj.mk (Value.type "tuple") none (Data.seq #[(.ref 65), (.ref 66)] 0) #[])) ::
  (68, (Obj.mk (Value.type "tuple") none (Data.seq #[(.str "vlan" 313), (.str "<vlan>" 314), (.str "primary" 315)] 0) #[])) ::
  (69, (Obj.mk (Value.type "tuple") none (Data.seq #[(.str "number" 316), (.int 1 317), (.int 4094 318), (.int 1 319)] 0) #[])) ::
  (70, (Obj.mk (Value.type "tuple") none (Data.seq #[(.ref 68), (.ref 69)] 0) #[])) ::
  (71, (Obj.mk (Value.type "tuple") none (Data.seq #[(.str "port" 320), (.str "<port>" 321), (.str "up" 322)] 0) #[])) ::
  (72, (Obj.mk (Value.type "tuple") none (Data.seq #[(.str "truth" 323)] 0) #[])) ::
  (73, (Obj.mk (Value.type "tuple") none (Data.seq #[(.ref 71), (.ref 72)] 0) #[])) ::
  (74, (Obj.mk (Value.type "tuple") none (Data.seq #[(.str "port" 324), (.str "<port>" 325), (.str "speed" 326)] 0) #[])) ::
  (75, (Obj.mk (Value.type "tuple") none (Data.seq #[(.str "number" 327), (.int 10 328), (.int 400000 329), (.int 1 330)] 0) #[])) ::
  (76, (Obj.mk (Value.type "tuple") none (Data.seq #[(.ref 74), (.ref 75)] 0) #[])) ::
  (77, (Obj.mk (Value.type "tuple") none (Data.seq #[(.str "port" 331), (.str "<port>" 332), (.str "name" 333)] 0) #[])) ::
  (78, (Obj.mk (Value.type "tuple") none (Data.seq #[(.str "text" 334)] 0) #[])) ::
  (79, (Obj.mk (Value.type "tuple") none (Data.seq #[(.ref 77), (.ref 78)] 0) #[])) ::
  (80, (Obj.mk (Value.type "tuple") none (Data.seq #[(.str "port" 335), (.str "<port>" 336), (.str "native" 337)] 0) #[])) ::
  (81, (Obj.mk (Value.type "tuple") none (Data.seq #[(.str "number" 338), (.int 0 339), (.int 4094 340), (.int 1 341)] 0) #[])) ::
  (82, (Obj.mk (Value.type "tuple") none (Data.seq #[(.ref 80), (.ref 81)] 0) #[])) ::
  (83, (Obj.mk (Value.type "tuple") none (Data.seq #[(.str "port" 342), (.str "<port>" 343), (.str "tagged" 344)] 0) #[])) ::
  (84, (Obj.mk (Value.type "tuple") none (Data.seq #[(.str "numbers" 345), (.int 1 346), (.int 4094 347)] 0) #[])) ::
  (85, (Obj.mk (Value.type "tuple") none (Data.seq #[(.ref 83), (.ref 84)] 0) #[])) ::
  (86, (Obj.mk (Value.type "tuple") none (Data.seq #[(.str "port" 348), (.str "<port>" 349), (.str "untagged" 350)] 0) #[])) ::
  (87, (Obj.mk (Value.type "tuple") none (Data.seq #[(.str "numbers" 351), (.int 1 352), (.int 4094 353)] 0) #[])) ::
  (88, (Obj.mk (Value.type "tuple") none (Data.seq #[(.ref 86), (.ref 87)] 0) #[])) ::
  (89, (Obj.mk (Value.type "tuple") none (Data.seq #[(.str "port" 354), (.str "<port>" 355), (.str "admit" 356)] 0) #[])) ::
  (90, (Obj.mk (Value.type "tuple") none (Data.seq #[(.str "all" 358), (.str "tagged" 359), (.str "untagged" 360)] 0) #[])) ::
  (91, (Obj.mk (Value.type "tuple") none (Data.seq #[(.str "word" 357), (.ref 90)] 0) #[])) ::
  (92, (Obj.mk (Value.type "tuple") none (Data.seq #[(.ref 89), (.ref 91)] 0) #[])) ::
  (93, (Obj.mk (Value.type "tuple") none (Data.seq #[(.str "port" 361), (.str "<port>" 362), (.str "filter" 363)] 0) #[])) ::
  (94, (Obj.mk (Value.type "tuple") none (Data.seq #[(.str "truth" 364)] 0) #[])) ::
  (95, (Obj.mk (Value.type "tuple") none (Data.seq #[(.ref 93), (.ref 94)] 0) #[])) ::
  (96, (Obj.mk (Value.type "tuple") none (Data.seq #[(.str "port" 365), (.str "<port>" 366), (.str "cost" 367)] 0) #[])) ::
  (97, (Obj.mk (Value.type "tuple") none (Data.seq #[(.str "number" 368), (.int 1 369), (.int 200000000 370), (.int 1 371)] 0) #[])) ::
  (98, (Obj.mk (Value.type "tuple") none (Data.seq #[(.ref 96), (.ref 97)] 0) #[])) ::
  (99, (Obj.mk (Value.type "tuple") none (Data.seq #[(.str "port" 372), (.str "<port>" 373), (.str "priority" 374)] 0) #[])) ::
  (100, (Obj.mk (Value.type "tuple") none (Data.seq #[(.str "number" 375), (.int 0 376), (.int 240 377), (.int 16 378)] 0) #[])) ::
  (101, (Obj.mk (Value.type "tuple") none (Data.seq #[(.ref 99), (.ref 100)] 0) #[])) ::
  (102, (Obj.mk (Value.type "tuple") none (Data.seq #[(.str "port" 379), (.str "<port>" 380), (.str "edge" 381)] 0) #[])) ::
  (103, (Obj.mk (Value.type "tuple") none (Data.seq #[(.str "truth" 382)] 0) #[])) ::
  (104, (Obj.mk (Value.type "tuple") none (Data.seq #[(.ref 102), (.ref 103)] 0) #[])) ::
  (105, (Obj.mk (Value.type "tuple") none (Data.seq #[(.str "port" 383), (.str "<port>" 384), (.str "guard" 385)] 0) #[])) ::
  (106, (Obj.mk (Value.type "tuple") none (Data.seq #[(.str "none" 387), (.str "root" 388), (.str "bpdu" 389), (.str "loop" 390)] 0) #[])) ::
  (107, (Obj.mk (Value.type "tuple") none (Data.seq #[(.str "word" 386), (.ref 106)] 0) #[])) ::
  (108, (Obj.mk (Value.type "tuple") none (Data.seq #[(.ref 105), (.ref 107)] 0) #[])) ::
  (109, (Obj.mk (Value.type "tuple") none (Data.seq #[(.str "port" 391), (.str "<port>" 392), (.str "limit" 393)] 0) #[])) ::
  (110, (Obj.mk (Value.type "tuple") none (Data.seq #[(.str "number" 394), (.int 0 395), (.int 65536 396), (.int 1 397)] 0) #[])) ::
  (111, (Obj.mk (Value.type "tuple") none (Data.seq #[(.ref 109), (.ref 110)] 0) #[])) ::
  (112, (Obj.mk (Value.type "tuple") none (Data.seq #[(.str "port" 398), (.str "<port>" 399), (.str "storm" 400)] 0) #[])) ::
  (113, (Obj.mk (Value.type "tuple") none (Data.seq #[(.str "number" 401), (.int 0 402), (.int 1000000000 191), (.int 1 403)] 0) #[])) ::
  (114, (Obj.mk (Value.type "tuple") none (Data.seq #[(.ref 112), (.ref 113)] 0) #[])) ::
  (115, (Obj.mk (Value.type "tuple") none (Data.seq #[(.str "port" 404), (.str "<port>" 405), (.str "bundle" 406)] 0) #[])) ::
  (116, (Obj.mk (Value.type "tuple") none (Data.seq #[(.str "number" 407), (.int 0 408), (.int 128 409), (.int 1 410)] 0) #[])) ::
  (117, (Obj.mk (Value.type "tuple") none (Data.seq #[(.ref 115), (.ref 116)] 0) #[])) ::
  (118, (Obj.mk (Value.type "tuple") none (Data.seq #[(.str "port" 411), (.str "<port>" 412), (.str "list" 413)] 0) #[])) ::
  (119, (Obj.mk (Value.type "tuple") none (Data.seq #[(.str "name" 414)] 0) #[])) ::
  (120, (Obj.mk (Value.type "tuple") none (Data.seq #[(.ref 118), (.ref 119)] 0) #[])) ::
  (121, (Obj.mk (Value.type "tuple") none (Data.seq #[(.str "port" 415), (.str "<port>" 416), (.str "tunnel" 417)] 0) #[])) ::
  (122, (Obj.mk (Value.type "tuple") none (Data.seq #[(.str "number" 418), (.int 0 419), (.int 4094 420), (.int 1 421)] 0) #[])) ::
  (123, (Obj.mk (Value.type "tuple") none (Data.seq #[(.ref 121), (.ref 122)] 0) #[])) ::
  (124, (Obj.mk (Value.type "tuple") none (Data.seq #[(.str "port" 422), (.str "<port>" 423), (.str "host" 424)] 0) #[])) ::
  (125, (Obj.mk (Value.type "tuple") none (Data.seq #[(.str "number" 425), (.int 1 426), (.int 4094 427), (.int 1 428)] 0) #[])) ::
  (126, (Obj.mk (Value.type "tuple") none (Data.seq #[(.ref 124), (.ref 125)] 0) #[])) ::
  (127, (Obj.mk (Value.type "tuple") none (Data.seq #[(.str "port" 429), (.str "<port>" 430), (.str "promiscuous" 431)] 0) #[])) ::
  (128, (Obj.mk (Value.type "tuple") none (Data.seq #[(.str "number" 432), (.int 1 433), (.int 4094 434), (.int 1 435)] 0) #[])) ::
  (129, (Obj.mk (Value.type "tuple") none (Data.seq #[(.ref 127), (.ref 128)] 0) #[])) ::
  (130, (Obj.mk (Value.type "tuple") none (Data.seq #[(.str "list" 436), (.str "<name>" 437), (.str "<row>" 438)] 0) #[])) ::
  (131, (Obj.mk (Value.type "tuple") none (Data.seq #[(.str "text" 439), (.int 300 197)] 0) #[])) ::
  (132, (Obj.mk (Value.type "tuple") none (Data.seq #[(.ref 130), (.ref 131)] 0) #[])) ::
  (133, (Obj.mk (Value.type "tuple") none (Data.seq #[(.str "mirror" 440), (.str "<mirror>" 441), (.str "goal" 442)] 0) #[])) ::
  (134, (Obj.mk (Value.type "tuple") none (Data.seq #[(.str "number" 443), (.int 1 444), (.int 512 445), (.int 1 446)] 0) #[])) ::
  (135, (Obj.mk (Value.type "tuple") none (Data.seq #[(.ref 133), (.ref 134)] 0) #[])) ::
  (136, (Obj.mk (Value.type "tuple") none (Data.seq #[(.str "mirror" 447), (.str "<mirror>" 448), (.str "received" 449)] 0) #[])) ::
  (137, (Obj.mk (Value.type "tuple") none (Data.seq #[(.str "numbers" 450), (.int 1 451), (.int 512 452)] 0) #[])) ::
  (138, (Obj.mk (Value.type "tuple") none (Data.seq #[(.ref 136), (.ref 137)] 0) #[])) ::
  (139, (Obj.mk (Value.type "tuple") none (Data.seq #[(.str "mirror" 453), (.str "<mirror>" 454), (.str "sent" 455)] 0) #[])) ::
  (140, (Obj.mk (Value.type "tuple") none (Data.seq #[(.str "numbers" 456), (.int 1 457), (.int 512 458)] 0) #[])) ::
  (141, (Obj.mk (Value.type "tuple") none (Data.seq #[(.ref 139), (.ref 140)] 0) #[])) ::
  (142, (Obj.mk (Value.type "tuple") none (Data.seq #[(.str "queue" 459), (.str "<queue>" 460), (.str "weight" 461)] 0) #[])) ::
  (143, (Obj.mk (Value.type "tuple") none (Data.seq #[(.str "number" 462), (.int 0 463), (.int 255 464), (.int 1 465)] 0) #[])) ::
  (144, (Obj.mk (Value.type "tuple") none (Data.seq #[(.ref 142), (.ref 143)] 0) #[])) ::
  (145, (Obj.mk (Value.type "tuple") none (Data.seq #[(.str "lldp" 466), (.str "on" 467)] 0) #[])) ::
  (146, (Obj.mk (Value.type "tuple") none (Data.seq #[(.str "truth" 468)] 0) #[])) ::
  (147, (Obj.mk (Value.type "tuple") none (Data.seq #[(.ref 145), (.ref 146)] 0) #[])) ::
  (148, (Obj.mk (Value.type "tuple") none (Data.seq #[(.str "lldp" 469), (.str "hold" 470)] 0) #[])) ::
  (149, (Obj.mk (Value.type "tuple") none (Data.seq #[(.str "number" 471), (.int 2 472), (.int 10 473), (.int 1 474)] 0) #[])) ::
  (150, (Obj.mk (Value.type "tuple") none (Data.seq #[(.ref 148), (.ref 149)] 0) #[])) ::
  (151, (Obj.mk (Value.type "tuple") none (Data.seq #[(.str "snooping" 475), (.str "on" 476)] 0) #[])) ::
  (152, (Obj.mk (Value.type "tuple") none (Data.seq #[(.str "truth" 477)] 0) #[])) ::
  (153, (Obj.mk (Value.type "tuple") none (Data.seq #[(.ref 151), (.ref 152)] 0) #[])) ::
  (154, (Obj.mk (Value.type "tuple") none (Data.seq #[(.ref 23), (.ref 26), (.ref 30), (.ref 33), (.ref 36), (.ref 39), (.ref 42), (.ref 45), (.ref 48), (.ref 51), (.ref 54), (.ref 57), (.ref 61), (.ref 64), (.ref 67), (.ref 70), (.ref 73), (.ref 76), (.ref 79), (.ref 82), (.ref 85), (.ref 88), (.ref 92), (.ref 95), (.ref 98), (.ref 101), (.ref 104), (.ref 108), (.ref 111), (.ref 114), (.ref 117), (.ref 120), (.ref 123), (.ref 126), (.ref 129), (.ref 132), (.ref 135), (.ref 138), (.ref 141), (.ref 144), (.ref 147), (.ref 150), (.ref 153)] 0) #[])) ::
  (163, (Obj.mk (Value.type "dict") none (Data.dict #[(DictEntry.mk (PyData.keyHash P "host") (.str "host" 227) (.ref 173)), (DictEntry.mk (PyData.keyHash P "bridge") (.str "bridge" 229) (.ref 182)), (DictEntry.mk (PyData.keyHash P "spanning") (.str "spanning" 235) (.ref 191)), (DictEntry.mk (PyData.keyHash P "region") (.str "region" 266) (.ref 236)), (DictEntry.mk (PyData.keyHash P "map") (.str "map" 275) (.ref 254)), (DictEntry.mk (PyData.keyHash P "table") (.str "table" 282) (.ref 263)), (DictEntry.mk (PyData.keyHash P "vlan") (.str "vlan" 294) (.ref 281)), (DictEntry.mk (PyData.keyHash P "port") (.str "port" 320) (.ref 317)), (DictEntry.mk (PyData.keyHash P "list") (.str "list" 436) (.ref 488)), (DictEntry.mk (PyData.keyHash P "mirror") (.str "mirror" 440) (.ref 497)), (DictEntry.mk (PyData.keyHash P "queue") (.str "queue" 459) (.ref 524)), (DictEntry.mk (PyData.keyHash P "lldp") (.str "lldp" 466) (.ref 533)), (DictEntry.mk (PyData.keyHash P "snooping") (.str "snooping" 475) (.ref 551))] 13) #[])) ::
  (173, (Obj.mk (Value.type "list") none (Data.seq #[(.ref 174)] 1) #[])) ::
  (174, (Obj.mk (Value.type "tuple") none (Data.seq #[(.int 0 490), (.ref 21), (.ref 22)] 0) #[])) ::
  (182, (Obj.mk (Value.type "list") none (Data.seq #[(.ref 183)] 1) #[])) ::
  (183, (Obj.mk (Value.type "tuple") none (Data.seq #[(.int 1 496), (.ref 24), (.ref 25)] 0) #[])) ::
  (191, (Obj.mk (Value.type "list") none (Data.seq #[(.ref 192), (.ref 201), (.ref 210), (.ref 219), (.ref 228)] 5) #[])) ::
  (192, (Obj.mk (Value.type "tuple") none (Data.seq #[(.int 2 502), (.ref 27), (.ref 29)] 0) #[])) ::
  (201, (Obj.mk (Value.type "tuple") none (Data.seq #[(.int 3 508), (.ref 31), (.ref 32)] 0) #[])) ::
  (210, (Obj.mk (Value.type "tuple") none (Data.seq #[(.int 4 514), (.ref 34), (.ref 35)] 0) #[])) ::
  (219, (Obj.mk (Value.type "tuple") none (Data.seq #[(.int 5 520), (.ref 37), (.ref 38)] 0) #[])) ::
  (228, (Obj.mk (Value.type "tuple") none (Data.seq #[(.int 6 526), (.ref 40), (.ref 41)] 0) #[])) ::
  (236, (Obj.mk (Value.type "list") none (Data.seq #[(.ref 237), (.ref 246)] 2) #[])) ::
  (237, (Obj.mk (Value.type "tuple") none (Data.seq #[(.int 7 532), (.ref 43), (.ref 44)] 0) #[])) ::
  (246, (Obj.mk (Value.type "tuple") none (Data.seq #[(.int 8 538), (.ref 46), (.ref 47)] 0) #[])) ::
  (254, (Obj.mk (Value.type "list") none (Data.seq #[(.ref 255)] 1) #[])) ::
  (255, (Obj.mk (Value.type "tuple") none (Data.seq #[(.int 9 544), (.ref 49), (.ref 50)] 0) #[])) ::
  (263, (Obj.mk (Value.type "list") none (Data.seq #[(.ref 264), (.ref 273)] 2) #[])) ::
  (264, (Obj.mk (Value.type "tuple") none (Data.seq #[(.int 10 550), (.ref 52), (.ref 53)] 0) #[])) ::
  (273, (Obj.mk (Value.type "tuple") none (Data.seq #[(.int 11 556), (.ref 55), (.ref 56)] 0) #[])) ::
  (281, (Obj.mk (Value.type "list") none (Data.seq #[(.ref 282), (.ref 291), (.ref 300), (.ref 309)] 4) #[])) ::
  (282, (Obj.mk (Value.type "tuple") none (Data.seq #[(.int 12 562), (.ref 58), (.ref 60)] 0) #[])) ::
  (291, (Obj.mk (Value.type "tuple") none (Data.seq #[(.int 13 568), (.ref 62), (.ref 63)] 0) #[])) ::
  (300, (Obj.mk (Value.type "tuple") none (Data.seq #[(.int 14 574), (.ref 65), (.ref 66)] 0) #[])) ::
  (309, (Obj.mk (Value.type "tuple") none (Data.seq #[(.int 15 580), (.ref 68), (.ref 69)] 0) #[])) ::
  (317, (Obj.mk (Value.type "list") none (Data.seq #[(.ref 318), (.ref 327), (.ref 336), (.ref 345), (.ref 354), (.ref 363), (.ref 372), (.ref 381), (.ref 390), (.ref 399), (.ref 408), (.ref 417), (.ref 426), (.ref 435), (.ref 444), (.ref 453), (.ref 462), (.ref 471), (.ref 480)] 19) #[])) ::
  (318, (Obj.mk (Value.type "tuple") none (Data.seq #[(.int 16 586), (.ref 71), (.ref 72)] 0) #[])) ::
  (327, (Obj.mk (Value.type "tuple") none (Data.seq #[(.int 17 592), (.ref 74), (.ref 75)] 0) #[])) ::
  (336, (Obj.mk (Value.type "tuple") none (Data.seq #[(.int 18 598), (.ref 77), (.ref 78)] 0) #[])) ::
  (345, (Obj.mk (Value.type "tuple") none (Data.seq #[(.int 19 604), (.ref 80), (.ref 81)] 0) #[])) ::
  (354, (Obj.mk (Value.type "tuple") none (Data.seq #[(.int 20 610), (.ref 83), (.ref 84)] 0) #[])) ::
  (363, (Obj.mk (Value.type "tuple") none (Data.seq #[(.int 21 616), (.ref 86), (.ref 87)] 0) #[])) ::
  (372, (Obj.mk (Value.type "tuple") none (Data.seq #[(.int 22 622), (.ref 89), (.ref 91)] 0) #[])) ::
  (381, (Obj.mk (Value.type "tuple") none (Data.seq #[(.int 23 628), (.ref 93), (.ref 94)] 0) #[])) ::
  (390, (Obj.mk (Value.type "tuple") none (Data.seq #[(.int 24 634), (.ref 96), (.ref 97)] 0) #[])) ::
  (399, (Obj.mk (Value.type "tuple") none (Data.seq #[(.int 25 640), (.ref 99), (.ref 100)] 0) #[])) ::
  (408, (Obj.mk (Value.type "tuple") none (Data.seq #[(.int 26 646), (.ref 102), (.ref 103)] 0) #[])) ::
  (417, (Obj.mk (Value.type "tuple") none (Data.seq #[(.int 27 652), (.ref 105), (.ref 107)] 0) #[])) ::
  (426, (Obj.mk (Value.type "tuple") none (Data.seq #[(.int 28 658), (.ref 109), (.ref 110)] 0) #[])) ::
  (435, (Obj.mk (Value.type "tuple") none (Data.seq #[(.int 29 664), (.ref 112), (.ref 113)] 0) #[])) ::
  (444, (Obj.mk (Value.type "tuple") none (Data.seq #[(.int 30 670), (.ref 115), (.ref 116)] 0) #[])) ::
  (453, (Obj.mk (Value.type "tuple") none (Data.seq #[(.int 31 676), (.ref 118), (.ref 119)] 0) #[])) ::
  (462, (Obj.mk (Value.type "tuple") none (Data.seq #[(.int 32 682), (.ref 121), (.ref 122)] 0) #[])) ::
  (471, (Obj.mk (Value.type "tuple") none (Data.seq #[(.int 33 688), (.ref 124), (.ref 125)] 0) #[])) ::
  (480, (Obj.mk (Value.type "tuple") none (Data.seq #[(.int 34 694), (.ref 127), (.ref 128)] 0) #[])) ::
  (488, (Obj.mk (Value.type "list") none (Data.seq #[(.ref 489)] 1) #[])) ::
  (489, (Obj.mk (Value.type "tuple") none (Data.seq #[(.int 35 700), (.ref 130), (.ref 131)] 0) #[])) ::
  (497, (Obj.mk (Value.type "list") none (Data.seq #[(.ref 498), (.ref 507), (.ref 516)] 3) #[])) ::
  (498, (Obj.mk (Value.type "tuple") none (Data.seq #[(.int 36 706), (.ref 133), (.ref 134)] 0) #[])) ::
  (507, (Obj.mk (Value.type "tuple") none (Data.seq #[(.int 37 712), (.ref 136), (.ref 137)] 0) #[])) ::
  (516, (Obj.mk (Value.type "tuple") none (Data.seq #[(.int 38 718), (.ref 139), (.ref 140)] 0) #[])) ::
  (524, (Obj.mk (Value.type "list") none (Data.seq #[(.ref 525)] 1) #[])) ::
  (525, (Obj.mk (Value.type "tuple") none (Data.seq #[(.int 39 724), (.ref 142), (.ref 143)] 0) #[])) ::
  (533, (Obj.mk (Value.type "list") none (Data.seq #[(.ref 534), (.ref 543)] 2) #[])) ::
  (534, (Obj.mk (Value.type "tuple") none (Data.seq #[(.int 40 730), (.ref 145), (.ref 146)] 0) #[])) ::
  (543, (Obj.mk (Value.type "tuple") none (Data.seq #[(.int 41 736), (.ref 148), (.ref 149)] 0) #[])) ::
  (551, (Obj.mk (Value.type "list") none (Data.seq #[(.ref 552)] 1) #[])) ::
  (552, (Obj.mk (Value.type "tuple") none (Data.seq #[(.int 42 742), (.ref 151), (.ref 152)] 0) #[])) :: []

noncomputable def fragAt : List Addr := [3, 15, 16, 17, 18, 19, 20, 21, 22, 23, 24, 25, 26, 27, 28, 29, 30, 31, 32, 33, 34, 35, 36, 37, 38, 39, 40, 41, 42, 43, 44, 45, 46, 47, 48, 49, 50, 51, 52, 53, 54, 55, 56, 57, 58, 59, 60, 61, 62, 63, 64, 65, 66, 67, 68, 69, 70, 71, 72, 73, 74, 75, 76, 77, 78, 79, 80, 81, 82, 83, 84, 85, 86, 87, 88, 89, 90, 91, 92, 93, 94, 95, 96, 97, 98, 99, 100, 101, 102, 103, 104, 105, 106, 107, 108, 109, 110, 111, 112, 113, 114, 115, 116, 117, 118, 119, 120, 121, 122, 123, 124, 125, 126, 127, 128, 129, 130, 131, 132, 133, 134, 135, 136, 137, 138, 139, 140, 141, 142, 143, 144, 145, 146, 147, 148, 149, 150, 151, 152, 153, 154, 163, 173, 174, 182, 183, 191, 192, 201, 210, 219, 228, 236, 237, 246, 254, 255, 263, 264, 273, 281, 282, 291, 300, 309, 317, 318, 327, 336, 345, 354, 363, 372, 381, 390, 399, 408, 417, 426, 435, 444, 453, 462, 471, 480, 488, 489, 497, 498, 507, 516, 524, 525, 533, 534, 543, 551, 552]
noncomputable def hook : Hook := kHook frag fragAt (fun _ => by kernel_rfl)
noncomputable def loose : List Str := ["MOST_NUMBER", "NAME_SIGNS", "INDEX_BOUNDS", "SHAPES", "SHAPE_ROWS"]
noncomputable def topXt (s : Shared) : Bool := xlAt view [] s && recOk (RowW.records (OpenRow.toRowW (OpenLaw.row PySem.Challenge.rw_xm0979_01))) s
noncomputable def topEnv : Env := { scope := pw.main.scope, locals := mainNs, globals := mainNs, cells := [], code := .ref 13, frame := some 14 }
noncomputable def topTree (P : Params) : BT :=
  let o11 : Obj := (Obj.mk (Value.type "tuple") none (Data.seq #[] 0) #[])
  let o12 : Obj := (Obj.mk Value.none none (Data.fields #[]) #[])
  let o13 : Obj := (Obj.mk (Value.type "code") none (Data.fields #[(.str "<module>" 182), (.str "<module>" 183), (.str "/claim/cut.py" 184), (.int 1 0), (.int 0 0), (.int 0 0), (.int 0 0), (.int 0 0), (.ref 11), (Value.bool Bool.false), (.int 181 0), (.ref 12), Value.none, Value.none, Value.none, Value.none, (.int 185 0), (.int 1 0), (.str "/claim/cut.py" 186)]) #[])
  let o14 : Obj := (Obj.mk (Value.type "frame") none Data.plain #[(some (.ref 13)), (some (.ref 3)), (some (.ref 3)), none, (some (.str "__main__" 164)), none, (some (.ref 0))])
  BT.node (boot_o_0 P)
    (BT.node (boot_o_1 P)
      (BT.node (boot_o_3 P) (BT.node (boot_o_7 P) BT.nil BT.nil) (BT.node o11 BT.nil BT.nil))
      (BT.node (boot_o_5 P) (BT.node (boot_o_9 P) BT.nil BT.nil) (BT.node o13 BT.nil BT.nil)))
    (BT.node (boot_o_2 P)
      (BT.node (boot_o_4 P) (BT.node (boot_o_8 P) BT.nil BT.nil) (BT.node o12 BT.nil BT.nil))
      (BT.node (boot_o_6 P) (BT.node (boot_o_10 P) BT.nil BT.nil) (BT.node o14 BT.nil BT.nil)))
noncomputable def topAt (w : World) (os : OsState) : SharedT := ⟨topTree w.params, 15, (Life.mk [] [] [] 0 [] [] Bool.false #[] [] 0 Bool.false Bool.false Bool.false 0 [2000, 10, 10] Bool.false 0 Bool.true [] [] 0 Bool.false), #[], Drawn.mk 0 0 0 0, 187, os⟩

noncomputable abbrev bb : List Stmt := behindTheImports pw
noncomputable abbrev cc : Code := .body (behindTheImports pw) topEnv
noncomputable def topF : Arguments × List Stmt × Scope := match bb.getD 9 (.Pass default) with
  | .FunctionDef _ args body _ _ _ sc _ _ _ => (args, body, sc)
  | _ => (default, [], default)
noncomputable def BT.kons (x : Obj) : BT → BT
  | .nil => .node x .nil .nil
  | .node y l r => .node x (BT.kons y r) l
noncomputable def BT.ofL (l : List Obj) : BT := l.foldr BT.kons .nil
noncomputable def ck0 (P : Params) : List Obj := [
  (boot_o_0 P),
  (boot_o_1 P),
  (boot_o_2 P),
  (Obj.mk (Value.type "dict") none (Data.dict #[(DictEntry.mk (PyData.keyHash P "__name__") (.str "__name__" 165) (.str "switchloom.settings" 187)), (DictEntry.mk (PyData.keyHash P "__doc__") (.str "__doc__" 166) Value.none), (DictEntry.mk (PyData.keyHash P "__package__") (.str "__package__" 167) Value.none), (DictEntry.mk (PyData.keyHash P "__loader__") (.str "__loader__" 168) (Value.builtin "__main__.__loader__#opaque")), (DictEntry.mk (PyData.keyHash P "__spec__") (.str "__spec__" 169) Value.none), (DictEntry.mk (PyData.keyHash P "__annotations__") (.str "__annotations__" 170) (.ref 6)), (DictEntry.mk (PyData.keyHash P "__builtins__") (.str "__builtins__" 171) (.ref 4)), (DictEntry.mk (PyData.keyHash P "__file__") (.str "__file__" 173) (.str "/claim/cut.py" 172)), (DictEntry.mk (PyData.keyHash P "__cached__") (.str "__cached__" 174) Value.none), (DictEntry.mk (PyData.keyHash P "MOST_NUMBER") (.str "MOST_NUMBER" 192) (.int 1000000000 191)), (DictEntry.mk (PyData.keyHash P "MOST_WORD") (.str "MOST_WORD" 194) (.int 32 193)), (DictEntry.mk (PyData.keyHash P "MOST_TEXT") (.str "MOST_TEXT" 196) (.int 120 195)), (DictEntry.mk (PyData.keyHash P "MOST_RULE") (.str "MOST_RULE" 198) (.int 300 197)), (DictEntry.mk (PyData.keyHash P "SMALL_SIGNS") (.str "SMALL_SIGNS" 200) (.str "abcdefghijklmnopqrstuvwxyz" 199)), (DictEntry.mk (PyData.keyHash P "NAME_SIGNS") (.str "NAME_SIGNS" 205) (.str "abcdefghijklmnopqrstuvwxyzABCDEFGHIJKLMNOPQRSTUVWXYZ0123456789-_" 204)), (DictEntry.mk (PyData.keyHash P "INDEX_BOUNDS") (.str "INDEX_BOUNDS" 226) (.ref 15)), (DictEntry.mk (PyData.keyHash P "SHAPES") (.str "SHAPES" 478) (.ref 154)), (DictEntry.mk (PyData.keyHash P "shapes_by_word") (.str "shapes_by_word" 488) (.ref 161))] 18) #[]),
  (boot_o_4 P),
  (boot_o_5 P),
  (boot_o_6 P),
  (boot_o_7 P),
  (boot_o_8 P),
  (boot_o_9 P),
  (boot_o_10 P),
  (Obj.mk (Value.type "tuple") none (Data.seq #[] 0) #[]),
  (Obj.mk Value.none none (Data.fields #[(.int 10 0), (.int 0 0), (.ref 160)]) #[]),
  (Obj.mk (Value.type "code") none (Data.fields #[(.str "<module>" 182), (.str "<module>" 183), (.str "/claim/cut.py" 184), (.int 1 0), (.int 0 0), (.int 0 0), (.int 0 0), (.int 0 0), (.ref 11), (Value.bool Bool.false), (.int 181 0), (.ref 12), Value.none, Value.none, Value.none, Value.none, (.int 185 0), (.int 1 0), (.str "/claim/cut.py" 186)]) #[]),
  (Obj.mk (Value.type "frame") none Data.plain #[(some (.ref 13)), (some (.ref 3)), (some (.ref 3)), none, (some (.str "__main__" 164)), none, (some (.ref 0))])] ++ (((frag P).drop 1).take 140).map (·.2) ++ [
  (Obj.mk (Value.type "tuple") none (Data.seq #[] 0) #[]),
  (Obj.mk Value.none none (Data.fields #[]) #[]),
  (Obj.mk (Value.type "tuple") none (Data.seq #[(.str "found" 482), (.str "place" 483), (.str "pattern" 484), (.str "kind" 485)] 0) #[]),
  (Obj.mk (Value.type "tuple") none (Data.seq #[] 0) #[]),
  (Obj.mk Value.none none (Data.func (FuncData.mk "shapes_by_word" "shapes_by_word" topF.1 (FuncBody.stmts topF.2.1) topF.2.2 0 [] Value.none Value.none Value.none Value.none none Value.none Value.none 0)) #[]),
  (Obj.mk (Value.type "code") none (Data.fields #[(.str "shapes_by_word" 479), (.str "shapes_by_word" 480), (.str "/claim/cut.py" 481), (.int 10 0), (.int 0 0), (.int 0 0), (.int 0 0), (.int 3 0), (.ref 155), (Value.bool Bool.true), (.int 181 0), (.ref 156), Value.none, (.ref 157), (.ref 158), (.ref 159), (.int 486 0), (.int 10 0), (.str "/claim/cut.py" 487)]) #[]),
  (Obj.mk (Value.type "function") none (Data.func (FuncData.mk "shapes_by_word" "shapes_by_word" topF.1 (FuncBody.stmts topF.2.1) topF.2.2 3 [] Value.none Value.none Value.none (.str "switchloom.settings" 187) none (.ref 160) Value.none 0)) #[])]
noncomputable def LA (P : Params) : List Obj := ck0 P
noncomputable def StA (w : World) (os : OsState) : SharedT := ⟨BT.ofL (LA w.params), 162, (Life.mk [] [] [] 0 [] [] Bool.false #[] [] 0 Bool.false Bool.false Bool.false 0 [2000, 10, 10] Bool.false 0 Bool.true [] [] 0 Bool.false), #[], Drawn.mk 0 0 0 0, 489, os⟩
noncomputable def ck8 (P : Params) : List Obj := [
  (Obj.mk (Value.type "tuple") none (Data.seq #[(.int 0 490), (.ref 23)] 0) #[]),
  (Obj.mk (Value.type "tuple_iterator") none (Data.fields #[Value.none, (.int 2 0)]) #[]),
  (Obj.mk (Value.type "tuple") none (Data.seq #[] 0) #[]),
  (Obj.mk (Value.type "StopIteration") none (Data.fields #[(.ref 168), Value.none, Value.none, Value.none, (Value.bool Bool.false), Value.none]) #[]),
  (Obj.mk (Value.type "tuple_iterator") none (Data.fields #[Value.none, (.int 2 0)]) #[]),
  (Obj.mk (Value.type "tuple") none (Data.seq #[] 0) #[]),
  (Obj.mk (Value.type "StopIteration") none (Data.fields #[(.ref 171), Value.none, Value.none, Value.none, (Value.bool Bool.false), Value.none]) #[]),
  (Obj.mk (Value.type "list") none (Data.seq #[(.ref 174)] 1) #[]),
  (Obj.mk (Value.type "tuple") none (Data.seq #[(.int 0 490), (.ref 21), (.ref 22)] 0) #[]),
  (Obj.mk (Value.type "tuple") none (Data.seq #[(.int 1 496), (.ref 26)] 0) #[]),
  (Obj.mk (Value.type "tuple_iterator") none (Data.fields #[Value.none, (.int 2 0)]) #[]),
  (Obj.mk (Value.type "tuple") none (Data.seq #[] 0) #[]),
  (Obj.mk (Value.type "StopIteration") none (Data.fields #[(.ref 177), Value.none, Value.none, Value.none, (Value.bool Bool.false), Value.none]) #[]),
  (Obj.mk (Value.type "tuple_iterator") none (Data.fields #[Value.none, (.int 2 0)]) #[]),
  (Obj.mk (Value.type "tuple") none (Data.seq #[] 0) #[]),
  (Obj.mk (Value.type "StopIteration") none (Data.fields #[(.ref 180), Value.none, Value.none, Value.none, (Value.bool Bool.false), Value.none]) #[]),
  (Obj.mk (Value.type "list") none (Data.seq #[(.ref 183)] 1) #[]),
  (Obj.mk (Value.type "tuple") none (Data.seq #[(.int 1 496), (.ref 24), (.ref 25)] 0) #[]),
  (Obj.mk (Value.type "tuple") none (Data.seq #[(.int 2 502), (.ref 30)] 0) #[]),
  (Obj.mk (Value.type "tuple_iterator") none (Data.fields #[Value.none, (.int 2 0)]) #[]),
  (Obj.mk (Value.type "tuple") none (Data.seq #[] 0) #[]),
  (Obj.mk (Value.type "StopIteration") none (Data.fields #[(.ref 186), Value.none, Value.none, Value.none, (Value.bool Bool.false), Value.none]) #[]),
  (Obj.mk (Value.type "tuple_iterator") none (Data.fields #[Value.none, (.int 2 0)]) #[]),
  (Obj.mk (Value.type "tuple") none (Data.seq #[] 0) #[]),
  (Obj.mk (Value.type "StopIteration") none (Data.fields #[(.ref 189), Value.none, Value.none, Value.none, (Value.bool Bool.false), Value.none]) #[]),
  (Obj.mk (Value.type "list") none (Data.seq #[(.ref 192), (.ref 201), (.ref 210), (.ref 219), (.ref 228)] 5) #[]),
  (Obj.mk (Value.type "tuple") none (Data.seq #[(.int 2 502), (.ref 27), (.ref 29)] 0) #[]),
  (Obj.mk (Value.type "tuple") none (Data.seq #[(.int 3 508), (.ref 33)] 0) #[]),
  (Obj.mk (Value.type "tuple_iterator") none (Data.fields #[Value.none, (.int 2 0)]) #[]),
  (Obj.mk (Value.type "tuple") none (Data.seq #[] 0) #[]),
  (Obj.mk (Value.type "StopIteration") none (Data.fields #[(.ref 195), Value.none, Value.none, Value.none, (Value.bool Bool.false), Value.none]) #[]),
  (Obj.mk (Value.type "tuple_iterator") none (Data.fields #[Value.none, (.int 2 0)]) #[]),
  (Obj.mk (Value.type "tuple") none (Data.seq #[] 0) #[]),
  (Obj.mk (Value.type "StopIteration") none (Data.fields #[(.ref 198), Value.none, Value.none, Value.none, (Value.bool Bool.false), Value.none]) #[]),
  (Obj.mk (Value.type "list") none (Data.seq #[] 0) #[]),
  (Obj.mk (Value.type "tuple") none (Data.seq #[(.int 3 508), (.ref 31), (.ref 32)] 0) #[]),
  (Obj.mk (Value.type "tuple") none (Data.seq #[(.int 4 514), (.ref 36)] 0) #[]),
  (Obj.mk (Value.type "tuple_iterator") none (Data.fields #[Value.none, (.int 2 0)]) #[]),
  (Obj.mk (Value.type "tuple") none (Data.seq #[] 0) #[]),
  (Obj.mk (Value.type "StopIteration") none (Data.fields #[(.ref 204), Value.none, Value.none, Value.none, (Value.bool Bool.false), Value.none]) #[]),
  (Obj.mk (Value.type "tuple_iterator") none (Data.fields #[Value.none, (.int 2 0)]) #[]),
  (Obj.mk (Value.type "tuple") none (Data.seq #[] 0) #[]),
  (Obj.mk (Value.type "StopIteration") none (Data.fields #[(.ref 207), Value.none, Value.none, Value.none, (Value.bool Bool.false), Value.none]) #[]),
  (Obj.mk (Value.type "list") none (Data.seq #[] 0) #[]),
  (Obj.mk (Value.type "tuple") none (Data.seq #[(.int 4 514), (.ref 34), (.ref 35)] 0) #[]),
  (Obj.mk (Value.type "tuple") none (Data.seq #[(.int 5 520), (.ref 39)] 0) #[]),
  (Obj.mk (Value.type "tuple_iterator") none (Data.fields #[Value.none, (.int 2 0)]) #[]),
  (Obj.mk (Value.type "tuple") none (Data.seq #[] 0) #[]),
  (Obj.mk (Value.type "StopIteration") none (Data.fields #[(.ref 213), Value.none, Value.none, Value.none, (Value.bool Bool.false), Value.none]) #[]),
  (Obj.mk (Value.type "tuple_iterator") none (Data.fields #[Value.none, (.int 2 0)]) #[]),
  (Obj.mk (Value.type "tuple") none (Data.seq #[] 0) #[]),
  (Obj.mk (Value.type "StopIteration") none (Data.fields #[(.ref 216), Value.none, Value.none, Value.none, (Value.bool Bool.false), Value.none]) #[]),
  (Obj.mk (Value.type "list") none (Data.seq #[] 0) #[]),
  (Obj.mk (Value.type "tuple") none (Data.seq #[(.int 5 520), (.ref 37), (.ref 38)] 0) #[]),
  (Obj.mk (Value.type "tuple") none (Data.seq #[(.int 6 526), (.ref 42)] 0) #[]),
  (Obj.mk (Value.type "tuple_iterator") none (Data.fields #[Value.none, (.int 2 0)]) #[]),
  (Obj.mk (Value.type "tuple") none (Data.seq #[] 0) #[]),
  (Obj.mk (Value.type "StopIteration") none (Data.fields #[(.ref 222), Value.none, Value.none, Value.none, (Value.bool Bool.false), Value.none]) #[]),
  (Obj.mk (Value.type "tuple_iterator") none (Data.fields #[Value.none, (.int 2 0)]) #[]),
  (Obj.mk (Value.type "tuple") none (Data.seq #[] 0) #[]),
  (Obj.mk (Value.type "StopIteration") none (Data.fields #[(.ref 225), Value.none, Value.none, Value.none, (Value.bool Bool.false), Value.none]) #[]),
  (Obj.mk (Value.type "list") none (Data.seq #[] 0) #[]),
  (Obj.mk (Value.type "tuple") none (Data.seq #[(.int 6 526), (.ref 40), (.ref 41)] 0) #[]),
  (Obj.mk (Value.type "tuple") none (Data.seq #[(.int 7 532), (.ref 45)] 0) #[]),
  (Obj.mk (Value.type "tuple_iterator") none (Data.fields #[Value.none, (.int 2 0)]) #[]),
  (Obj.mk (Value.type "tuple") none (Data.seq #[] 0) #[]),
  (Obj.mk (Value.type "StopIteration") none (Data.fields #[(.ref 231), Value.none, Value.none, Value.none, (Value.bool Bool.false), Value.none]) #[]),
  (Obj.mk (Value.type "tuple_iterator") none (Data.fields #[Value.none, (.int 2 0)]) #[]),
  (Obj.mk (Value.type "tuple") none (Data.seq #[] 0) #[]),
  (Obj.mk (Value.type "StopIteration") none (Data.fields #[(.ref 234), Value.none, Value.none, Value.none, (Value.bool Bool.false), Value.none]) #[]),
  (Obj.mk (Value.type "list") none (Data.seq #[(.ref 237)] 1) #[]),
  (Obj.mk (Value.type "tuple") none (Data.seq #[(.int 7 532), (.ref 43), (.ref 44)] 0) #[])]
noncomputable def L8 (P : Params) : List Obj := ck0 P ++ [
  (Obj.mk (Value.type "frame") none (Data.dict #[(DictEntry.mk (PyData.keyHash P "found") (.str "found" 489) (.ref 163)), (DictEntry.mk (PyData.keyHash P "place") (.str "place" 491) (.int 7 532)), (DictEntry.mk (PyData.keyHash P "pattern") (.str "pattern" 492) (.ref 43)), (DictEntry.mk (PyData.keyHash P "kind") (.str "kind" 493) (.ref 44))] 4) #[]),
  (Obj.mk (Value.type "dict") none (Data.dict #[(DictEntry.mk (PyData.keyHash P "host") (.str "host" 227) (.ref 173)), (DictEntry.mk (PyData.keyHash P "bridge") (.str "bridge" 229) (.ref 182)), (DictEntry.mk (PyData.keyHash P "spanning") (.str "spanning" 235) (.ref 191)), (DictEntry.mk (PyData.keyHash P "region") (.str "region" 266) (.ref 236))] 4) #[]),
  (Obj.mk (Value.type "tuple_iterator") none (Data.fields #[(.ref 154), (.int 8 0)]) #[]),
  (Obj.mk (Value.type "enumerate") none (Data.fields #[Value.none, (Value.bool Bool.false), (.ref 164), (.int 8 0), Value.none, (.ref 45)]) #[])] ++ ck8 P
noncomputable def St8 (w : World) (os : OsState) : SharedT := ⟨BT.ofL (L8 w.params), 238, (Life.mk [] [] [] 0 [] [] Bool.false #[] [] 0 Bool.false Bool.false Bool.false 0 [2000, 10, 10] Bool.false 0 Bool.true [] [] 0 Bool.false), #[], Drawn.mk 0 0 0 0, 538, os⟩
noncomputable def ck16 (P : Params) : List Obj := [
  (Obj.mk (Value.type "tuple") none (Data.seq #[(.int 8 538), (.ref 48)] 0) #[]),
  (Obj.mk (Value.type "tuple_iterator") none (Data.fields #[Value.none, (.int 2 0)]) #[]),
  (Obj.mk (Value.type "tuple") none (Data.seq #[] 0) #[]),
  (Obj.mk (Value.type "StopIteration") none (Data.fields #[(.ref 240), Value.none, Value.none, Value.none, (Value.bool Bool.false), Value.none]) #[]),
  (Obj.mk (Value.type "tuple_iterator") none (Data.fields #[Value.none, (.int 2 0)]) #[]),
  (Obj.mk (Value.type "tuple") none (Data.seq #[] 0) #[]),
  (Obj.mk (Value.type "StopIteration") none (Data.fields #[(.ref 243), Value.none, Value.none, Value.none, (Value.bool Bool.false), Value.none]) #[]),
  (Obj.mk (Value.type "list") none (Data.seq #[] 0) #[]),
  (Obj.mk (Value.type "tuple") none (Data.seq #[(.int 8 538), (.ref 46), (.ref 47)] 0) #[]),
  (Obj.mk (Value.type "tuple") none (Data.seq #[(.int 9 544), (.ref 51)] 0) #[]),
  (Obj.mk (Value.type "tuple_iterator") none (Data.fields #[Value.none, (.int 2 0)]) #[]),
  (Obj.mk (Value.type "tuple") none (Data.seq #[] 0) #[]),
  (Obj.mk (Value.type "StopIteration") none (Data.fields #[(.ref 249), Value.none, Value.none, Value.none, (Value.bool Bool.false), Value.none]) #[]),
  (Obj.mk (Value.type "tuple_iterator") none (Data.fields #[Value.none, (.int 2 0)]) #[]),
  (Obj.mk (Value.type "tuple") none (Data.seq #[] 0) #[]),
  (Obj.mk (Value.type "StopIteration") none (Data.fields #[(.ref 252), Value.none, Value.none, Value.none, (Value.bool Bool.false), Value.none]) #[]),
  (Obj.mk (Value.type "list") none (Data.seq #[(.ref 255)] 1) #[]),
  (Obj.mk (Value.type "tuple") none (Data.seq #[(.int 9 544), (.ref 49), (.ref 50)] 0) #[]),
  (Obj.mk (Value.type "tuple") none (Data.seq #[(.int 10 550), (.ref 54)] 0) #[]),
  (Obj.mk (Value.type "tuple_iterator") none (Data.fields #[Value.none, (.int 2 0)]) #[]),
  (Obj.mk (Value.type "tuple") none (Data.seq #[] 0) #[]),
  (Obj.mk (Value.type "StopIteration") none (Data.fields #[(.ref 258), Value.none, Value.none, Value.none, (Value.bool Bool.false), Value.none]) #[]),
  (Obj.mk (Value.type "tuple_iterator") none (Data.fields #[Value.none, (.int 2 0)]) #[]),
  (Obj.mk (Value.type "tuple") none (Data.seq #[] 0) #[]),
  (Obj.mk (Value.type "StopIteration") none (Data.fields #[(.ref 261), Value.none, Value.none, Value.none, (Value.bool Bool.false), Value.none]) #[]),
  (Obj.mk (Value.type "list") none (Data.seq #[(.ref 264), (.ref 273)] 2) #[]),
  (Obj.mk (Value.type "tuple") none (Data.seq #[(.int 10 550), (.ref 52), (.ref 53)] 0) #[]),
  (Obj.mk (Value.type "tuple") none (Data.seq #[(.int 11 556), (.ref 57)] 0) #[]),
  (Obj.mk (Value.type "tuple_iterator") none (Data.fields #[Value.none, (.int 2 0)]) #[]),
  (Obj.mk (Value.type "tuple") none (Data.seq #[] 0) #[]),
  (Obj.mk (Value.type "StopIteration") none (Data.fields #[(.ref 267), Value.none, Value.none, Value.none, (Value.bool Bool.false), Value.none]) #[]),
  (Obj.mk (Value.type "tuple_iterator") none (Data.fields #[Value.none, (.int 2 0)]) #[]),
  (Obj.mk (Value.type "tuple") none (Data.seq #[] 0) #[]),
  (Obj.mk (Value.type "StopIteration") none (Data.fields #[(.ref 270), Value.none, Value.none, Value.none, (Value.bool Bool.false), Value.none]) #[]),
  (Obj.mk (Value.type "list") none (Data.seq #[] 0) #[]),
  (Obj.mk (Value.type "tuple") none (Data.seq #[(.int 11 556), (.ref 55), (.ref 56)] 0) #[]),
  (Obj.mk (Value.type "tuple") none (Data.seq #[(.int 12 562), (.ref 61)] 0) #[]),
  (Obj.mk (Value.type "tuple_iterator") none (Data.fields #[Value.none, (.int 2 0)]) #[]),
  (Obj.mk (Value.type "tuple") none (Data.seq #[] 0) #[]),
  (Obj.mk (Value.type "StopIteration") none (Data.fields #[(.ref 276), Value.none, Value.none, Value.none, (Value.bool Bool.false), Value.none]) #[]),
  (Obj.mk (Value.type "tuple_iterator") none (Data.fields #[Value.none, (.int 2 0)]) #[]),
  (Obj.mk (Value.type "tuple") none (Data.seq #[] 0) #[]),
  (Obj.mk (Value.type "StopIteration") none (Data.fields #[(.ref 279), Value.none, Value.none, Value.none, (Value.bool Bool.false), Value.none]) #[]),
  (Obj.mk (Value.type "list") none (Data.seq #[(.ref 282), (.ref 291), (.ref 300), (.ref 309)] 4) #[]),
  (Obj.mk (Value.type "tuple") none (Data.seq #[(.int 12 562), (.ref 58), (.ref 60)] 0) #[]),
  (Obj.mk (Value.type "tuple") none (Data.seq #[(.int 13 568), (.ref 64)] 0) #[]),
  (Obj.mk (Value.type "tuple_iterator") none (Data.fields #[Value.none, (.int 2 0)]) #[]),
  (Obj.mk (Value.type "tuple") none (Data.seq #[] 0) #[]),
  (Obj.mk (Value.type "StopIteration") none (Data.fields #[(.ref 285), Value.none, Value.none, Value.none, (Value.bool Bool.false), Value.none]) #[]),
  (Obj.mk (Value.type "tuple_iterator") none (Data.fields #[Value.none, (.int 2 0)]) #[]),
  (Obj.mk (Value.type "tuple") none (Data.seq #[] 0) #[]),
  (Obj.mk (Value.type "StopIteration") none (Data.fields #[(.ref 288), Value.none, Value.none, Value.none, (Value.bool Bool.false), Value.none]) #[]),
  (Obj.mk (Value.type "list") none (Data.seq #[] 0) #[]),
  (Obj.mk (Value.type "tuple") none (Data.seq #[(.int 13 568), (.ref 62), (.ref 63)] 0) #[]),
  (Obj.mk (Value.type "tuple") none (Data.seq #[(.int 14 574), (.ref 67)] 0) #[]),
  (Obj.mk (Value.type "tuple_iterator") none (Data.fields #[Value.none, (.int 2 0)]) #[]),
  (Obj.mk (Value.type "tuple") none (Data.seq #[] 0) #[]),
  (Obj.mk (Value.type "StopIteration") none (Data.fields #[(.ref 294), Value.none, Value.none, Value.none, (Value.bool Bool.false), Value.none]) #[]),
  (Obj.mk (Value.type "tuple_iterator") none (Data.fields #[Value.none, (.int 2 0)]) #[]),
  (Obj.mk (Value.type "tuple") none (Data.seq #[] 0) #[]),
  (Obj.mk (Value.type "StopIteration") none (Data.fields #[(.ref 297), Value.none, Value.none, Value.none, (Value.bool Bool.false), Value.none]) #[]),
  (Obj.mk (Value.type "list") none (Data.seq #[] 0) #[]),
  (Obj.mk (Value.type "tuple") none (Data.seq #[(.int 14 574), (.ref 65), (.ref 66)] 0) #[]),
  (Obj.mk (Value.type "tuple") none (Data.seq #[(.int 15 580), (.ref 70)] 0) #[]),
  (Obj.mk (Value.type "tuple_iterator") none (Data.fields #[Value.none, (.int 2 0)]) #[]),
  (Obj.mk (Value.type "tuple") none (Data.seq #[] 0) #[]),
  (Obj.mk (Value.type "StopIteration") none (Data.fields #[(.ref 303), Value.none, Value.none, Value.none, (Value.bool Bool.false), Value.none]) #[]),
  (Obj.mk (Value.type "tuple_iterator") none (Data.fields #[Value.none, (.int 2 0)]) #[]),
  (Obj.mk (Value.type "tuple") none (Data.seq #[] 0) #[]),
  (Obj.mk (Value.type "StopIteration") none (Data.fields #[(.ref 306), Value.none, Value.none, Value.none, (Value.bool Bool.false), Value.none]) #[]),
  (Obj.mk (Value.type "list") none (Data.seq #[] 0) #[]),
  (Obj.mk (Value.type "tuple") none (Data.seq #[(.int 15 580), (.ref 68), (.ref 69)] 0) #[])]
noncomputable def L16 (P : Params) : List Obj := ck0 P ++ [
  (Obj.mk (Value.type "frame") none (Data.dict #[(DictEntry.mk (PyData.keyHash P "found") (.str "found" 489) (.ref 163)), (DictEntry.mk (PyData.keyHash P "place") (.str "place" 491) (.int 15 580)), (DictEntry.mk (PyData.keyHash P "pattern") (.str "pattern" 492) (.ref 68)), (DictEntry.mk (PyData.keyHash P "kind") (.str "kind" 493) (.ref 69))] 4) #[]),
  (Obj.mk (Value.type "dict") none (Data.dict #[(DictEntry.mk (PyData.keyHash P "host") (.str "host" 227) (.ref 173)), (DictEntry.mk (PyData.keyHash P "bridge") (.str "bridge" 229) (.ref 182)), (DictEntry.mk (PyData.keyHash P "spanning") (.str "spanning" 235) (.ref 191)), (DictEntry.mk (PyData.keyHash P "region") (.str "region" 266) (.ref 236)), (DictEntry.mk (PyData.keyHash P "map") (.str "map" 275) (.ref 254)), (DictEntry.mk (PyData.keyHash P "table") (.str "table" 282) (.ref 263)), (DictEntry.mk (PyData.keyHash P "vlan") (.str "vlan" 294) (.ref 281))] 7) #[]),
  (Obj.mk (Value.type "tuple_iterator") none (Data.fields #[(.ref 154), (.int 16 0)]) #[]),
  (Obj.mk (Value.type "enumerate") none (Data.fields #[Value.none, (Value.bool Bool.false), (.ref 164), (.int 16 0), Value.none, (.ref 70)]) #[])] ++ ((ck8 P).set 70 (Obj.mk (Value.type "list") none (Data.seq #[(.ref 237), (.ref 246)] 2) #[])) ++ ck16 P
noncomputable def St16 (w : World) (os : OsState) : SharedT := ⟨BT.ofL (L16 w.params), 310, (Life.mk [] [] [] 0 [] [] Bool.false #[] [] 0 Bool.false Bool.false Bool.false 0 [2000, 10, 10] Bool.false 0 Bool.true [] [] 0 Bool.false), #[], Drawn.mk 0 0 0 0, 586, os⟩
noncomputable def ck24 (P : Params) : List Obj := [
  (Obj.mk (Value.type "tuple") none (Data.seq #[(.int 16 586), (.ref 73)] 0) #[]),
  (Obj.mk (Value.type "tuple_iterator") none (Data.fields #[Value.none, (.int 2 0)]) #[]),
  (Obj.mk (Value.type "tuple") none (Data.seq #[] 0) #[]),
  (Obj.mk (Value.type "StopIteration") none (Data.fields #[(.ref 312), Value.none, Value.none, Value.none, (Value.bool Bool.false), Value.none]) #[]),
  (Obj.mk (Value.type "tuple_iterator") none (Data.fields #[Value.none, (.int 2 0)]) #[]),
  (Obj.mk (Value.type "tuple") none (Data.seq #[] 0) #[]),
  (Obj.mk (Value.type "StopIteration") none (Data.fields #[(.ref 315), Value.none, Value.none, Value.none, (Value.bool Bool.false), Value.none]) #[]),
  (Obj.mk (Value.type "list") none (Data.seq #[(.ref 318), (.ref 327), (.ref 336), (.ref 345), (.ref 354), (.ref 363), (.ref 372), (.ref 381)] 8) #[]),
  (Obj.mk (Value.type "tuple") none (Data.seq #[(.int 16 586), (.ref 71), (.ref 72)] 0) #[]),
  (Obj.mk (Value.type "tuple") none (Data.seq #[(.int 17 592), (.ref 76)] 0) #[]),
  (Obj.mk (Value.type "tuple_iterator") none (Data.fields #[Value.none, (.int 2 0)]) #[]),
  (Obj.mk (Value.type "tuple") none (Data.seq #[] 0) #[]),
  (Obj.mk (Value.type "StopIteration") none (Data.fields #[(.ref 321), Value.none, Value.none, Value.none, (Value.bool Bool.false), Value.none]) #[]),
  (Obj.mk (Value.type "tuple_iterator") none (Data.fields #[Value.none, (.int 2 0)]) #[]),
  (Obj.mk (Value.type "tuple") none (Data.seq #[] 0) #[]),
  (Obj.mk (Value.type "StopIteration") none (Data.fields #[(.ref 324), Value.none, Value.none, Value.none, (Value.bool Bool.false), Value.none]) #[]),
  (Obj.mk (Value.type "list") none (Data.seq #[] 0) #[]),
  (Obj.mk (Value.type "tuple") none (Data.seq #[(.int 17 592), (.ref 74), (.ref 75)] 0) #[]),
  (Obj.mk (Value.type "tuple") none (Data.seq #[(.int 18 598), (.ref 79)] 0) #[]),
  (Obj.mk (Value.type "tuple_iterator") none (Data.fields #[Value.none, (.int 2 0)]) #[]),
  (Obj.mk (Value.type "tuple") none (Data.seq #[] 0) #[]),
  (Obj.mk (Value.type "StopIteration") none (Data.fields #[(.ref 330), Value.none, Value.none, Value.none, (Value.bool Bool.false), Value.none]) #[]),
  (Obj.mk (Value.type "tuple_iterator") none (Data.fields #[Value.none, (.int 2 0)]) #[]),
  (Obj.mk (Value.type "tuple") none (Data.seq #[] 0) #[]),
  (Obj.mk (Value.type "StopIteration") none (Data.fields #[(.ref 333), Value.none, Value.none, Value.none, (Value.bool Bool.false), Value.none]) #[]),
  (Obj.mk (Value.type "list") none (Data.seq #[] 0) #[]),
  (Obj.mk (Value.type "tuple") none (Data.seq #[(.int 18 598), (.ref 77), (.ref 78)] 0) #[]),
  (Obj.mk (Value.type "tuple") none (Data.seq #[(.int 19 604), (.ref 82)] 0) #[]),
  (Obj.mk (Value.type "tuple_iterator") none (Data.fields #[Value.none, (.int 2 0)]) #[]),
  (Obj.mk (Value.type "tuple") none (Data.seq #[] 0) #[]),
  (Obj.mk (Value.type "StopIteration") none (Data.fields #[(.ref 339), Value.none, Value.none, Value.none, (Value.bool Bool.false), Value.none]) #[]),
  (Obj.mk (Value.type "tuple_iterator") none (Data.fields #[Value.none, (.int 2 0)]) #[]),
  (Obj.mk (Value.type "tuple") none (Data.seq #[] 0) #[]),
  (Obj.mk (Value.type "StopIteration") none (Data.fields #[(.ref 342), Value.none, Value.none, Value.none, (Value.bool Bool.false), Value.none]) #[]),
  (Obj.mk (Value.type "list") none (Data.seq #[] 0) #[]),
  (Obj.mk (Value.type "tuple") none (Data.seq #[(.int 19 604), (.ref 80), (.ref 81)] 0) #[]),
  (Obj.mk (Value.type "tuple") none (Data.seq #[(.int 20 610), (.ref 85)] 0) #[]),
  (Obj.mk (Value.type "tuple_iterator") none (Data.fields #[Value.none, (.int 2 0)]) #[]),
  (Obj.mk (Value.type "tuple") none (Data.seq #[] 0) #[]),
  (Obj.mk (Value.type "StopIteration") none (Data.fields #[(.ref 348), Value.none, Value.none, Value.none, (Value.bool Bool.false), Value.none]) #[]),
  (Obj.mk (Value.type "tuple_iterator") none (Data.fields #[Value.none, (.int 2 0)]) #[]),
  (Obj.mk (Value.type "tuple") none (Data.seq #[] 0) #[]),
  (Obj.mk (Value.type "StopIteration") none (Data.fields #[(.ref 351), Value.none, Value.none, Value.none, (Value.bool Bool.false), Value.none]) #[]),
  (Obj.mk (Value.type "list") none (Data.seq #[] 0) #[]),
  (Obj.mk (Value.type "tuple") none (Data.seq #[(.int 20 610), (.ref 83), (.ref 84)] 0) #[]),
  (Obj.mk (Value.type "tuple") none (Data.seq #[(.int 21 616), (.ref 88)] 0) #[]),
  (Obj.mk (Value.type "tuple_iterator") none (Data.fields #[Value.none, (.int 2 0)]) #[]),
  (Obj.mk (Value.type "tuple") none (Data.seq #[] 0) #[]),
  (Obj.mk (Value.type "StopIteration") none (Data.fields #[(.ref 357), Value.none, Value.none, Value.none, (Value.bool Bool.false), Value.none]) #[]),
  (Obj.mk (Value.type "tuple_iterator") none (Data.fields #[Value.none, (.int 2 0)]) #[]),
  (Obj.mk (Value.type "tuple") none (Data.seq #[] 0) #[]),
  (Obj.mk (Value.type "StopIteration") none (Data.fields #[(.ref 360), Value.none, Value.none, Value.none, (Value.bool Bool.false), Value.none]) #[]),
  (Obj.mk (Value.type "list") none (Data.seq #[] 0) #[]),
  (Obj.mk (Value.type "tuple") none (Data.seq #[(.int 21 616), (.ref 86), (.ref 87)] 0) #[]),
  (Obj.mk (Value.type "tuple") none (Data.seq #[(.int 22 622), (.ref 92)] 0) #[]),
  (Obj.mk (Value.type "tuple_iterator") none (Data.fields #[Value.none, (.int 2 0)]) #[]),
  (Obj.mk (Value.type "tuple") none (Data.seq #[] 0) #[]),
  (Obj.mk (Value.type "StopIteration") none (Data.fields #[(.ref 366), Value.none, Value.none, Value.none, (Value.bool Bool.false), Value.none]) #[]),
  (Obj.mk (Value.type "tuple_iterator") none (Data.fields #[Value.none, (.int 2 0)]) #[]),
  (Obj.mk (Value.type "tuple") none (Data.seq #[] 0) #[]),
  (Obj.mk (Value.type "StopIteration") none (Data.fields #[(.ref 369), Value.none, Value.none, Value.none, (Value.bool Bool.false), Value.none]) #[]),
  (Obj.mk (Value.type "list") none (Data.seq #[] 0) #[]),
  (Obj.mk (Value.type "tuple") none (Data.seq #[(.int 22 622), (.ref 89), (.ref 91)] 0) #[]),
  (Obj.mk (Value.type "tuple") none (Data.seq #[(.int 23 628), (.ref 95)] 0) #[]),
  (Obj.mk (Value.type "tuple_iterator") none (Data.fields #[Value.none, (.int 2 0)]) #[]),
  (Obj.mk (Value.type "tuple") none (Data.seq #[] 0) #[]),
  (Obj.mk (Value.type "StopIteration") none (Data.fields #[(.ref 375), Value.none, Value.none, Value.none, (Value.bool Bool.false), Value.none]) #[]),
  (Obj.mk (Value.type "tuple_iterator") none (Data.fields #[Value.none, (.int 2 0)]) #[]),
  (Obj.mk (Value.type "tuple") none (Data.seq #[] 0) #[]),
  (Obj.mk (Value.type "StopIteration") none (Data.fields #[(.ref 378), Value.none, Value.none, Value.none, (Value.bool Bool.false), Value.none]) #[]),
  (Obj.mk (Value.type "list") none (Data.seq #[] 0) #[]),
  (Obj.mk (Value.type "tuple") none (Data.seq #[(.int 23 628), (.ref 93), (.ref 94)] 0) #[])]
noncomputable def L24 (P : Params) : List Obj := ck0 P ++ [
  (Obj.mk (Value.type "frame") none (Data.dict #[(DictEntry.mk (PyData.keyHash P "found") (.str "found" 489) (.ref 163)), (DictEntry.mk (PyData.keyHash P "place") (.str "place" 491) (.int 23 628)), (DictEntry.mk (PyData.keyHash P "pattern") (.str "pattern" 492) (.ref 93)), (DictEntry.mk (PyData.keyHash P "kind") (.str "kind" 493) (.ref 94))] 4) #[]),
  (Obj.mk (Value.type "dict") none (Data.dict #[(DictEntry.mk (PyData.keyHash P "host") (.str "host" 227) (.ref 173)), (DictEntry.mk (PyData.keyHash P "bridge") (.str "bridge" 229) (.ref 182)), (DictEntry.mk (PyData.keyHash P "spanning") (.str "spanning" 235) (.ref 191)), (DictEntry.mk (PyData.keyHash P "region") (.str "region" 266) (.ref 236)), (DictEntry.mk (PyData.keyHash P "map") (.str "map" 275) (.ref 254)), (DictEntry.mk (PyData.keyHash P "table") (.str "table" 282) (.ref 263)), (DictEntry.mk (PyData.keyHash P "vlan") (.str "vlan" 294) (.ref 281)), (DictEntry.mk (PyData.keyHash P "port") (.str "port" 320) (.ref 317))] 8) #[]),
  (Obj.mk (Value.type "tuple_iterator") none (Data.fields #[(.ref 154), (.int 24 0)]) #[]),
  (Obj.mk (Value.type "enumerate") none (Data.fields #[Value.none, (Value.bool Bool.false), (.ref 164), (.int 24 0), Value.none, (.ref 95)]) #[])] ++ ((ck8 P).set 70 (Obj.mk (Value.type "list") none (Data.seq #[(.ref 237), (.ref 246)] 2) #[])) ++ ck16 P ++ ck24 P
noncomputable def St24 (w : World) (os : OsState) : SharedT := ⟨BT.ofL (L24 w.params), 382, (Life.mk [] [] [] 0 [] [] Bool.false #[] [] 0 Bool.false Bool.false Bool.false 0 [2000, 10, 10] Bool.false 0 Bool.true [] [] 0 Bool.false), #[], Drawn.mk 0 0 0 0, 634, os⟩
noncomputable def ck32 (P : Params) : List Obj := [
  (Obj.mk (Value.type "tuple") none (Data.seq #[(.int 24 634), (.ref 98)] 0) #[]),
  (Obj.mk (Value.type "tuple_iterator") none (Data.fields #[Value.none, (.int 2 0)]) #[]),
  (Obj.mk (Value.type "tuple") none (Data.seq #[] 0) #[]),
  (Obj.mk (Value.type "StopIteration") none (Data.fields #[(.ref 384), Value.none, Value.none, Value.none, (Value.bool Bool.false), Value.none]) #[]),
  (Obj.mk (Value.type "tuple_iterator") none (Data.fields #[Value.none, (.int 2 0)]) #[]),
  (Obj.mk (Value.type "tuple") none (Data.seq #[] 0) #[]),
  (Obj.mk (Value.type "StopIteration") none (Data.fields #[(.ref 387), Value.none, Value.none, Value.none, (Value.bool Bool.false), Value.none]) #[]),
  (Obj.mk (Value.type "list") none (Data.seq #[] 0) #[]),
  (Obj.mk (Value.type "tuple") none (Data.seq #[(.int 24 634), (.ref 96), (.ref 97)] 0) #[]),
  (Obj.mk (Value.type "tuple") none (Data.seq #[(.int 25 640), (.ref 101)] 0) #[]),
  (Obj.mk (Value.type "tuple_iterator") none (Data.fields #[Value.none, (.int 2 0)]) #[]),
  (Obj.mk (Value.type "tuple") none (Data.seq #[] 0) #[]),
  (Obj.mk (Value.type "StopIteration") none (Data.fields #[(.ref 393), Value.none, Value.none, Value.none, (Value.bool Bool.false), Value.none]) #[]),
  (Obj.mk (Value.type "tuple_iterator") none (Data.fields #[Value.none, (.int 2 0)]) #[]),
  (Obj.mk (Value.type "tuple") none (Data.seq #[] 0) #[]),
  (Obj.mk (Value.type "StopIteration") none (Data.fields #[(.ref 396), Value.none, Value.none, Value.none, (Value.bool Bool.false), Value.none]) #[]),
  (Obj.mk (Value.type "list") none (Data.seq #[] 0) #[]),
  (Obj.mk (Value.type "tuple") none (Data.seq #[(.int 25 640), (.ref 99), (.ref 100)] 0) #[]),
  (Obj.mk (Value.type "tuple") none (Data.seq #[(.int 26 646), (.ref 104)] 0) #[]),
  (Obj.mk (Value.type "tuple_iterator") none (Data.fields #[Value.none, (.int 2 0)]) #[]),
  (Obj.mk (Value.type "tuple") none (Data.seq #[] 0) #[]),
  (Obj.mk (Value.type "StopIteration") none (Data.fields #[(.ref 402), Value.none, Value.none, Value.none, (Value.bool Bool.false), Value.none]) #[]),
  (Obj.mk (Value.type "tuple_iterator") none (Data.fields #[Value.none, (.int 2 0)]) #[]),
  (Obj.mk (Value.type "tuple") none (Data.seq #[] 0) #[]),
  (Obj.mk (Value.type "StopIteration") none (Data.fields #[(.ref 405), Value.none, Value.none, Value.none, (Value.bool Bool.false), Value.none]) #[]),
  (Obj.mk (Value.type "list") none (Data.seq #[] 0) #[]),
  (Obj.mk (Value.type "tuple") none (Data.seq #[(.int 26 646), (.ref 102), (.ref 103)] 0) #[]),
  (Obj.mk (Value.type "tuple") none (Data.seq #[(.int 27 652), (.ref 108)] 0) #[]),
  (Obj.mk (Value.type "tuple_iterator") none (Data.fields #[Value.none, (.int 2 0)]) #[]),
  (Obj.mk (Value.type "tuple") none (Data.seq #[] 0) #[]),
  (Obj.mk (Value.type "StopIteration") none (Data.fields #[(.ref 411), Value.none, Value.none, Value.none, (Value.bool Bool.false), Value.none]) #[]),
  (Obj.mk (Value.type "tuple_iterator") none (Data.fields #[Value.none, (.int 2 0)]) #[]),
  (Obj.mk (Value.type "tuple") none (Data.seq #[] 0) #[]),
  (Obj.mk (Value.type "StopIteration") none (Data.fields #[(.ref 414), Value.none, Value.none, Value.none, (Value.bool Bool.false), Value.none]) #[]),
  (Obj.mk (Value.type "list") none (Data.seq #[] 0) #[]),
  (Obj.mk (Value.type "tuple") none (Data.seq #[(.int 27 652), (.ref 105), (.ref 107)] 0) #[]),
  (Obj.mk (Value.type "tuple") none (Data.seq #[(.int 28 658), (.ref 111)] 0) #[]),
  (Obj.mk (Value.type "tuple_iterator") none (Data.fields #[Value.none, (.int 2 0)]) #[]),
  (Obj.mk (Value.type "tuple") none (Data.seq #[] 0) #[]),
  (Obj.mk (Value.type "StopIteration") none (Data.fields #[(.ref 420), Value.none, Value.none, Value.none, (Value.bool Bool.false), Value.none]) #[]),
  (Obj.mk (Value.type "tuple_iterator") none (Data.fields #[Value.none, (.int 2 0)]) #[]),
  (Obj.mk (Value.type "tuple") none (Data.seq #[] 0) #[]),
  (Obj.mk (Value.type "StopIteration") none (Data.fields #[(.ref 423), Value.none, Value.none, Value.none, (Value.bool Bool.false), Value.none]) #[]),
  (Obj.mk (Value.type "list") none (Data.seq #[] 0) #[]),
  (Obj.mk (Value.type "tuple") none (Data.seq #[(.int 28 658), (.ref 109), (.ref 110)] 0) #[]),
  (Obj.mk (Value.type "tuple") none (Data.seq #[(.int 29 664), (.ref 114)] 0) #[]),
  (Obj.mk (Value.type "tuple_iterator") none (Data.fields #[Value.none, (.int 2 0)]) #[]),
  (Obj.mk (Value.type "tuple") none (Data.seq #[] 0) #[]),
  (Obj.mk (Value.type "StopIteration") none (Data.fields #[(.ref 429), Value.none, Value.none, Value.none, (Value.bool Bool.false), Value.none]) #[]),
  (Obj.mk (Value.type "tuple_iterator") none (Data.fields #[Value.none, (.int 2 0)]) #[]),
  (Obj.mk (Value.type "tuple") none (Data.seq #[] 0) #[]),
  (Obj.mk (Value.type "StopIteration") none (Data.fields #[(.ref 432), Value.none, Value.none, Value.none, (Value.bool Bool.false), Value.none]) #[]),
  (Obj.mk (Value.type "list") none (Data.seq #[] 0) #[]),
  (Obj.mk (Value.type "tuple") none (Data.seq #[(.int 29 664), (.ref 112), (.ref 113)] 0) #[]),
  (Obj.mk (Value.type "tuple") none (Data.seq #[(.int 30 670), (.ref 117)] 0) #[]),
  (Obj.mk (Value.type "tuple_iterator") none (Data.fields #[Value.none, (.int 2 0)]) #[]),
  (Obj.mk (Value.type "tuple") none (Data.seq #[] 0) #[]),
  (Obj.mk (Value.type "StopIteration") none (Data.fields #[(.ref 438), Value.none, Value.none, Value.none, (Value.bool Bool.false), Value.none]) #[]),
  (Obj.mk (Value.type "tuple_iterator") none (Data.fields #[Value.none, (.int 2 0)]) #[]),
  (Obj.mk (Value.type "tuple") none (Data.seq #[] 0) #[]),
  (Obj.mk (Value.type "StopIteration") none (Data.fields #[(.ref 441), Value.none, Value.none, Value.none, (Value.bool Bool.false), Value.none]) #[]),
  (Obj.mk (Value.type "list") none (Data.seq #[] 0) #[]),
  (Obj.mk (Value.type "tuple") none (Data.seq #[(.int 30 670), (.ref 115), (.ref 116)] 0) #[]),
  (Obj.mk (Value.type "tuple") none (Data.seq #[(.int 31 676), (.ref 120)] 0) #[]),
  (Obj.mk (Value.type "tuple_iterator") none (Data.fields #[Value.none, (.int 2 0)]) #[]),
  (Obj.mk (Value.type "tuple") none (Data.seq #[] 0) #[]),
  (Obj.mk (Value.type "StopIteration") none (Data.fields #[(.ref 447), Value.none, Value.none, Value.none, (Value.bool Bool.false), Value.none]) #[]),
  (Obj.mk (Value.type "tuple_iterator") none (Data.fields #[Value.none, (.int 2 0)]) #[]),
  (Obj.mk (Value.type "tuple") none (Data.seq #[] 0) #[]),
  (Obj.mk (Value.type "StopIteration") none (Data.fields #[(.ref 450), Value.none, Value.none, Value.none, (Value.bool Bool.false), Value.none]) #[]),
  (Obj.mk (Value.type "list") none (Data.seq #[] 0) #[]),
  (Obj.mk (Value.type "tuple") none (Data.seq #[(.int 31 676), (.ref 118), (.ref 119)] 0) #[])]
noncomputable def L32 (P : Params) : List Obj := ck0 P ++ [
  (Obj.mk (Value.type "frame") none (Data.dict #[(DictEntry.mk (PyData.keyHash P "found") (.str "found" 489) (.ref 163)), (DictEntry.mk (PyData.keyHash P "place") (.str "place" 491) (.int 31 676)), (DictEntry.mk (PyData.keyHash P "pattern") (.str "pattern" 492) (.ref 118)), (DictEntry.mk (PyData.keyHash P "kind") (.str "kind" 493) (.ref 119))] 4) #[]),
  (Obj.mk (Value.type "dict") none (Data.dict #[(DictEntry.mk (PyData.keyHash P "host") (.str "host" 227) (.ref 173)), (DictEntry.mk (PyData.keyHash P "bridge") (.str "bridge" 229) (.ref 182)), (DictEntry.mk (PyData.keyHash P "spanning") (.str "spanning" 235) (.ref 191)), (DictEntry.mk (PyData.keyHash P "region") (.str "region" 266) (.ref 236)), (DictEntry.mk (PyData.keyHash P "map") (.str "map" 275) (.ref 254)), (DictEntry.mk (PyData.keyHash P "table") (.str "table" 282) (.ref 263)), (DictEntry.mk (PyData.keyHash P "vlan") (.str "vlan" 294) (.ref 281)), (DictEntry.mk (PyData.keyHash P "port") (.str "port" 320) (.ref 317))] 8) #[]),
  (Obj.mk (Value.type "tuple_iterator") none (Data.fields #[(.ref 154), (.int 32 0)]) #[]),
  (Obj.mk (Value.type "enumerate") none (Data.fields #[Value.none, (Value.bool Bool.false), (.ref 164), (.int 32 0), Value.none, (.ref 120)]) #[])] ++ ((ck8 P).set 70 (Obj.mk (Value.type "list") none (Data.seq #[(.ref 237), (.ref 246)] 2) #[])) ++ ck16 P ++ ((ck24 P).set 7 (Obj.mk (Value.type "list") none (Data.seq #[(.ref 318), (.ref 327), (.ref 336), (.ref 345), (.ref 354), (.ref 363), (.ref 372), (.ref 381), (.ref 390), (.ref 399), (.ref 408), (.ref 417), (.ref 426), (.ref 435), (.ref 444), (.ref 453)] 16) #[])) ++ ck32 P
noncomputable def St32 (w : World) (os : OsState) : SharedT := ⟨BT.ofL (L32 w.params), 454, (Life.mk [] [] [] 0 [] [] Bool.false #[] [] 0 Bool.false Bool.false Bool.false 0 [2000, 10, 10] Bool.false 0 Bool.true [] [] 0 Bool.false), #[], Drawn.mk 0 0 0 0, 682, os⟩
noncomputable def ck40 (P : Params) : List Obj := [
  (Obj.mk (Value.type "tuple") none (Data.seq #[(.int 32 682), (.ref 123)] 0) #[]),
  (Obj.mk (Value.type "tuple_iterator") none (Data.fields #[Value.none, (.int 2 0)]) #[]),
  (Obj.mk (Value.type "tuple") none (Data.seq #[] 0) #[]),
  (Obj.mk (Value.type "StopIteration") none (Data.fields #[(.ref 456), Value.none, Value.none, Value.none, (Value.bool Bool.false), Value.none]) #[]),
  (Obj.mk (Value.type "tuple_iterator") none (Data.fields #[Value.none, (.int 2 0)]) #[]),
  (Obj.mk (Value.type "tuple") none (Data.seq #[] 0) #[]),
  (Obj.mk (Value.type "StopIteration") none (Data.fields #[(.ref 459), Value.none, Value.none, Value.none, (Value.bool Bool.false), Value.none]) #[]),
  (Obj.mk (Value.type "list") none (Data.seq #[] 0) #[]),
  (Obj.mk (Value.type "tuple") none (Data.seq #[(.int 32 682), (.ref 121), (.ref 122)] 0) #[]),
  (Obj.mk (Value.type "tuple") none (Data.seq #[(.int 33 688), (.ref 126)] 0) #[]),
  (Obj.mk (Value.type "tuple_iterator") none (Data.fields #[Value.none, (.int 2 0)]) #[]),
  (Obj.mk (Value.type "tuple") none (Data.seq #[] 0) #[]),
  (Obj.mk (Value.type "StopIteration") none (Data.fields #[(.ref 465), Value.none, Value.none, Value.none, (Value.bool Bool.false), Value.none]) #[]),
  (Obj.mk (Value.type "tuple_iterator") none (Data.fields #[Value.none, (.int 2 0)]) #[]),
  (Obj.mk (Value.type "tuple") none (Data.seq #[] 0) #[]),
  (Obj.mk (Value.type "StopIteration") none (Data.fields #[(.ref 468), Value.none, Value.none, Value.none, (Value.bool Bool.false), Value.none]) #[]),
  (Obj.mk (Value.type "list") none (Data.seq #[] 0) #[]),
  (Obj.mk (Value.type "tuple") none (Data.seq #[(.int 33 688), (.ref 124), (.ref 125)] 0) #[]),
  (Obj.mk (Value.type "tuple") none (Data.seq #[(.int 34 694), (.ref 129)] 0) #[]),
  (Obj.mk (Value.type "tuple_iterator") none (Data.fields #[Value.none, (.int 2 0)]) #[]),
  (Obj.mk (Value.type "tuple") none (Data.seq #[] 0) #[]),
  (Obj.mk (Value.type "StopIteration") none (Data.fields #[(.ref 474), Value.none, Value.none, Value.none, (Value.bool Bool.false), Value.none]) #[]),
  (Obj.mk (Value.type "tuple_iterator") none (Data.fields #[Value.none, (.int 2 0)]) #[]),
  (Obj.mk (Value.type "tuple") none (Data.seq #[] 0) #[]),
  (Obj.mk (Value.type "StopIteration") none (Data.fields #[(.ref 477), Value.none, Value.none, Value.none, (Value.bool Bool.false), Value.none]) #[]),
  (Obj.mk (Value.type "list") none (Data.seq #[] 0) #[]),
  (Obj.mk (Value.type "tuple") none (Data.seq #[(.int 34 694), (.ref 127), (.ref 128)] 0) #[]),
  (Obj.mk (Value.type "tuple") none (Data.seq #[(.int 35 700), (.ref 132)] 0) #[]),
  (Obj.mk (Value.type "tuple_iterator") none (Data.fields #[Value.none, (.int 2 0)]) #[]),
  (Obj.mk (Value.type "tuple") none (Data.seq #[] 0) #[]),
  (Obj.mk (Value.type "StopIteration") none (Data.fields #[(.ref 483), Value.none, Value.none, Value.none, (Value.bool Bool.false), Value.none]) #[]),
  (Obj.mk (Value.type "tuple_iterator") none (Data.fields #[Value.none, (.int 2 0)]) #[]),
  (Obj.mk (Value.type "tuple") none (Data.seq #[] 0) #[]),
  (Obj.mk (Value.type "StopIteration") none (Data.fields #[(.ref 486), Value.none, Value.none, Value.none, (Value.bool Bool.false), Value.none]) #[]),
  (Obj.mk (Value.type "list") none (Data.seq #[(.ref 489)] 1) #[]),
  (Obj.mk (Value.type "tuple") none (Data.seq #[(.int 35 700), (.ref 130), (.ref 131)] 0) #[]),
  (Obj.mk (Value.type "tuple") none (Data.seq #[(.int 36 706), (.ref 135)] 0) #[]),
  (Obj.mk (Value.type "tuple_iterator") none (Data.fields #[Value.none, (.int 2 0)]) #[]),
  (Obj.mk (Value.type "tuple") none (Data.seq #[] 0) #[]),
  (Obj.mk (Value.type "StopIteration") none (Data.fields #[(.ref 492), Value.none, Value.none, Value.none, (Value.bool Bool.false), Value.none]) #[]),
  (Obj.mk (Value.type "tuple_iterator") none (Data.fields #[Value.none, (.int 2 0)]) #[]),
  (Obj.mk (Value.type "tuple") none (Data.seq #[] 0) #[]),
  (Obj.mk (Value.type "StopIteration") none (Data.fields #[(.ref 495), Value.none, Value.none, Value.none, (Value.bool Bool.false), Value.none]) #[]),
  (Obj.mk (Value.type "list") none (Data.seq #[(.ref 498), (.ref 507), (.ref 516)] 3) #[]),
  (Obj.mk (Value.type "tuple") none (Data.seq #[(.int 36 706), (.ref 133), (.ref 134)] 0) #[]),
  (Obj.mk (Value.type "tuple") none (Data.seq #[(.int 37 712), (.ref 138)] 0) #[]),
  (Obj.mk (Value.type "tuple_iterator") none (Data.fields #[Value.none, (.int 2 0)]) #[]),
  (Obj.mk (Value.type "tuple") none (Data.seq #[] 0) #[]),
  (Obj.mk (Value.type "StopIteration") none (Data.fields #[(.ref 501), Value.none, Value.none, Value.none, (Value.bool Bool.false), Value.none]) #[]),
  (Obj.mk (Value.type "tuple_iterator") none (Data.fields #[Value.none, (.int 2 0)]) #[]),
  (Obj.mk (Value.type "tuple") none (Data.seq #[] 0) #[]),
  (Obj.mk (Value.type "StopIteration") none (Data.fields #[(.ref 504), Value.none, Value.none, Value.none, (Value.bool Bool.false), Value.none]) #[]),
  (Obj.mk (Value.type "list") none (Data.seq #[] 0) #[]),
  (Obj.mk (Value.type "tuple") none (Data.seq #[(.int 37 712), (.ref 136), (.ref 137)] 0) #[]),
  (Obj.mk (Value.type "tuple") none (Data.seq #[(.int 38 718), (.ref 141)] 0) #[]),
  (Obj.mk (Value.type "tuple_iterator") none (Data.fields #[Value.none, (.int 2 0)]) #[]),
  (Obj.mk (Value.type "tuple") none (Data.seq #[] 0) #[]),
  (Obj.mk (Value.type "StopIteration") none (Data.fields #[(.ref 510), Value.none, Value.none, Value.none, (Value.bool Bool.false), Value.none]) #[]),
  (Obj.mk (Value.type "tuple_iterator") none (Data.fields #[Value.none, (.int 2 0)]) #[]),
  (Obj.mk (Value.type "tuple") none (Data.seq #[] 0) #[]),
  (Obj.mk (Value.type "StopIteration") none (Data.fields #[(.ref 513), Value.none, Value.none, Value.none, (Value.bool Bool.false), Value.none]) #[]),
  (Obj.mk (Value.type "list") none (Data.seq #[] 0) #[]),
  (Obj.mk (Value.type "tuple") none (Data.seq #[(.int 38 718), (.ref 139), (.ref 140)] 0) #[]),
  (Obj.mk (Value.type "tuple") none (Data.seq #[(.int 39 724), (.ref 144)] 0) #[]),
  (Obj.mk (Value.type "tuple_iterator") none (Data.fields #[Value.none, (.int 2 0)]) #[]),
  (Obj.mk (Value.type "tuple") none (Data.seq #[] 0) #[]),
  (Obj.mk (Value.type "StopIteration") none (Data.fields #[(.ref 519), Value.none, Value.none, Value.none, (Value.bool Bool.false), Value.none]) #[]),
  (Obj.mk (Value.type "tuple_iterator") none (Data.fields #[Value.none, (.int 2 0)]) #[]),
  (Obj.mk (Value.type "tuple") none (Data.seq #[] 0) #[]),
  (Obj.mk (Value.type "StopIteration") none (Data.fields #[(.ref 522), Value.none, Value.none, Value.none, (Value.bool Bool.false), Value.none]) #[]),
  (Obj.mk (Value.type "list") none (Data.seq #[(.ref 525)] 1) #[]),
  (Obj.mk (Value.type "tuple") none (Data.seq #[(.int 39 724), (.ref 142), (.ref 143)] 0) #[])]
noncomputable def L40 (P : Params) : List Obj := ck0 P ++ [
  (Obj.mk (Value.type "frame") none (Data.dict #[(DictEntry.mk (PyData.keyHash P "found") (.str "found" 489) (.ref 163)), (DictEntry.mk (PyData.keyHash P "place") (.str "place" 491) (.int 39 724)), (DictEntry.mk (PyData.keyHash P "pattern") (.str "pattern" 492) (.ref 142)), (DictEntry.mk (PyData.keyHash P "kind") (.str "kind" 493) (.ref 143))] 4) #[]),
  (Obj.mk (Value.type "dict") none (Data.dict #[(DictEntry.mk (PyData.keyHash P "host") (.str "host" 227) (.ref 173)), (DictEntry.mk (PyData.keyHash P "bridge") (.str "bridge" 229) (.ref 182)), (DictEntry.mk (PyData.keyHash P "spanning") (.str "spanning" 235) (.ref 191)), (DictEntry.mk (PyData.keyHash P "region") (.str "region" 266) (.ref 236)), (DictEntry.mk (PyData.keyHash P "map") (.str "map" 275) (.ref 254)), (DictEntry.mk (PyData.keyHash P "table") (.str "table" 282) (.ref 263)), (DictEntry.mk (PyData.keyHash P "vlan") (.str "vlan" 294) (.ref 281)), (DictEntry.mk (PyData.keyHash P "port") (.str "port" 320) (.ref 317)), (DictEntry.mk (PyData.keyHash P "list") (.str "list" 436) (.ref 488)), (DictEntry.mk (PyData.keyHash P "mirror") (.str "mirror" 440) (.ref 497)), (DictEntry.mk (PyData.keyHash P "queue") (.str "queue" 459) (.ref 524))] 11) #[]),
  (Obj.mk (Value.type "tuple_iterator") none (Data.fields #[(.ref 154), (.int 40 0)]) #[]),
  (Obj.mk (Value.type "enumerate") none (Data.fields #[Value.none, (Value.bool Bool.false), (.ref 164), (.int 40 0), Value.none, (.ref 144)]) #[])] ++ ((ck8 P).set 70 (Obj.mk (Value.type "list") none (Data.seq #[(.ref 237), (.ref 246)] 2) #[])) ++ ck16 P ++ ((ck24 P).set 7 (Obj.mk (Value.type "list") none (Data.seq #[(.ref 318), (.ref 327), (.ref 336), (.ref 345), (.ref 354), (.ref 363), (.ref 372), (.ref 381), (.ref 390), (.ref 399), (.ref 408), (.ref 417), (.ref 426), (.ref 435), (.ref 444), (.ref 453), (.ref 462), (.ref 471), (.ref 480)] 19) #[])) ++ ck32 P ++ ck40 P
noncomputable def St40 (w : World) (os : OsState) : SharedT := ⟨BT.ofL (L40 w.params), 526, (Life.mk [] [] [] 0 [] [] Bool.false #[] [] 0 Bool.false Bool.false Bool.false 0 [2000, 10, 10] Bool.false 0 Bool.true [] [] 0 Bool.false), #[], Drawn.mk 0 0 0 0, 730, os⟩
noncomputable abbrev posA : Pos := ⟨10, 0, 14, 16⟩
noncomputable abbrev th0 : Thread := piecesOf (bb.drop 10) topEnv cc posA [topFrame default]
noncomputable def thOf (x : Option (SharedT × Thread)) : Thread := match x with
  | some r => r.2
  | none => th0
/-- the thread at the loop's head, named and not written out -/
noncomputable def Th (w : World) (os : OsState) : Thread := thOf (segGoT treeTable pw w 11 (some (.ref 6)) 1 501 (StA w os) th0)
noncomputable def CutA (w : World) : Prop := (fun os => segRunT treeTable pw w 11 (some (.ref 6)) 1 757 (topAt w os) (piecesOf (bb.take 10) topEnv cc default [topFrame default])) = fun os => some (Flow.next, StA w os, cc, posA)
noncomputable def Cut8 (w : World) : Prop := (fun os => segGoT treeTable pw w 11 (some (.ref 6)) 1 1829 (StA w os) th0) = fun os => some (St8 w os, Th w os)
noncomputable def Cut16 (w : World) : Prop := (fun os => segGoT treeTable pw w 11 (some (.ref 6)) 1 1769 (St8 w os) (Th w os)) = fun os => some (St16 w os, Th w os)
noncomputable def Cut24 (w : World) : Prop := (fun os => segGoT treeTable pw w 11 (some (.ref 6)) 1 1779 (St16 w os) (Th w os)) = fun os => some (St24 w os, Th w os)
noncomputable def Cut32 (w : World) : Prop := (fun os => segGoT treeTable pw w 11 (some (.ref 6)) 1 1784 (St24 w os) (Th w os)) = fun os => some (St32 w os, Th w os)
noncomputable def Cut40 (w : World) : Prop := (fun os => segGoT treeTable pw w 11 (some (.ref 6)) 1 1769 (St32 w os) (Th w os)) = fun os => some (St40 w os, Th w os)
noncomputable def CutZ (w : World) : Prop := (fun os => (segRunT treeTable pw w 11 (some (.ref 6)) 1 1428 (St40 w os) (Th w os)).map (fun r => (r.1, r.2.2, (staticsOk (importedModules pw.main.body) (boot_heap w.params) r.2.1.abs.heap && namesBound pw r.2.1.abs.heap && gensDone r.2.1.abs && laidKept (boot_heap w.params) r.2.1.abs.heap), openSeen view loose (importedModules pw.main.body) topXt true r.2.1.abs, Hook.obs hook r.2.1.abs))) = fun os => some (Flow.next, (cc, (⟨177, 0, 195, 15⟩ : Pos)), true, openGood view loose, Hook.val hook w)
theorem cA_false (w : World) : CutA (w.withFollow "special-get-raises" false) := by
  unfold CutA piecesOf
  rw [PySem.W.Fast.te10110043849684766642, PySem.W.Fast.te14364793385576792824, PySem.W.Fast.te12563942051412417395]
  kernel_rfl
theorem c8_false (w : World) : Cut8 (w.withFollow "special-get-raises" false) := by
  unfold Cut8 Th th0 piecesOf
  rw [PySem.W.Fast.te10295753902157049106, PySem.W.Fast.te14364793385576792824, PySem.W.Fast.te12563942051412417395]
  kernel_rfl
theorem c16_false (w : World) : Cut16 (w.withFollow "special-get-raises" false) := by
  unfold Cut16 Th th0 piecesOf
  rw [PySem.W.Fast.te10295753902157049106, PySem.W.Fast.te14364793385576792824, PySem.W.Fast.te12563942051412417395]
  kernel_rfl
theorem c24_false (w : World) : Cut24 (w.withFollow "special-get-raises" false) := by
  unfold Cut24 Th th0 piecesOf
  rw [PySem.W.Fast.te10295753902157049106, PySem.W.Fast.te14364793385576792824, PySem.W.Fast.te12563942051412417395]
  kernel_rfl
theorem c32_false (w : World) : Cut32 (w.withFollow "special-get-raises" false) := by
  unfold Cut32 Th th0 piecesOf
  rw [PySem.W.Fast.te10295753902157049106, PySem.W.Fast.te14364793385576792824, PySem.W.Fast.te12563942051412417395]
  kernel_rfl
theorem c40_false (w : World) : Cut40 (w.withFollow "special-get-raises" false) := by
  unfold Cut40 Th th0 piecesOf
  rw [PySem.W.Fast.te10295753902157049106, PySem.W.Fast.te14364793385576792824, PySem.W.Fast.te12563942051412417395]
  kernel_rfl
theorem cZ_false (w : World) : CutZ (w.withFollow "special-get-raises" false) := by
  unfold CutZ Th th0 piecesOf
  rw [PySem.W.Fast.te10110043849684766642, PySem.W.Fast.te10295753902157049106, PySem.W.Fast.te14364793385576792824, PySem.W.Fast.te4187177175401517315, PySem.W.Fast.te12563942051412417395]
  kernel_rfl
theorem cA_true (w : World) : CutA (w.withFollow "special-get-raises" true) := by
  unfold CutA piecesOf
  rw [PySem.W.Fast.te10110043849684766642, PySem.W.Fast.te14364793385576792824, PySem.W.Fast.te12563942051412417395]
  kernel_rfl
theorem c8_true (w : World) : Cut8 (w.withFollow "special-get-raises" true) := by
  unfold Cut8 Th th0 piecesOf
  rw [PySem.W.Fast.te10295753902157049106, PySem.W.Fast.te14364793385576792824, PySem.W.Fast.te12563942051412417395]
  kernel_rfl
theorem c16_true (w : World) : Cut16 (w.withFollow "special-get-raises" true) := by
  unfold Cut16 Th th0 piecesOf
  rw [PySem.W.Fast.te10295753902157049106, PySem.W.Fast.te14364793385576792824, PySem.W.Fast.te12563942051412417395]
  kernel_rfl
theorem c24_true (w : World) : Cut24 (w.withFollow "special-get-raises" true) := by
  unfold Cut24 Th th0 piecesOf
  rw [PySem.W.Fast.te10295753902157049106, PySem.W.Fast.te14364793385576792824, PySem.W.Fast.te12563942051412417395]
  kernel_rfl
theorem c32_true (w : World) : Cut32 (w.withFollow "special-get-raises" true) := by
  unfold Cut32 Th th0 piecesOf
  rw [PySem.W.Fast.te10295753902157049106, PySem.W.Fast.te14364793385576792824, PySem.W.Fast.te12563942051412417395]
  kernel_rfl
theorem c40_true (w : World) : Cut40 (w.withFollow "special-get-raises" true) := by
  unfold Cut40 Th th0 piecesOf
  rw [PySem.W.Fast.te10295753902157049106, PySem.W.Fast.te14364793385576792824, PySem.W.Fast.te12563942051412417395]
  kernel_rfl
theorem cZ_true (w : World) : CutZ (w.withFollow "special-get-raises" true) := by
  unfold CutZ Th th0 piecesOf
  rw [PySem.W.Fast.te10110043849684766642, PySem.W.Fast.te10295753902157049106, PySem.W.Fast.te14364793385576792824, PySem.W.Fast.te4187177175401517315, PySem.W.Fast.te12563942051412417395]
  kernel_rfl
theorem looks_of {p q : Program} {loose : List Str} {Xt : Shared → Bool} {α : Type} {Yf : Shared → α} {w : World} {n₀ m : Nat} {ann : Option Value} {b : Nat} {H : Heap} {s : SharedT} {t : Thread} {c0 : Code} {q0 : Pos} {g : _} {v : α}
    (h : (segRunT treeTable p w n₀ ann b m s t).map (fun r => (r.1, r.2.2, (staticsOk (importedModules p.main.body) H r.2.1.abs.heap && namesBound p r.2.1.abs.heap && gensDone r.2.1.abs && laidKept H r.2.1.abs.heap), openSeen q loose (importedModules p.main.body) Xt true r.2.1.abs, Yf r.2.1.abs)) = some (Flow.next, (c0, q0), true, g, v)) :
    ∃ st : SharedT, segRunT treeTable p w n₀ ann b m s t = some (Flow.next, st, c0, q0) ∧ (staticsOk (importedModules p.main.body) H st.abs.heap && namesBound p st.abs.heap && gensDone st.abs && laidKept H st.abs.heap) = true ∧ openSeen q loose (importedModules p.main.body) Xt true st.abs = g ∧ Yf st.abs = v := by
  obtain ⟨⟨f, st, c, p2⟩, r1, r2⟩ := Option.map_eq_some_iff.mp h
  simp only [Prod.mk.injEq] at r2
  obtain ⟨rfl, ⟨rfl, rfl⟩, l1, l2, l3⟩ := r2
  exact ⟨st, r1, l1, l2, l3⟩
/-- the text's top from where it is opened: the run and its look -/
theorem from_of {p : Program} {w : World} {N : Nat} {a b : Shared} (bare : (a.heap.isNs mainGlobals && a.gens.size == 0) = true)
    (run : topRun treeTable p w a.heap.objs.size (a.heap.nsMap mainGlobals "__annotations__") N a (topStub p) = some b)
    (look : (staticsOk (importedModules p.main.body) a.heap b.heap && namesBound p b.heap && gensDone b && laidKept a.heap b.heap) = true) : topFrom treeTable p w N a = some b := by
  simp only [topFrom, bare, run, Option.bind_some, look]
theorem left_of {p q : Program} {loose : List Str} {Xt : Shared → Bool} {α : Type} {Yf : Shared → α} {Ya : World → α} {N : Nat} {H₀ : Params → Heap} {gs₀ : Array GenState} {d₀ : Drawn} {k₀ m₀ : Nat} {ann : Option Value} {T : World → OsState → SharedT} {b : List Stmt} {env : Env} {pos0 pos1 q0 : Pos} {n0 K : Nat}
    (open_ : ∀ w : World, (fencedOpening treeTable p w N).map (fun s => (s.heap, s.gens, s.drawn, s.toks)) = some (H₀ w.params, gs₀, d₀, k₀))
    (size : ∀ w : World, ((H₀ w.params).isNs mainGlobals && gs₀.size == 0, (H₀ w.params).objs.size, (H₀ w.params).nsMap mainGlobals "__annotations__") = (true, m₀, ann))
    (pre : ∀ (w : World), (fun os => topGo treeTable p w m₀ ann n0 ⟨H₀ w.params, gs₀, d₀, k₀, os⟩ (topStub p)) = fun os => some ((T w os).abs, ⟨denote treeTable (.body b env), .body b env, pos0, [topFrame q0]⟩))
    (block : ∀ (w : World), (fun os => segRun treeTable p w m₀ ann 1 1 (T w os).abs (blockOf b env (.body b env) pos0 [topFrame q0])) = fun os => some (.next, (T w os).abs, .body b env, pos1))
    (run : ∀ (w : World) (os : OsState), ∃ st : SharedT, (staticsOk (importedModules p.main.body) (H₀ w.params) st.abs.heap && namesBound p st.abs.heap && gensDone st.abs && laidKept (H₀ w.params) st.abs.heap) = true ∧ openSeen q loose (importedModules p.main.body) Xt true st.abs = openGood q loose ∧ Yf st.abs = Ya w ∧ topRun treeTable p w m₀ ann K (T w os).abs (restOf b env (.body b env) pos1 [topFrame q0]) = some st.abs)
    (le : Nat.ble (n0 + (1 + K)) N = true) : LeftO p q loose Xt Yf Ya N := fun w => by
  obtain ⟨s0, opened, here⟩ := Option.map_eq_some_iff.mp (open_ w)
  obtain ⟨st, look, seen, kept, rest⟩ := run w s0.os
  have whole := topRun_mono (N - (n0 + (1 + K))) _ _ _ _ (go_top (congrFun (pre w) s0.os) (piece_block (congrFun (block w) s0.os) rest))
  rw [Nat.add_sub_cancel' (Nat.le_of_ble_eq_true le)] at whole
  have is : s0 = ⟨H₀ w.params, gs₀, d₀, k₀, s0.os⟩ := by
    cases s0
    simpa using here
  have bare := congrArg Prod.fst (size w)
  have many := congrArg (fun x => x.2.1) (size w)
  have notes := congrArg (fun x => x.2.2) (size w)
  have top : topFrom treeTable p w N s0 = some st.abs := by
    rw [is]
    refine from_of bare ?_ look
    rw [show (H₀ w.params).objs.size = m₀ from many, show (H₀ w.params).nsMap mainGlobals "__annotations__" = ann from notes]
    exact whole
  show ((fencedOpening treeTable p w N).bind (topFrom treeTable p w N)).map _ = _
  rw [opened]
  show (topFrom treeTable p w N s0).map _ = _
  rw [top]
  exact congrArg some (Prod.ext seen kept)
theorem top_open (w : World) : (fencedOpening treeTable pw w 22352).map (fun s => (s.heap, s.gens, s.drawn, s.toks)) = some (boot_heap w.params, #[], boot_drawn, boot_toks) := boot_open (by kernel_rfl) (by kernel_rfl) (fun s => by kernel_rfl) w
theorem top_size (w : World) : ((boot_heap w.params).isNs mainGlobals && (#[] : Array GenState).size == 0, (boot_heap w.params).objs.size, (boot_heap w.params).nsMap mainGlobals "__annotations__") = (true, 11, some (.ref 6)) := by kernel_rfl
theorem top_pre (w : World) : (fun os => topGo treeTable pw w 11 (some (.ref 6)) 12 ⟨boot_heap w.params, #[], boot_drawn, boot_toks, os⟩ (topStub pw)) = fun os => some ((topAt w os).abs, ⟨denote treeTable (.body (behindTheImports pw) topEnv), .body (behindTheImports pw) topEnv, default, [topFrame default]⟩) := by
  rw [PySem.W.Fast.te15667345088766844465, PySem.W.Fast.te14364793385576792824, PySem.W.Fast.te11892475500146522536]
  kernel_rfl
theorem top_block (w : World) : (fun os => segRun treeTable pw w 11 (some (.ref 6)) 1 1 (topAt w os).abs (blockOf (behindTheImports pw) topEnv (.body (behindTheImports pw) topEnv) default [topFrame default])) = fun os => some (.next, (topAt w os).abs, .body (behindTheImports pw) topEnv, default) := by kernel_rfl
theorem top_fin (w : World) (s : Shared) : topRun treeTable pw w 11 (some (.ref 6)) 2 s ⟨doneF .next, .body (behindTheImports pw) topEnv, ⟨177, 0, 195, 15⟩, [topFrame default]⟩ = some s := by kernel_rfl
noncomputable abbrev TopRun (w : World) : Prop := ∀ os : OsState, ∃ st : SharedT, (staticsOk (importedModules pw.main.body) (boot_heap w.params) st.abs.heap && namesBound pw st.abs.heap && gensDone st.abs && laidKept (boot_heap w.params) st.abs.heap) = true ∧ openSeen view loose (importedModules pw.main.body) topXt true st.abs = openGood view loose ∧ Hook.obs hook st.abs = Hook.val hook w ∧ topRun treeTable pw w 11 (some (.ref 6)) (757 + ((1829 + (1769 + (1779 + (1784 + (1769 + 1428))))) + 2)) (topAt w os).abs (restOf bb topEnv cc default [topFrame default]) = some st.abs
theorem run_of {w : World} (cA : CutA w) (c8 : Cut8 w) (c16 : Cut16 w) (c24 : Cut24 w) (c32 : Cut32 w) (c40 : Cut40 w) (cZ : CutZ w) : TopRun w := fun os => by
  obtain ⟨st, r1, l1, l2, l3⟩ := looks_of (congrFun cZ os)
  have z := segRun_of r1
  have z := seg_go (segGo_of (congrFun c40 os)) z
  have z := seg_go (segGo_of (congrFun c32 os)) z
  have z := seg_go (segGo_of (congrFun c24 os)) z
  have z := seg_go (segGo_of (congrFun c16 os)) z
  have z := seg_go (segGo_of (congrFun c8 os)) z
  have s1 := piece_app (rest := []) z (piece_nil (top_fin w st.abs))
  have s2 := piece_app (segRun_of (congrFun cA os)) s1
  rw [List.append_nil, List.take_append_drop] at s2
  exact ⟨st, l1, l2, l3, s2⟩
theorem top_left : LeftO pw view loose topXt (Hook.obs hook) (Hook.val hook) 22352 :=
  left_of top_open top_size top_pre top_block (byRow2 "special-get-raises" (P := TopRun) (fun w => run_of (cA_false w) (c8_false w) (c16_false w) (c24_false w) (c32_false w) (c40_false w) (cZ_false w)) (fun w => run_of (cA_true w) (c8_true w) (c16_true w) (c24_true w) (c32_true w) (c40_true w) (cZ_true w))) (by kernel_rfl)
-- the looks at the law's text, over the given program itself (the line o_law writes the program out once more: 4.5 MB compiled)
theorem row_said : OpenRow.wellSaid (OpenLaw.row PySem.Challenge.rw_xm0979_01) = true := by
  rw [PySem.W.Fast.te17960256430627541270]
  kernel_rfl
theorem law_said : OpenLaw.wellSaid PySem.Challenge.rw_xm0979_01 = true := by
  unfold OpenLaw.wellSaid
  repeat' with_reducible refine look_both ?_ ?_
  all_goals first | with_reducible exact row_said | kernel_rfl
end Mine

open PySem PySem.W PyProof.Rows PySem.Calls PySem.Spec
set_option Elab.async false
set_option maxRecDepth 100000
set_option linter.unusedVariables false
set_option maxHeartbeats 8000000

namespace Mine

-- F1

inductive D where
  | none | bool (b : Bool) | int (i : Int) | str (s : Str) | tup (l : List D) | lst (l : List D) | src | dic (P : Params) (ks : List Str) (vs : List D)

noncomputable abbrev Fz := Addr → Obj → Prop
noncomputable def SeqO (cls : String) (o : Obj) (vs : List Value) : Prop := o.cls = .type cls ∧ o.dict = none ∧ ∃ n, o.data = .seq vs.toArray n

noncomputable def DicK (P : Params) : List Str → List DictEntry → Prop
  | [], es => es = []
  | x :: ks, es => ∃ e r, es = e :: r ∧ (∃ t, e.key = .str x t) ∧ e.hash = PyData.keyHash P x ∧ DicK P ks r

mutual
noncomputable def Rd (fz : Fz) (sr : Option Addr) : D → Value → Prop
  | .none, v => v = .none
  | .bool b, v => v = .bool b
  | .int i, v => ∃ t, v = .int i t
  | .str s, v => ∃ t, v = .str s t
  | .tup l, v => ∃ a o vs, v = .ref a ∧ fz a o ∧ SeqO "tuple" o vs ∧ RdL fz sr l vs
  | .lst l, v => ∃ a o vs, v = .ref a ∧ fz a o ∧ SeqO "list" o vs ∧ RdL fz sr l vs
  | .src, v => ∃ a, v = .ref a ∧ sr = some a
  | .dic P ks l, v => ∃ a o es n, v = .ref a ∧ fz a o ∧ (a == sysModules) = false ∧ o.ExactDict ∧ o.data = .dict es n ∧ DicK P ks es.toList ∧ RdL fz sr l (es.toList.map (·.val))
noncomputable def RdL (fz : Fz) (sr : Option Addr) : List D → List Value → Prop
  | [], vs => vs = []
  | d :: ds, vs => ∃ v r, vs = v :: r ∧ Rd fz sr d v ∧ RdL fz sr ds r
end

mutual
theorem Rd.mono {f g : Fz} {sr : Option Addr} (hs : ∀ a o, f a o → g a o) : ∀ {d : D} {v : Value}, Rd f sr d v → Rd g sr d v
  | .none, _, h => by simpa only [Rd] using h
  | .bool _, _, h => by simpa only [Rd] using h
  | .int _, _, h => by simpa only [Rd] using h
  | .str _, _, h => by simpa only [Rd] using h
  | .src, _, h => by simpa only [Rd] using h
  | .tup l, v, h => by
    simp only [Rd] at h ⊢
    obtain ⟨a, o, vs, e, ho, hq, hl⟩ := h
    exact ⟨a, o, vs, e, hs _ _ ho, hq, RdL.mono hs hl⟩
  | .lst l, v, h => by
    simp only [Rd] at h ⊢
    obtain ⟨a, o, vs, e, ho, hq, hl⟩ := h
    exact ⟨a, o, vs, e, hs _ _ ho, hq, RdL.mono hs hl⟩
  | .dic P ks l, v, h => by
    simp only [Rd] at h ⊢
    obtain ⟨a, o, es, n, e, ho, h1, h2, h3, h4, hl⟩ := h
    exact ⟨a, o, es, n, e, hs _ _ ho, h1, h2, h3, h4, RdL.mono hs hl⟩
theorem RdL.mono {f g : Fz} {sr : Option Addr} (hs : ∀ a o, f a o → g a o) : ∀ {ds : List D} {vs : List Value}, RdL f sr ds vs → RdL g sr ds vs
  | [], _, h => by simpa only [RdL] using h
  | d :: ds, vs, h => by
    simp only [RdL] at h ⊢
    obtain ⟨v, r, e, h1, h2⟩ := h
    exact ⟨v, r, e, Rd.mono hs h1, RdL.mono hs h2⟩
end

theorem RdL.length {f : Fz} {sr : Option Addr} : ∀ {ds : List D} {vs : List Value}, RdL f sr ds vs → vs.length = ds.length
  | [], _, h => by simp only [RdL] at h; subst h; rfl
  | d :: ds, vs, h => by
    simp only [RdL] at h
    obtain ⟨v, r, rfl, _, h2⟩ := h
    simp [RdL.length h2]
theorem RdL.get {f : Fz} {sr : Option Addr} : ∀ {ds : List D} {vs : List Value} {i : Nat} {d : D}, RdL f sr ds vs → ds[i]? = some d → ∃ v, vs[i]? = some v ∧ Rd f sr d v
  | [], _, i, _, _, e => by simp at e
  | d :: ds, vs, 0, d', h, e => by
    simp only [RdL] at h
    obtain ⟨v, r, rfl, h1, _⟩ := h
    simp at e; subst e
    exact ⟨v, rfl, h1⟩
  | d :: ds, vs, i + 1, d', h, e => by
    simp only [RdL] at h
    obtain ⟨v, r, rfl, _, h2⟩ := h
    simpa using RdL.get h2 (by simpa using e)
theorem RdL.append {f : Fz} {sr : Option Addr} : ∀ {ds es : List D} {vs us : List Value}, RdL f sr ds vs → RdL f sr es us → RdL f sr (ds ++ es) (vs ++ us)
  | [], _, _, _, h, h' => by simp only [RdL] at h; subst h; exact h'
  | d :: ds, es, vs, us, h, h' => by
    simp only [RdL] at h
    obtain ⟨v, r, rfl, h1, h2⟩ := h
    exact ⟨v, r ++ us, rfl, h1, RdL.append h2 h'⟩
theorem RdL.drop {f : Fz} {sr : Option Addr} : ∀ {ds : List D} {vs : List Value} (n : Nat), RdL f sr ds vs → RdL f sr (ds.drop n) (vs.drop n)
  | _, _, 0, h => h
  | [], _, n + 1, h => by simp only [RdL] at h; subst h; simp [RdL]
  | d :: ds, vs, n + 1, h => by
    simp only [RdL] at h
    obtain ⟨v, r, rfl, _, h2⟩ := h
    simpa using RdL.drop n h2
theorem RdL.take {f : Fz} {sr : Option Addr} : ∀ {ds : List D} {vs : List Value} (n : Nat), RdL f sr ds vs → RdL f sr (ds.take n) (vs.take n)
  | _, _, 0, h => by simp [RdL]
  | [], _, n + 1, h => by simp only [RdL] at h; subst h; simp [RdL]
  | d :: ds, vs, n + 1, h => by
    simp only [RdL] at h
    obtain ⟨v, r, rfl, h1, h2⟩ := h
    exact ⟨v, r.take n, by simp, h1, RdL.take n h2⟩

noncomputable def SrcO (o : Obj) (vs : List Value) : Prop := o.cls = .type "list" ∧ ∃ n, o.data = .seq vs.toArray n
noncomputable def SrcIn (sr : Option Addr) (h : Heap) : Prop := ∀ a, sr = some a → ∃ o x y t u, h.get? a = some o ∧ SrcO o [.int x t, .int y u] ∧ 0 ≤ x ∧ x.natAbs.log2 < 2 ^ 21 ∧ 0 ≤ y ∧ y < 2147483647

structure Step (sr : Option Addr) (fz : Fz) (s : Shared) (fz' : Fz) (s' : Shared) : Prop where
  sub : ∀ a o, fz a o → fz' a o
  inn : ∀ a o, fz' a o → s'.heap.get? a = some o
  kept : ∀ b o, sr ≠ some b → s.heap.get? b = some o → s'.heap.get? b = some o
  fresh : ∀ a o, fz' a o → fz a o ∨ s.heap.get? a = none
  src : SrcIn sr s'.heap
  shape : s' = { s with heap := s'.heap, toks := s'.toks }

theorem Step.refl {sr : Option Addr} {fz : Fz} {s : Shared} (hi : ∀ a o, fz a o → s.heap.get? a = some o) (hs : SrcIn sr s.heap) : Step sr fz s fz s :=
  ⟨fun _ _ h => h, hi, fun _ _ _ h => h, fun _ _ h => .inl h, hs, rfl⟩
theorem Step.trans {sr : Option Addr} {f g k : Fz} {s s' s'' : Shared} (x : Step sr f s g s') (y : Step sr g s' k s'') : Step sr f s k s'' := by
  refine ⟨fun a o h => y.sub _ _ (x.sub _ _ h), y.inn, fun b o n h => y.kept _ _ n (x.kept _ _ n h), fun a o h => ?_, y.src, ?_⟩
  · rcases y.fresh a o h with h1 | h1
    · exact x.fresh a o h1
    · right
      cases e : s.heap.get? a with
      | none => rfl
      | some o' =>
        by_cases n : sr = some a
        · obtain ⟨o2, _, _, _, _, ho, _⟩ := x.src a n
          rw [ho] at h1; cases h1
        · rw [x.kept _ _ n e] at h1; cases h1
  · rw [y.shape, x.shape]
/-- only the heap grows: new objects, some of them frozen -/
theorem Step.grow {sr : Option Addr} {fz fz' : Fz} {s : Shared} {h' : Heap} {t' : Nat} (hs : SrcIn sr s.heap) (sub : ∀ a o, fz a o → fz' a o) (inn : ∀ a o, fz' a o → h'.get? a = some o)
    (kept : ∀ b o, s.heap.get? b = some o → h'.get? b = some o) (fresh : ∀ a o, fz' a o → fz a o ∨ s.heap.get? a = none) : Step sr fz s fz' { s with heap := h', toks := t' } :=
  ⟨sub, inn, fun b o _ h => kept b o h, fresh, fun a e => by
    obtain ⟨o, x, y, t, u, ho, r⟩ := hs a e
    exact ⟨o, x, y, t, u, kept _ _ ho, r⟩, rfl⟩
theorem Step.keep {sr : Option Addr} {fz : Fz} {s : Shared} {h' : Heap} {t' : Nat} (hs : SrcIn sr s.heap) (hi : ∀ a o, fz a o → s.heap.get? a = some o)
    (kept : ∀ b o, s.heap.get? b = some o → h'.get? b = some o) : Step sr fz s fz { s with heap := h', toks := t' } :=
  Step.grow hs (fun _ _ h => h) (fun a o h => kept _ _ (hi a o h)) kept fun _ _ h => .inl h
noncomputable def Fz.add (fz : Fz) (a : Addr) (o : Obj) : Fz := fun b p => fz b p ∨ (b = a ∧ p = o)
theorem Step.push {sr : Option Addr} {fz : Fz} {s : Shared} {o : Obj} {h' : Heap} {t' : Nat} (hs : SrcIn sr s.heap) (hi : ∀ a o, fz a o → s.heap.get? a = some o)
    (kept : ∀ b p, s.heap.get? b = some p → h'.get? b = some p) (hn : h'.get? s.heap.objs.size = some o) :
    Step sr fz s (fz.add s.heap.objs.size o) { s with heap := h', toks := t' } := by
  have hno : s.heap.get? s.heap.objs.size = none := by
    cases e : s.heap.get? s.heap.objs.size with
    | none => rfl
    | some o' => exact absurd (Heap.lt_size e) (Nat.lt_irrefl _)
  refine Step.grow hs (fun _ _ h => .inl h) (fun a p h => ?_) kept fun a p h => ?_
  · rcases h with h | ⟨rfl, rfl⟩
    · exact kept _ _ (hi a p h)
    · exact hn
  · rcases h with h | ⟨rfl, rfl⟩
    · exact .inl h
    · exact .inr hno

/-- room for n more calls -/
noncomputable def Room (A : Around) (n : Nat) : Prop := A.handled = none ∧ A.depth + n < 400 ∧ A.units + 8 * n < 800

noncomputable abbrev Rho := Str → Option D
noncomputable abbrev Oc := Option (Str × List D)
noncomputable def Rho.set (ρ : Rho) (x : Str) (d : D) : Rho := fun y => if y = x then some d else ρ y

structure Cx where
  prog : Program
  w : World
  base : Heap
  A : Around
  n : Nat
  env : Env
  sr : Option Addr
  fc : Fz
  s0 : Shared
  /-- the cells are this frame's own -/
  cellsOwn : Bool
  /-- objects that others of this frame turn: iterators, lists that a comprehension grows -/
  rs : List (Addr × Obj)

noncomputable def OwnAt (c : Cx) (fz : Fz) (h : Heap) (m : Str → Option Value) : Oc → Prop
  | none => True
  | some (x, l) => ∃ a o vs, m x = some (.ref a) ∧ c.env.kindOf x = some .local ∧ h.get? a = some o ∧ SeqO "list" o vs ∧ RdL fz c.sr l vs ∧ (∀ p, ¬ fz a p) ∧ a ≠ c.env.locals ∧ c.sr ≠ some a ∧ c.s0.heap.get? a = none ∧
      (∀ y ca, c.env.cells.lookup y = some ca → a ≠ ca) ∧ (∀ p ∈ c.rs, a ≠ p.1)

structure SR (c : Cx) (oc : Oc) (fz : Fz) (ρ : Rho) (s : Shared) : Prop where
  step : Step c.sr c.fc c.s0 fz s
  room : Room c.A c.n
  bs : ∀ a o, c.base.get? a = some o → c.fc a o
  srcF : ∀ a, c.sr = some a → ∀ o, ¬ c.fc a o
  src0 : SrcIn c.sr c.s0.heap
  ns : ∃ m, s.heap.Ns c.env.locals m ∧ (∀ x d, ρ x = some d → c.env.kindOf x = some .local → ∃ v, m x = some v ∧ Rd fz c.sr d v) ∧ OwnAt c fz s.heap m oc
  cells : ∀ x d, ρ x = some d → c.env.kindOf x = some .cell → ∃ ca v, c.env.cells.lookup x = some ca ∧ s.heap.IsCell ca (some v) ∧ Rd fz c.sr d v
  locF : ∀ o, ¬ fz c.env.locals o
  locS : c.sr ≠ some c.env.locals
  locN : c.s0.heap.get? c.env.locals = none
  cellI : ∀ x ca, c.env.cells.lookup x = some ca → (∃ v, s.heap.IsCell ca v) ∧ ca ≠ c.env.locals ∧ c.sr ≠ some ca ∧ (∀ o, ¬ fz ca o) ∧ (c.cellsOwn = true → c.s0.heap.get? ca = none)
  cellA : ∀ x y ca, c.env.cells.lookup x = some ca → c.env.cells.lookup y = some ca → x = y
  rsI : ∀ p ∈ c.rs, s.heap.get? p.1 = some p.2 ∧ c.s0.heap.get? p.1 = none ∧ (∀ o, ¬ fz p.1 o) ∧ p.1 ≠ c.env.locals ∧ c.sr ≠ some p.1 ∧ (∀ y ca, c.env.cells.lookup y = some ca → p.1 ≠ ca)
  fun_ : c.env.scope.kind = .function
  glob : c.env.globals = mainGlobals
  bltn : c.env.builtins = builtinsNs

theorem SR.inn {c : Cx} {oc : Oc} {fz : Fz} {ρ : Rho} {s : Shared} (x : SR c oc fz ρ s) : ∀ a o, fz a o → s.heap.get? a = some o := x.step.inn
theorem SR.based {c : Cx} {oc : Oc} {fz : Fz} {ρ : Rho} {s : Shared} (x : SR c oc fz ρ s) : ∀ a o, c.base.get? a = some o → s.heap.get? a = some o := fun a o h => x.inn _ _ (x.step.sub _ _ (x.bs _ _ h))
theorem SR.srcN {c : Cx} {oc : Oc} {fz : Fz} {ρ : Rho} {s : Shared} (x : SR c oc fz ρ s) : ∀ a, c.sr = some a → ∀ o, ¬ fz a o := by
  intro a e o h
  rcases x.step.fresh a o h with h1 | h1
  · exact x.srcF a e o h1
  · obtain ⟨o2, _, _, _, _, ho, _⟩ := x.src0 a e
    rw [ho] at h1; cases h1

theorem IsCell.keeps' {h h' : Heap} {ca : Addr} {v : Option Value} (x : h.IsCell ca v) (hk : ∀ o, h.get? ca = some o → h'.get? ca = some o) : h'.IsCell ca v := by
  obtain ⟨o, ho, hd⟩ := x
  exact ⟨o, hk _ ho, hd⟩

theorem SR.on {c : Cx} {oc : Oc} {f g : Fz} {ρ : Rho} {s s' : Shared} (x : SR c oc f ρ s) (y : Step c.sr f s g s') : SR c oc g ρ s' := by
  have new : ∀ a, (∀ o, ¬ f a o) → (∃ o, s.heap.get? a = some o) → ∀ o, ¬ g a o := fun a h1 h2 o h3 => by
    rcases y.fresh a o h3 with h4 | h4
    · exact h1 _ h4
    · obtain ⟨o2, h2⟩ := h2; rw [h2] at h4; cases h4
  have hL : ∃ o, s.heap.get? c.env.locals = some o := by
    obtain ⟨m, ⟨o, es, ep, ho, _⟩, _⟩ := x.ns
    exact ⟨o, ho⟩
  refine ⟨x.step.trans y, x.room, x.bs, x.srcF, x.src0, ?_, fun z d e k => ?_, new _ x.locF hL, x.locS, x.locN, fun z ca e => ?_, x.cellA, fun p hp => ?_, x.fun_, x.glob, x.bltn⟩
  · obtain ⟨m, hn, hm, ho⟩ := x.ns
    refine ⟨m, ?_, fun z d e k => ?_, ?_⟩
    · obtain ⟨o, es, ep, ho, r⟩ := hn
      exact ⟨o, es, ep, y.kept _ _ x.locS ho, r⟩
    · obtain ⟨v, h1, h2⟩ := hm z d e k
      exact ⟨v, h1, h2.mono y.sub⟩
    · cases oc with
      | none => trivial
      | some p =>
        obtain ⟨z, l⟩ := p
        obtain ⟨a, o, vs, h1, h2, h3, h4, h5, h6, h7, h8, h9⟩ := ho
        exact ⟨a, o, vs, h1, h2, y.kept _ _ h8 h3, h4, h5.mono y.sub, new _ h6 ⟨_, h3⟩, h7, h8, h9⟩
  · obtain ⟨ca, v, h1, h2, h3⟩ := x.cells z d e k
    exact ⟨ca, v, h1, IsCell.keeps' h2 fun o ho => y.kept _ _ (x.cellI _ _ h1).2.2.1 ho, h3.mono y.sub⟩
  · obtain ⟨⟨v, h1⟩, h2, h3, h4, h5⟩ := x.cellI z ca e
    exact ⟨⟨v, IsCell.keeps' h1 fun o ho => y.kept _ _ h3 ho⟩, h2, h3, new _ h4 (by obtain ⟨o, ho, _⟩ := h1; exact ⟨o, ho⟩), h5⟩
  · obtain ⟨h1, h2, h3, h4, h5, h6⟩ := x.rsI p hp
    exact ⟨y.kept _ _ h5 h1, h2, new _ h3 ⟨_, h1⟩, h4, h5, h6⟩


-- F2

noncomputable abbrev Cx.M (c : Cx) : Model := model c.prog c.w

noncomputable def SemE (c : Cx) (e : Expr) (ρ : Rho) (Q : D → Prop) : Prop :=
  ∀ oc fz s (Φ : Value → Shared → Prop) (E : Value → Shared → Prop), SR c oc fz ρ s →
    (∀ fz' v d s', Step c.sr fz s fz' s' → Rd fz' c.sr d v → Q d → Φ v s') → wpAny c.M c.A (eval e c.env) Φ E s
noncomputable def SemC (c : Cx) (e : Expr) (ρ : Rho) (Q : Bool → Prop) : Prop :=
  ∀ oc fz s (Φ : Bool → Shared → Prop) (E : Value → Shared → Prop), SR c oc fz ρ s →
    (∀ fz' b s', Step c.sr fz s fz' s' → Q b → Φ b s') → wpAny c.M c.A (PySem.isTrue e c.env (eval e c.env)) Φ E s
noncomputable def SemL (c : Cx) (pos : Pos) (es : List Expr) (ρ : Rho) (Q : List D → Prop) : Prop :=
  ∀ oc fz s (Φ : List Value → Shared → Prop) (E : Value → Shared → Prop), SR c oc fz ρ s →
    (∀ fz' vs ds s', Step c.sr fz s fz' s' → RdL fz' c.sr ds vs → vs.length = es.length → Q ds → Φ vs s') → wpAny c.M c.A (spliced (backTo pos (starEach es c.env))) Φ E s
/-- an operation on values that stand -/
noncomputable def OpD (c : Cx) (t : Value → Value → Sem Value) (a b : D) (Q : D → Prop) : Prop :=
  ∀ fz s v u (Φ : Value → Shared → Prop) (E : Value → Shared → Prop), (∀ a o, fz a o → s.heap.get? a = some o) → SrcIn c.sr s.heap → (∀ x o, c.base.get? x = some o → fz x o) → Room c.A c.n →
    Rd fz c.sr a v → Rd fz c.sr b u → (∀ fz' v d s', Step c.sr fz s fz' s' → Rd fz' c.sr d v → Q d → Φ v s') → wpAny c.M c.A (t v u) Φ E s
noncomputable def SemB (c : Cx) (b : List Stmt) (ρ : Rho) (oc : Oc) (Qn : Rho → Oc → Prop) (Qr : D → Prop) : Prop :=
  ∀ fz s (Φ : Flow → Shared → Prop) (E : Value → Shared → Prop), SR c oc fz ρ s →
    (∀ fz' ρ' oc' s', (∀ a o, fz a o → fz' a o) → SR c oc' fz' ρ' s' → Qn ρ' oc' → Φ .next s') →
    (∀ fz' v d s', Step c.sr c.fc c.s0 fz' s' → Rd fz' c.sr d v → Qr d → Φ (.ret v) s') → wpAny c.M c.A (execs b c.env) Φ E s
noncomputable def SemS (c : Cx) (st : Stmt) (ρ : Rho) (oc : Oc) (Qn : Rho → Oc → Prop) (Qr : D → Prop) : Prop :=
  ∀ fz s (Φ : Flow → Shared → Prop) (E : Value → Shared → Prop), SR c oc fz ρ s →
    (∀ fz' ρ' oc' s', (∀ a o, fz a o → fz' a o) → SR c oc' fz' ρ' s' → Qn ρ' oc' → Φ .next s') →
    (∀ fz' v d s', Step c.sr c.fc c.s0 fz' s' → Rd fz' c.sr d v → Qr d → Φ (.ret v) s') → wpAny c.M c.A (exec st c.env) Φ E s

theorem SemE.mono {c : Cx} {e : Expr} {ρ : Rho} {Q Q' : D → Prop} (h : SemE c e ρ Q) (hq : ∀ d, Q d → Q' d) : SemE c e ρ Q' :=
  fun oc fz s Φ E S k => h oc fz s Φ E S fun fz' v d s' st r q => k fz' v d s' st r (hq d q)

theorem SR.bsF {c : Cx} {oc : Oc} {fz : Fz} {ρ : Rho} {s : Shared} (x : SR c oc fz ρ s) : ∀ a o, c.base.get? a = some o → fz a o := fun a o h => x.step.sub _ _ (x.bs _ _ h)
theorem Step.same {sr : Option Addr} {fz : Fz} {s : Shared} {t : Nat} (hi : ∀ a o, fz a o → s.heap.get? a = some o) (hs : SrcIn sr s.heap) : Step sr fz s fz { s with toks := t } :=
  ⟨fun _ _ h => h, hi, fun _ _ _ h => h, fun _ _ h => .inl h, hs, rfl⟩

section
variable {c : Cx} {ρ : Rho} {Q : D → Prop} {x : Str} {d : D} {pos : Pos}
theorem E_local (hx : c.env.kindOf x = some .local) (hv : ρ x = some d) (hd : (x == ("__debug__" : Str)) = false) (h : Q d) : SemE c (.Name x pos) ρ Q := by
  intro oc fz s Φ E S k
  obtain ⟨m, hn, hm, _⟩ := S.ns
  obtain ⟨v, h1, h2⟩ := hm x d hv hx
  exact wpAny_Name (wpAny_loadName_local S.fun_ hx hn h1 (k _ _ _ _ (Step.refl S.inn S.step.src) h2 h)) hd
theorem E_cell (hx : c.env.kindOf x = some .cell) (hv : ρ x = some d) (hd : (x == ("__debug__" : Str)) = false) (h : Q d) : SemE c (.Name x pos) ρ Q := by
  intro oc fz s Φ E S k
  obtain ⟨ca, v, h1, h2, h3⟩ := S.cells x d hv hx
  exact wpAny_Name (wpAny_loadName_cell S.fun_ hx h1 h2 (k _ _ _ _ (Step.refl S.inn S.step.src) h3 h)) hd
theorem E_global {mg : Str → Option Value} {v : Value} (hx : c.env.kindOf x = some .globalImplicit) (G : c.base.Ns mainGlobals mg) (hv : mg x = some v)
    (hr : ∀ fz, (∀ a o, c.base.get? a = some o → fz a o) → Rd fz c.sr d v) (hd : (x == ("__debug__" : Str)) = false) (h : Q d) : SemE c (.Name x pos) ρ Q := by
  intro oc fz s Φ E S k
  refine Name_function_global S.fun_ hx (loadGlobal_global (mg := mg) ?_ hv (k _ _ _ _ (Step.refl S.inn S.step.src) (hr fz S.bsF) h)) hd
  rw [S.glob]
  exact G.keeps S.based
theorem E_int {i : Int} {k : Nat} (h : Q (.int i)) : SemE c (.Constant (.int i) k pos) ρ Q := by
  intro oc fz s Φ E S kk
  exact wpAny_Constant_int (kk _ _ _ _ (Step.same S.inn S.step.src) (by simp [Rd]) h)
theorem E_str {i : Str} {k : Nat} (h : Q (.str i)) : SemE c (.Constant (.str i) k pos) ρ Q := by
  intro oc fz s Φ E S kk
  exact wpAny_Constant_str (kk _ _ _ _ (Step.same S.inn S.step.src) (by simp [Rd]) h)
theorem E_bool {i : Bool} {k : Nat} (h : Q (.bool i)) : SemE c (.Constant (.bool i) k pos) ρ Q := by
  intro oc fz s Φ E S kk
  exact wpAny_Constant_bool (kk _ _ _ _ (Step.refl S.inn S.step.src) (by simp [Rd]) h)
theorem E_none {k : Nat} (h : Q .none) : SemE c (.Constant .none k pos) ρ Q := by
  intro oc fz s Φ E S kk
  exact wpAny_Constant_none (kk _ _ _ _ (Step.refl S.inn S.step.src) (by simp [Rd]) h)

theorem L_nil {Q : List D → Prop} (h : Q []) : SemL c pos [] ρ Q := by
  intro oc fz s Φ E S k
  exact Calls.spliced_nil (k _ _ _ _ (Step.refl S.inn S.step.src) (by simp [RdL]) rfl h)
theorem L_cons {e : Expr} {es : List Expr} {Q : List D → Prop} (h : SemE c e ρ fun d => SemL c pos es ρ fun ds => Q (d :: ds)) (hst : starEach (e :: es) c.env = (false, eval e c.env) :: starEach es c.env) : SemL c pos (e :: es) ρ Q := by
  intro oc fz s Φ E S k
  refine spliced_more (h oc fz s _ E S fun fz₁ v d s₁ st₁ r₁ q => ?_) hst
  refine q oc fz₁ s₁ _ E (S.on st₁) fun fz₂ vs ds s₂ st₂ r₂ ln q₂ => k _ _ _ _ (st₁.trans st₂) ?_ (by simp [ln]) q₂
  exact ⟨v, vs, rfl, r₁.mono st₂.sub, r₂⟩
theorem E_tuple {es : List Expr} {k : Nat} (h : SemL c pos es ρ fun ds => Q (.tup ds)) (hsz : es.length ≤ 1000) : SemE c (.Tuple es k pos) ρ Q := by
  intro oc fz s Φ E S kk
  refine wpAny_Tuple_spliced (h oc fz s _ E S fun fz₁ vs ds s₁ st₁ r₁ ln q => ⟨by rw [ln]; exact Nat.le_trans hsz (by decide), ?_⟩)
  have st₂ := Step.push (sr := c.sr) (fz := fz₁) (s := s₁) (o := { cls := .type "tuple", data := .seq vs.toArray }) (h' := s₁.heap.push _) (t' := s₁.toks) st₁.src st₁.inn (fun b p hb => Heap.get?_push_of_some _ hb) (Heap.get?_push_size _ rfl)
  refine kk _ _ _ _ (st₁.trans st₂) ?_ q
  simp only [Rd]
  exact ⟨_, _, vs, rfl, .inr ⟨rfl, rfl⟩, ⟨rfl, rfl, _, rfl⟩, r₁.mono st₂.sub⟩
theorem E_list {es : List Expr} (h : SemL c pos es ρ fun ds => Q (.lst ds)) (hsz : es.length ≤ 1000) : SemE c (.List es pos) ρ Q := by
  intro oc fz s Φ E S kk
  refine wpAny_List_spliced (h oc fz s _ E S fun fz₁ vs ds s₁ st₁ r₁ ln q => ⟨by rw [ln]; exact Nat.le_trans hsz (by decide), ?_⟩)
  have st₂ := Step.push (sr := c.sr) (fz := fz₁) (s := s₁) (o := { cls := .type "list", data := .seq vs.toArray }) (h' := s₁.heap.push _) (t' := s₁.toks) st₁.src st₁.inn (fun b p hb => Heap.get?_push_of_some _ hb) (Heap.get?_push_size _ rfl)
  refine kk _ _ _ _ (st₁.trans st₂) ?_ q
  simp only [Rd]
  exact ⟨_, _, vs, rfl, .inr ⟨rfl, rfl⟩, ⟨rfl, rfl, _, rfl⟩, r₁.mono st₂.sub⟩

theorem E_two {l r : Expr} {t : Value → Value → Sem Value} {R : D → D → Prop} (hl : SemE c l ρ fun a => SemE c r ρ fun b => R a b) (hop : ∀ a b, R a b → OpD c t a b Q)
    (oc : Oc) (fz : Fz) (s : Shared) (Φ : Value → Shared → Prop) (E : Value → Shared → Prop) (S : SR c oc fz ρ s) (k : ∀ fz' v d s', Step c.sr fz s fz' s' → Rd fz' c.sr d v → Q d → Φ v s') :
    wpAny c.M c.A (eval l c.env) (fun a s₁ => wpAny c.M c.A (eval r c.env) (fun b s₂ => wpAny c.M c.A (t a b) Φ E s₂) E s₁) E s := by
  refine hl oc fz s _ E S fun fz₁ v d s₁ st₁ r₁ q₁ => ?_
  refine q₁ oc fz₁ s₁ _ E (S.on st₁) fun fz₂ u e s₂ st₂ r₂ q₂ => ?_
  have S₂ := (S.on st₁).on st₂
  exact hop d e q₂ fz₂ s₂ v u Φ E S₂.inn S₂.step.src S₂.bsF S₂.room (r₁.mono st₂.sub) r₂ fun fz₃ w f s₃ st₃ r₃ q₃ => k _ _ _ _ ((st₁.trans st₂).trans st₃) r₃ q₃

theorem E_binop {l r : Expr} {op : Operator} (h : SemE c l ρ fun a => SemE c r ρ fun b => OpD c (binaryOp op) a b Q) : SemE c (.BinOp l op r pos) ρ Q :=
  fun oc fz s Φ E S k => wpAny_BinOp (E_two (t := binaryOp op) h (fun _ _ x => x) oc fz s Φ E S k)
theorem E_cmp {l r : Expr} {op : CmpOp} (hm : behindInMarks op r = false) (h : SemE c l ρ fun a => SemE c r ρ fun b => OpD c (compareOp op) a b Q) : SemE c (.Compare l [op] [r] pos) ρ Q :=
  fun oc fz s Φ E S k => wpAny_Compare1 (E_two (t := compareOp op) h (fun _ _ x => x) oc fz s Φ E S k) hm
theorem E_index {value slice : Expr} (h : SemE c value ρ fun a => SemE c slice ρ fun b => OpD c (subscriptTail value slice) a b Q) : SemE c (.Subscript value slice pos) ρ Q :=
  fun oc fz s Φ E S k => Subscript_ (E_two (t := subscriptTail value slice) h (fun _ _ x => x) oc fz s Φ E S k)

theorem E_ifexp {t b o : Expr} (h : SemC c t ρ fun x => (x = true → SemE c b ρ Q) ∧ (x = false → SemE c o ρ Q)) : SemE c (.IfExp t b o pos) ρ Q := by
  intro oc fz s Φ E S k
  refine wpAny_IfExp (h oc fz s _ E S fun fz₁ x s₁ st₁ q => ?_)
  cases x with
  | true => exact q.1 rfl oc fz₁ s₁ Φ E (S.on st₁) fun fz₂ v d s₂ st₂ r₂ q₂ => k _ _ _ _ (st₁.trans st₂) r₂ q₂
  | false => exact q.2 rfl oc fz₁ s₁ Φ E (S.on st₁) fun fz₂ v d s₂ st₂ r₂ q₂ => k _ _ _ _ (st₁.trans st₂) r₂ q₂

theorem E_bool1 {op : BoolOp} {e : Expr} (h : SemE c e ρ Q) : SemE c (.BoolOp op [e] pos) ρ Q := fun oc fz s Φ E S k => BoolOp_one (h oc fz s Φ E S k)
theorem E_and {e₁ e₂ : Expr} {rest : List Expr} (h : SemE c e₁ ρ fun d => ∃ b, d = .bool b ∧ (b = true → SemE c (.BoolOp .And (e₂ :: rest) pos) ρ Q) ∧ (b = false → Q (.bool false))) : SemE c (.BoolOp .And (e₁ :: e₂ :: rest) pos) ρ Q := by
  intro oc fz s Φ E S k
  refine BoolOp_and (h oc fz s _ E S fun fz₁ v d s₁ st₁ r₁ q => ?_)
  obtain ⟨b, rfl, q1, q2⟩ := q
  simp only [Rd] at r₁
  subst r₁
  refine wpAny_truthy_bool ?_
  cases b with
  | true => exact q1 rfl oc fz₁ s₁ Φ E (S.on st₁) fun fz₂ v d s₂ st₂ r₂ q₂ => k _ _ _ _ (st₁.trans st₂) r₂ q₂
  | false => exact k _ _ _ _ st₁ (by simp [Rd]) (q2 rfl)
theorem E_or {e₁ e₂ : Expr} {rest : List Expr} (h : SemE c e₁ ρ fun d => ∃ b, d = .bool b ∧ (b = true → Q (.bool true)) ∧ (b = false → SemE c (.BoolOp .Or (e₂ :: rest) pos) ρ Q)) : SemE c (.BoolOp .Or (e₁ :: e₂ :: rest) pos) ρ Q := by
  intro oc fz s Φ E S k
  refine BoolOp_or (h oc fz s _ E S fun fz₁ v d s₁ st₁ r₁ q => ?_)
  obtain ⟨b, rfl, q1, q2⟩ := q
  simp only [Rd] at r₁
  subst r₁
  refine wpAny_truthy_bool ?_
  cases b with
  | false => exact q2 rfl oc fz₁ s₁ Φ E (S.on st₁) fun fz₂ v d s₂ st₂ r₂ q₂ => k _ _ _ _ (st₁.trans st₂) r₂ q₂
  | true => exact k _ _ _ _ st₁ (by simp [Rd]) (q1 rfl)

theorem E_chain {l r₁ r₂ : Expr} {op₁ op₂ : CmpOp} (hm : lastMarks [op₁, op₂] [r₁, r₂] = false)
    (h : SemE c l ρ fun a => SemE c r₁ ρ fun b => OpD c (compareOp op₁) a b fun t => ∃ q, t = .bool q ∧ (q = false → Q (.bool false)) ∧ (q = true → SemE c r₂ ρ fun e => OpD c (compareOp op₂) b e Q)) :
    SemE c (.Compare l [op₁, op₂] [r₁, r₂] pos) ρ Q := by
  intro oc fz s Φ E S k
  refine Compare_chain (h oc fz s _ E S fun fz₁ v d s₁ st₁ r₁ q₁ => ?_) hm
  refine chain_link (q₁ oc fz₁ s₁ _ E (S.on st₁) fun fz₂ u e s₂ st₂ r₂ q₂ => ?_)
  have S₂ := (S.on st₁).on st₂
  refine q₂ fz₂ s₂ v u _ E S₂.inn S₂.step.src S₂.bsF S₂.room (r₁.mono st₂.sub) r₂ fun fz₃ w f s₃ st₃ r₃ q₃ => ?_
  obtain ⟨b, rfl, q4, q5⟩ := q₃
  simp only [Rd] at r₃
  subst r₃
  refine wpAny_truthy_bool ?_
  cases b with
  | false => exact k _ _ _ _ ((st₁.trans st₂).trans st₃) (by simp [Rd]) (q4 rfl)
  | true =>
    refine chain_last (q5 rfl oc fz₃ s₃ _ E (S₂.on st₃) fun fz₄ w f s₄ st₄ r₄ q₆ => ?_)
    have S₄ := (S₂.on st₃).on st₄
    exact q₆ fz₄ s₄ u w Φ E S₄.inn S₄.step.src S₄.bsF S₄.room (r₂.mono (st₃.trans st₄).sub) r₄ fun fz₅ w f s₅ st₅ r₅ q₇ => k _ _ _ _ ((((st₁.trans st₂).trans st₃).trans st₄).trans st₅) r₅ q₇

theorem C_val {e : Expr} {Q : Bool → Prop} (hs : PySem.isTrue e c.env (eval e c.env) = (do let v ← eval e c.env; standAt e.pos; holding [v] (truthy v))) (h : SemE c e ρ fun d => ∃ b, d = .bool b ∧ Q b) : SemC c e ρ Q := by
  intro oc fz s Φ E S k
  refine wpAny_isTrue_value (h oc fz s _ E S fun fz₁ v d s₁ st₁ r₁ q => ?_) hs
  obtain ⟨b, rfl, q⟩ := q
  simp only [Rd] at r₁
  subst r₁
  exact wpAny_truthy_bool (k _ _ _ st₁ q)
theorem C_not {e : Expr} {Q : Bool → Prop} (h : SemC c e ρ fun b => Q (!b)) : SemC c (.UnaryOp .Not e pos) ρ Q :=
  fun oc fz s Φ E S k => isTrue_not (h oc fz s _ E S fun fz₁ b s₁ st₁ q => k _ _ _ st₁ q)
theorem C_cmp {l r : Expr} {op : CmpOp} {Q : Bool → Prop} (hm : behindInMarks op r = false) (h : SemE c l ρ fun a => SemE c r ρ fun b => OpD c (compareOp op) a b fun t => ∃ q, t = .bool q ∧ Q q) : SemC c (.Compare l [op] [r] pos) ρ Q := by
  intro oc fz s Φ E S k
  refine wpAny_isTrue_Compare1 (E_two (t := compareOp op) h (fun _ _ x => x) oc fz s _ E S fun fz₁ v d s₁ st₁ r₁ q => ?_) hm
  obtain ⟨b, rfl, q⟩ := q
  simp only [Rd] at r₁
  subst r₁
  exact wpAny_truthy_bool (k _ _ _ st₁ q)
theorem C_and_nil {Q : Bool → Prop} (h : Q true) : SemC c (.BoolOp .And [] pos) ρ Q := fun oc fz s Φ E S k => isTrue_and_nil (k _ _ _ (Step.refl S.inn S.step.src) h)
theorem C_or_nil {Q : Bool → Prop} (h : Q false) : SemC c (.BoolOp .Or [] pos) ρ Q := fun oc fz s Φ E S k => isTrue_or_nil (k _ _ _ (Step.refl S.inn S.step.src) h)
theorem C_and {e : Expr} {rest : List Expr} {Q : Bool → Prop} (h : SemC c e ρ fun b => (b = true → SemC c (.BoolOp .And rest pos) ρ Q) ∧ (b = false → Q false)) : SemC c (.BoolOp .And (e :: rest) pos) ρ Q := by
  intro oc fz s Φ E S k
  refine wpAny_isTrue_BoolOp (wpAny_allTrue_And_cons (h oc fz s _ E S fun fz₁ b s₁ st₁ q => ?_))
  cases b with
  | true => exact q.1 rfl oc fz₁ s₁ Φ E (S.on st₁) fun fz₂ b s₂ st₂ q₂ => k _ _ _ (st₁.trans st₂) q₂
  | false => exact k _ _ _ st₁ (q.2 rfl)
theorem C_or {e : Expr} {rest : List Expr} {Q : Bool → Prop} (h : SemC c e ρ fun b => (b = true → Q true) ∧ (b = false → SemC c (.BoolOp .Or rest pos) ρ Q)) : SemC c (.BoolOp .Or (e :: rest) pos) ρ Q := by
  intro oc fz s Φ E S k
  refine wpAny_isTrue_BoolOp (wpAny_allTrue_Or_cons (h oc fz s _ E S fun fz₁ b s₁ st₁ q => ?_))
  cases b with
  | false => exact q.2 rfl oc fz₁ s₁ Φ E (S.on st₁) fun fz₂ b s₂ st₂ q₂ => k _ _ _ (st₁.trans st₂) q₂
  | true => exact k _ _ _ st₁ (q.1 rfl)
theorem C_chain {l r₁ r₂ : Expr} {op₁ op₂ : CmpOp} {Q : Bool → Prop} (hm : lastMarks [op₁, op₂] [r₁, r₂] = false)
    (h : SemE c l ρ fun a => SemE c r₁ ρ fun b => OpD c (compareOp op₁) a b fun t => ∃ q, t = .bool q ∧ (q = false → Q false) ∧ (q = true → SemE c r₂ ρ fun e => OpD c (compareOp op₂) b e fun t => ∃ q, t = .bool q ∧ Q q)) :
    SemC c (.Compare l [op₁, op₂] [r₁, r₂] pos) ρ Q := by
  intro oc fz s Φ E S k
  refine isTrue_chain (h oc fz s _ E S fun fz₁ v d s₁ st₁ r₁ q₁ => ?_) hm
  refine test_link (q₁ oc fz₁ s₁ _ E (S.on st₁) fun fz₂ u e s₂ st₂ r₂ q₂ => ?_)
  have S₂ := (S.on st₁).on st₂
  refine q₂ fz₂ s₂ v u _ E S₂.inn S₂.step.src S₂.bsF S₂.room (r₁.mono st₂.sub) r₂ fun fz₃ w f s₃ st₃ r₃ q₃ => ?_
  obtain ⟨b, rfl, q4, q5⟩ := q₃
  simp only [Rd] at r₃
  subst r₃
  refine wpAny_truthy_bool ?_
  cases b with
  | false => exact k _ _ _ ((st₁.trans st₂).trans st₃) (q4 rfl)
  | true =>
    refine test_last (q5 rfl oc fz₃ s₃ _ E (S₂.on st₃) fun fz₄ w f s₄ st₄ r₄ q₆ => ?_)
    have S₄ := (S₂.on st₃).on st₄
    refine q₆ fz₄ s₄ u w _ E S₄.inn S₄.step.src S₄.bsF S₄.room (r₂.mono (st₃.trans st₄).sub) r₄ fun fz₅ w f s₅ st₅ r₅ q₇ => ?_
    obtain ⟨b, rfl, q8⟩ := q₇
    simp only [Rd] at r₅
    subst r₅
    exact wpAny_truthy_bool (k _ _ _ ((((st₁.trans st₂).trans st₃).trans st₄).trans st₅) q8)
theorem E_not {e : Expr} (h : SemE c e ρ fun d => ∃ b, d = .bool b ∧ Q (.bool (!b))) : SemE c (.UnaryOp .Not e pos) ρ Q := by
  intro oc fz s Φ E S k
  refine wpAny_UnaryOp (h oc fz s _ E S fun fz₁ v d s₁ st₁ r₁ q => ?_)
  obtain ⟨i, rfl, q⟩ := q
  simp only [Rd] at r₁
  subst r₁
  exact not_of (wpAny_truthy_bool (k _ _ _ _ st₁ (by simp [Rd]) q))
theorem E_neg {e : Expr} (h : SemE c e ρ fun d => ∃ i, d = .int i ∧ Q (.int (-i))) : SemE c (.UnaryOp .USub e pos) ρ Q := by
  intro oc fz s Φ E S k
  refine wpAny_UnaryOp (h oc fz s _ E S fun fz₁ v d s₁ st₁ r₁ q => ?_)
  obtain ⟨i, rfl, q⟩ := q
  simp only [Rd] at r₁
  obtain ⟨t, rfl⟩ := r₁
  have S₁ := S.on st₁
  exact neg_int (k _ _ _ _ (st₁.trans (Step.same S₁.inn S₁.step.src)) (by simp [Rd]) q)
end

-- F3

mutual
noncomputable def D.py : D → PyData
  | .none => .none
  | .bool b => .bool b
  | .int i => .int i
  | .str s => .str s
  | .tup l => .tuple (D.pys l)
  | .lst l => .list (D.pys l)
  | .src => .none
  | .dic _ _ _ => .none
noncomputable def D.pys : List D → List PyData
  | [] => []
  | d :: ds => D.py d :: D.pys ds
end
mutual
/-- no source within, texts of signs that are -/
noncomputable def D.ok : D → Bool
  | .str s => PyData.strOk s
  | .tup l => D.oks l
  | .lst l => D.oks l
  | .src => false
  | .dic _ _ _ => false
  | _ => true
noncomputable def D.oks : List D → Bool
  | [] => true
  | d :: ds => D.ok d && D.oks ds
end
mutual
noncomputable def D.dep : D → Nat
  | .tup l => D.deps l + 1
  | .lst l => D.deps l + 1
  | _ => 0
noncomputable def D.deps : List D → Nat
  | [] => 0
  | d :: ds => max (D.dep d) (D.deps ds)
end
mutual
theorem Rd.reads {fz : Fz} {sr : Option Addr} {h : Heap} (hi : ∀ a o, fz a o → h.get? a = some o) : ∀ {d : D} {v : Value}, Rd fz sr d v → d.ok = true → ∃ as, Reads h v d.py as
  | .none, _, r, _ => by simp only [Rd] at r; subst r; exact ⟨_, .none⟩
  | .bool b, _, r, _ => by simp only [Rd] at r; subst r; exact ⟨_, .bool b⟩
  | .int i, _, r, _ => by simp only [Rd] at r; obtain ⟨t, rfl⟩ := r; exact ⟨_, .int i t⟩
  | .str s, _, r, _ => by simp only [Rd] at r; obtain ⟨t, rfl⟩ := r; exact ⟨_, .str s t⟩
  | .src, _, _, k => by simp [D.ok] at k
  | .dic _ _ _, _, _, k => by simp [D.ok] at k
  | .tup l, v, r, k => by
    simp only [Rd] at r
    obtain ⟨a, o, vs, rfl, ho, ⟨hc, _, n, hd⟩, hl⟩ := r
    obtain ⟨as, q⟩ := RdL.reads hi hl (by simpa only [D.ok] using k)
    rw [D.py]
    exact ⟨_, reads_tuple_at (hi _ _ ho) hc hd q⟩
  | .lst l, v, r, k => by
    simp only [Rd] at r
    obtain ⟨a, o, vs, rfl, ho, ⟨hc, _, n, hd⟩, hl⟩ := r
    obtain ⟨as, q⟩ := RdL.reads hi hl (by simpa only [D.ok] using k)
    rw [D.py]
    exact ⟨_, reads_list_at (hi _ _ ho) hc hd q⟩
theorem RdL.reads {fz : Fz} {sr : Option Addr} {h : Heap} (hi : ∀ a o, fz a o → h.get? a = some o) : ∀ {ds : List D} {vs : List Value}, RdL fz sr ds vs → D.oks ds = true → ∃ as, ReadsAll h vs (D.pys ds) as
  | [], _, r, _ => by simp only [RdL] at r; subst r; exact ⟨_, .nil⟩
  | d :: ds, vs, r, k => by
    simp only [RdL] at r
    obtain ⟨v, us, rfl, h1, h2⟩ := r
    simp only [D.oks, Bool.and_eq_true] at k
    obtain ⟨as, q⟩ := Rd.reads hi h1 k.1
    obtain ⟨bs, p⟩ := RdL.reads hi h2 k.2
    rw [D.pys]
    exact ⟨_, .cons q p⟩
end
mutual
theorem D.lay : ∀ d : D, d.ok = true → d.py.canLay0 = true ∧ d.py.depth ≤ d.dep
  | .none, _ => by simp [D.py, PyData.canLay0, PyData.depth]
  | .bool b, _ => by simp [D.py, PyData.canLay0, PyData.depth]
  | .int i, _ => by simp [D.py, PyData.canLay0, PyData.depth]
  | .str s, k => by simp only [D.ok] at k; simp [D.py, PyData.canLay0, PyData.depth, k]
  | .src, k => by simp [D.ok] at k
  | .dic _ _ _, k => by simp [D.ok] at k
  | .tup l, k => by
    simp only [D.ok] at k
    have h := D.lays l k
    simp only [D.py, PyData.canLay0, PyData.depth, D.dep]
    exact ⟨h.1, by omega⟩
  | .lst l, k => by
    simp only [D.ok] at k
    have h := D.lays l k
    simp only [D.py, PyData.canLay0, PyData.depth, D.dep]
    exact ⟨h.1, by omega⟩
theorem D.lays : ∀ l : List D, D.oks l = true → PyData.canLayAll0 (D.pys l) = true ∧ PyData.depthAll (D.pys l) ≤ D.deps l
  | [], _ => by simp [D.pys, PyData.canLayAll0, PyData.depthAll]
  | d :: ds, k => by
    simp only [D.oks, Bool.and_eq_true] at k
    have h1 := D.lay d k.1
    have h2 := D.lays ds k.2
    simp only [D.pys, PyData.canLayAll0, PyData.depthAll, D.deps, Bool.and_eq_true]
    exact ⟨⟨h1.1, h2.1⟩, by omega⟩
end
/-- a datum that == reads -/
noncomputable def D.fine (d : D) : Bool := d.ok && decide (d.dep ≤ 60)
theorem D.fine_shaped {d : D} (h : d.fine = true) : d.ok = true ∧ SeqAt.shaped d.py = true := by
  simp only [D.fine, Bool.and_eq_true, decide_eq_true_eq] at h
  have l := D.lay d h.1
  refine ⟨h.1, ?_⟩
  unfold SeqAt.shaped
  rw [l.1, Bool.true_and]
  exact decide_eq_true (by omega)
noncomputable def D.eq (a b : D) : Bool := PyData.eqv a.py b.py
noncomputable def D.inn (a : D) (l : List D) : Bool := (D.pys l).any fun y => PyData.eqv y a.py

theorem Room.units {A : Around} {n : Nat} (h : Room A n) : A.units + 100 < cLine := by
  have := h.2.2
  show A.units + 100 < 9900
  omega

section
variable {c : Cx} {ρ : Rho} {Q : D → Prop} {x : Str} {d : D} {pos : Pos}
theorem O_eq {a b : D} (ha : a.fine = true) (hb : b.fine = true) (h : Q (.bool (a.eq b))) : OpD c (compareOp .Eq) a b Q := by
  intro fz s v u Φ E hi hs hb' R ra rb k
  have fa := D.fine_shaped ha
  have fb := D.fine_shaped hb
  obtain ⟨as, r1⟩ := ra.reads hi fa.1
  obtain ⟨bs, r2⟩ := rb.reads hi fb.1
  exact eq_dataH r1 r2 fa.2 fb.2 (by have := R.units; omega) (k _ _ _ _ (Step.refl hi hs) (by simp [Rd, D.eq]) h)
theorem O_ne {a b : D} (ha : a.fine = true) (hb : b.fine = true) (h : Q (.bool (!a.eq b))) : OpD c (compareOp .NotEq) a b Q := by
  intro fz s v u Φ E hi hs hb' R ra rb k
  have fa := D.fine_shaped ha
  have fb := D.fine_shaped hb
  obtain ⟨as, r1⟩ := ra.reads hi fa.1
  obtain ⟨bs, r2⟩ := rb.reads hi fb.1
  exact ne_dataH r1 r2 fa.2 fb.2 (by have := R.units; omega) (k _ _ _ _ (Step.refl hi hs) (by simp [Rd, D.eq]) h)
theorem O_in_tup {a : D} {l : List D} (ha : a.fine = true) (hb : (D.tup l).fine = true) (h : Q (.bool (a.inn l))) : OpD c (compareOp .In) a (.tup l) Q := by
  intro fz s v u Φ E hi hs hb' R ra rb k
  have fa := D.fine_shaped ha
  have fb := D.fine_shaped hb
  obtain ⟨as, r1⟩ := ra.reads hi fa.1
  obtain ⟨bs, r2⟩ := rb.reads hi fb.1
  simp only [D.fine, Bool.and_eq_true, decide_eq_true_eq] at ha hb
  have l1 := D.lay a ha.1
  have l2 := D.lays l (by simpa only [D.ok] using hb.1)
  rw [D.py] at r2
  refine SeqAt.in_tuple_reads r2 r1 l2.1 l1.1 ?_ (k _ _ _ _ (Step.refl hi hs) (by simp [Rd, D.inn]) h)
  have := R.units
  have := Nat.min_le_right (PyData.depthAll (D.pys l)) a.py.depth
  omega
theorem O_in_lst {a : D} {l : List D} (ha : a.fine = true) (hb : (D.lst l).fine = true) (h : Q (.bool (a.inn l))) : OpD c (compareOp .In) a (.lst l) Q := by
  intro fz s v u Φ E hi hs hb' R ra rb k
  have fa := D.fine_shaped ha
  have fb := D.fine_shaped hb
  obtain ⟨as, r1⟩ := ra.reads hi fa.1
  obtain ⟨bs, r2⟩ := rb.reads hi fb.1
  simp only [D.fine, Bool.and_eq_true, decide_eq_true_eq] at ha hb
  have l1 := D.lay a ha.1
  have l2 := D.lays l (by simpa only [D.ok] using hb.1)
  rw [D.py] at r2
  refine SeqAt.in_list_reads r2 r1 l2.1 l1.1 ?_ (k _ _ _ _ (Step.refl hi hs) (by simp [Rd, D.inn]) h)
  have := R.units
  have := Nat.min_le_right (PyData.depthAll (D.pys l)) a.py.depth
  omega

theorem O_lt {a b : Int} (h : Q (.bool (decide (a < b)))) : OpD c (compareOp .Lt) (.int a) (.int b) Q := by
  intro fz s v u Φ E hi hs hb' R ra rb k
  simp only [Rd] at ra rb
  obtain ⟨t, rfl⟩ := ra; obtain ⟨t', rfl⟩ := rb
  exact lt_int (k _ _ _ _ (Step.refl hi hs) (by simp [Rd]) h)
theorem O_le {a b : Int} (h : Q (.bool (decide (a ≤ b)))) : OpD c (compareOp .LtE) (.int a) (.int b) Q := by
  intro fz s v u Φ E hi hs hb' R ra rb k
  simp only [Rd] at ra rb
  obtain ⟨t, rfl⟩ := ra; obtain ⟨t', rfl⟩ := rb
  exact le_int (k _ _ _ _ (Step.refl hi hs) (by simp [Rd]) h)
theorem O_gt {a b : Int} (h : Q (.bool (decide (b < a)))) : OpD c (compareOp .Gt) (.int a) (.int b) Q := by
  intro fz s v u Φ E hi hs hb' R ra rb k
  simp only [Rd] at ra rb
  obtain ⟨t, rfl⟩ := ra; obtain ⟨t', rfl⟩ := rb
  exact gt_int (k _ _ _ _ (Step.refl hi hs) (by simp [Rd]) h)
theorem O_ge {a b : Int} (h : Q (.bool (decide (b ≤ a)))) : OpD c (compareOp .GtE) (.int a) (.int b) Q := by
  intro fz s v u Φ E hi hs hb' R ra rb k
  simp only [Rd] at ra rb
  obtain ⟨t, rfl⟩ := ra; obtain ⟨t', rfl⟩ := rb
  exact ge_int (k _ _ _ _ (Step.refl hi hs) (by simp [Rd]) h)
theorem O_le_str {a b : Str} (h : Q (.bool (!decide (b.cps.toList < a.cps.toList)))) : OpD c (compareOp .LtE) (.str a) (.str b) Q := by
  intro fz s v u Φ E hi hs hb' R ra rb k
  simp only [Rd] at ra rb
  obtain ⟨t, rfl⟩ := ra; obtain ⟨t', rfl⟩ := rb
  exact P.le_str (k _ _ _ _ (Step.refl hi hs) (by simp [Rd]) h)
theorem O_notin_str {a b : Str} (h : Q (.bool ((Builtin.Str.occurrences b a 0 b.length 1).isEmpty))) : OpD c (compareOp .NotIn) (.str a) (.str b) Q := by
  intro fz s v u Φ E hi hs hb' R ra rb k
  simp only [Rd] at ra rb
  obtain ⟨t, rfl⟩ := ra; obtain ⟨t', rfl⟩ := rb
  exact notIn_str (k _ _ _ _ (Step.refl hi hs) (by simp [Rd]) h)
theorem O_add {a b : Int} (h : Q (.int (a + b))) : OpD c (binaryOp .Add) (.int a) (.int b) Q := by
  intro fz s v u Φ E hi hs hb' R ra rb k
  simp only [Rd] at ra rb
  obtain ⟨t, rfl⟩ := ra; obtain ⟨t', rfl⟩ := rb
  exact add_int (k _ _ _ _ (Step.same hi hs) (by simp [Rd]) h)
theorem O_sub {a b : Int} (h : Q (.int (a - b))) : OpD c (binaryOp .Sub) (.int a) (.int b) Q := by
  intro fz s v u Φ E hi hs hb' R ra rb k
  simp only [Rd] at ra rb
  obtain ⟨t, rfl⟩ := ra; obtain ⟨t', rfl⟩ := rb
  exact sub_int (k _ _ _ _ (Step.same hi hs) (by simp [Rd]) h)
theorem O_mul {a b : Int} (hk : IntMulOk a b) (h : Q (.int (a * b))) : OpD c (binaryOp .Mult) (.int a) (.int b) Q := by
  intro fz s v u Φ E hi hs hb' R ra rb k
  simp only [Rd] at ra rb
  obtain ⟨t, rfl⟩ := ra; obtain ⟨t', rfl⟩ := rb
  exact mul_int (k _ _ _ _ (Step.same hi hs) (by simp [Rd]) h) hk
theorem O_mod {a b : Int} (h0 : b ≠ 0) (h : Q (.int (a.fmod b))) : OpD c (binaryOp .Mod) (.int a) (.int b) Q := by
  intro fz s v u Φ E hi hs hb' R ra rb k
  simp only [Rd] at ra rb
  obtain ⟨t, rfl⟩ := ra; obtain ⟨t', rfl⟩ := rb
  exact mod_int' h0 (k _ _ _ _ (Step.same hi hs) (by simp [Rd]) h)
theorem O_div {a b : Int} (h0 : b ≠ 0) (hp : Builtin.divisionGoesByPylong a b = false) (h : Q (.int (a.fdiv b))) : OpD c (binaryOp .FloorDiv) (.int a) (.int b) Q := by
  intro fz s v u Φ E hi hs hb' R ra rb k
  simp only [Rd] at ra rb
  obtain ⟨t, rfl⟩ := ra; obtain ⟨t', rfl⟩ := rb
  exact floordiv_int h0 (k _ _ _ _ (Step.same hi hs) (by simp [Rd]) h) (.inl hp)
theorem O_mulstr {a : Str} {n : Int} (hk : MulOk a n) (h : Q (.str (Txt.mul a n))) : OpD c (binaryOp .Mult) (.str a) (.int n) Q := by
  intro fz s v u Φ E hi hs hb' R ra rb k
  simp only [Rd] at ra rb
  obtain ⟨t, rfl⟩ := ra; obtain ⟨t', rfl⟩ := rb
  exact SB.mul hk fun t' kk => (k _ _ _ _ (Step.same hi hs) (by simp [Rd]) h)
theorem O_addstr {a b : Str} (hk : a.length + b.length ≤ sizeLine) (h : Q (.str (a ++ b))) : OpD c (binaryOp .Add) (.str a) (.str b) Q := by
  intro fz s v u Φ E hi hs hb' R ra rb k
  simp only [Rd] at ra rb
  obtain ⟨t, rfl⟩ := ra; obtain ⟨t', rfl⟩ := rb
  exact PyProof.Rows.add_str (fun t' kk => (k _ _ _ _ (Step.same hi hs) (by simp [Rd]) h)) hk

theorem O_tup_item {value slice : Expr} {l : List D} {k : Int} {j : Nat} (hs : ∀ t k u, subscripted slice false (.ref t) (.int k u) = operate [.ref t, .int k u] (getItem (.ref t) (.int k u)))
    (hlo : -2 ^ 63 ≤ k) (hhi : k < 2 ^ 63) (hj : seqIndex? k l.length = some j) (hx : l[j]? = some d) (h : Q d) : OpD c (subscriptTail value slice) (.tup l) (.int k) Q := by
  intro fz s v u Φ E hi hs' hb' R ra rb kk
  simp only [Rd] at ra rb
  obtain ⟨a, o, vs, rfl, ho, ⟨hc, _, n, hd⟩, hl⟩ := ra; obtain ⟨t', rfl⟩ := rb
  obtain ⟨v, hv, rv⟩ := hl.get hx
  exact item_tupleT ⟨o, hi _ _ ho, hc, n, hd⟩ hlo hhi (by rw [hl.length]; exact hj) hv (kk _ _ _ _ (Step.refl hi hs') rv h) (hs _ _ _)
theorem O_lst_item {value slice : Expr} {l : List D} {k : Int} (hs : ∀ t k u, subscripted slice false (.ref t) (.int k u) = operate [.ref t, .int k u] (getItem (.ref t) (.int k u)))
    (hlo : 0 ≤ k) (hhi : k < 2 ^ 63) (hx : l[k.toNat]? = some d) (h : Q d) : OpD c (subscriptTail value slice) (.lst l) (.int k) Q := by
  intro fz s v u Φ E hi hs' hb' R ra rb kk
  simp only [Rd] at ra rb
  obtain ⟨a, o, vs, rfl, ho, ⟨hc, _, n, hd⟩, hl⟩ := ra; obtain ⟨t', rfl⟩ := rb
  obtain ⟨v, hv, rv⟩ := hl.get hx
  have hL : s.heap.IsList a vs.toArray := ⟨o, hi _ _ ho, hc, n, hd⟩
  exact tail_any hL.typeIs slot_list_getitem.lookup (wpAny_getItem_list hL hlo hhi (by simpa using hv) (kk _ _ _ _ (Step.refl hi hs') rv h)) (hs _ _ _)
theorem O_lst_neg {value slice : Expr} {l : List D} {k : Int} (hs : ∀ t k u, subscripted slice false (.ref t) (.int k u) = operate [.ref t, .int k u] (getItem (.ref t) (.int k u)))
    (hlo : k < 0) (hl0 : -(l.length : Int) ≤ k) (hl1 : -2 ^ 63 ≤ k) (hx : l[(k + l.length).toNat]? = some d) (h : Q d) : OpD c (subscriptTail value slice) (.lst l) (.int k) Q := by
  intro fz s v u Φ E hi hs' hb' R ra rb kk
  simp only [Rd] at ra rb
  obtain ⟨a, o, vs, rfl, ho, ⟨hc, _, n, hd⟩, hl⟩ := ra; obtain ⟨t', rfl⟩ := rb
  obtain ⟨v, hv, rv⟩ := hl.get hx
  have hL : s.heap.IsList a vs.toArray := ⟨o, hi _ _ ho, hc, n, hd⟩
  exact tail_any hL.typeIs slot_list_getitem.lookup (wpAny_getItem_list_neg hL hlo (by rw [List.size_toArray, hl.length]; exact hl0) hl1 (by rw [List.size_toArray, hl.length]; simpa using hv) (kk _ _ _ _ (Step.refl hi hs') rv h)) (hs _ _ _)
theorem O_str_item {value slice : Expr} {x : Str} {k : Int} {q : Nat} (hs : ∀ x t k u, subscripted slice false (.str x t) (.int k u) = operate [.str x t, .int k u] (getItem (.str x t) (.int k u)))
    (hr : (decide (k < -2 ^ 63) || decide (k ≥ 2 ^ 63)) = false) (hc : ((seqIndex? k x.length).bind fun y => x.cps[y]?) = some q) (h : Q (.str ⟨#[q]⟩)) : OpD c (subscriptTail value slice) (.str x) (.int k) Q := by
  intro fz s v u Φ E hi hs' hb' R ra rb kk
  simp only [Rd] at ra rb
  obtain ⟨t, rfl⟩ := ra; obtain ⟨t', rfl⟩ := rb
  exact tail_any (typeIs_str s x t) F.slot_str_getitem.lookup (getItem_str hr hc (kk _ _ _ _ (Step.same hi hs') (by simp [Rd]) h)) (hs _ _ _ _)
end

-- F4

theorem RdL.fine {fz : Fz} {sr : Option Addr} : True := trivial

section
variable {c : Cx} {ρ : Rho} {oc : Oc} {x : Str} {d : D} {pos : Pos}

/-- the locals' object is turned, nothing else -/
theorem SR.setL {fz : Fz} {s : Shared} {v : Value} {m : Str → Option Value} {h' : Heap} {t : Nat} (S : SR c oc fz ρ s) (hx : c.env.kindOf x = some .local) (hr : Rd fz c.sr d v)
    (ho : ∀ p, oc = some p → p.1 ≠ x) (hm : s.heap.Ns c.env.locals m) (hm2 : ∀ x d, ρ x = some d → c.env.kindOf x = some .local → ∃ v, m x = some v ∧ Rd fz c.sr d v) (hown : OwnAt c fz s.heap m oc)
    (hn : h'.Ns c.env.locals fun y => if y = x then some v else m y) (hs : Heap.SameBut c.env.locals s.heap h') : SR c oc fz (ρ.set x d) { s with heap := h', toks := t } := by
  have same : ∀ b, b ≠ c.env.locals → ∀ o, s.heap.get? b = some o → h'.get? b = some o := fun b hb o e => (hs.2 b hb).trans e
  have X := S.step
  refine ⟨⟨X.sub, fun a o e => ?_, fun b o n e => ?_, X.fresh, fun a e => ?_, ?_⟩, S.room, S.bs, S.srcF, S.src0, ⟨_, hn, fun y d' e k => ?_, ?_⟩, fun y d' e k => ?_, S.locF, S.locS, S.locN, fun y ca e => ?_, S.cellA, fun p hp => ?_, S.fun_, S.glob, S.bltn⟩
  · exact same a (fun q => S.locF o (q ▸ e)) o (X.inn a o e)
  · refine same b (fun q => ?_) o (X.kept b o n e)
    rw [q, S.locN] at e; cases e
  · obtain ⟨o, z, y, t, u, ho', r⟩ := X.src a e
    exact ⟨o, z, y, t, u, same a (fun q => S.locS (q ▸ e)) o ho', r⟩
  · rw [X.shape]
  · by_cases q : y = x
    · subst q
      simp only [Rho.set, if_true] at e
      cases e
      exact ⟨v, by simp, hr⟩
    · simp only [Rho.set, if_neg q] at e
      obtain ⟨v', h1, h2⟩ := hm2 y d' e k
      exact ⟨v', by simp [q, h1], h2⟩
  · cases oc with
    | none => trivial
    | some p =>
      obtain ⟨z, l⟩ := p
      have hz : z ≠ x := ho _ rfl
      obtain ⟨a, o, vs, h1, h2, h3, h4, h5, h6, h7, r⟩ := hown
      exact ⟨a, o, vs, by simp [hz, h1], h2, same a h7 o h3, h4, h5, h6, h7, r⟩
  · have hyx : y ≠ x := fun q => by rw [q, hx] at k; cases k
    simp only [Rho.set, if_neg hyx] at e
    obtain ⟨ca, v', h1, h2, h3⟩ := S.cells y d' e k
    exact ⟨ca, v', h1, IsCell.keeps' h2 (same ca (S.cellI _ _ h1).2.1), h3⟩
  · obtain ⟨⟨v', h1⟩, h2, r⟩ := S.cellI y ca e
    exact ⟨⟨v', IsCell.keeps' h1 (same ca h2)⟩, h2, r⟩
  · obtain ⟨h1, h2, h3, h4, r⟩ := S.rsI p hp
    exact ⟨same _ h4 _ h1, h2, h3, h4, r⟩

theorem store_local {fz : Fz} {s : Shared} {v : Value} {Φ : Unit → Shared → Prop} {E : Value → Shared → Prop} (S : SR c oc fz ρ s) (hx : c.env.kindOf x = some .local) (hr : Rd fz c.sr d v)
    (ho : ∀ p, oc = some p → p.1 ≠ x) (k : ∀ s', SR c oc fz (ρ.set x d) s' → Φ () s') : wpAny c.M c.A (storeName c.env x v) Φ E s := by
  obtain ⟨m, hm, hm2, hown⟩ := S.ns
  refine wpAny_storeName_local hx hm (fun h' hn hs => k _ (S.setL hx hr ho hm hm2 hown hn hs)) ?_
  rw [S.fun_]; rfl

theorem store_cell {fz : Fz} {s : Shared} {v : Value} {Φ : Unit → Shared → Prop} {E : Value → Shared → Prop} (S : SR c oc fz ρ s) (hx : c.env.kindOf x = some .cell) (hr : Rd fz c.sr d v) (hco : c.cellsOwn = true)
    (hl : (c.env.cells.lookup x).isSome = true)
    (k : ∀ s', SR c oc fz (ρ.set x d) s' → Φ () s') : wpAny c.M c.A (storeName c.env x v) Φ E s := by
  obtain ⟨ca, hl⟩ := Option.isSome_iff_exists.mp hl
  obtain ⟨⟨v0, hv0⟩, hcl, hcs, hcf, hcn⟩ := S.cellI x ca hl
  refine wpAny_storeName_cell S.fun_ hx hl hv0 fun h' hn hs => k _ ?_
  have same : ∀ b, b ≠ ca → ∀ o, s.heap.get? b = some o → h'.get? b = some o := fun b hb o e => (hs.2 b hb).trans e
  have X := S.step
  obtain ⟨m, hm, hm2, hown⟩ := S.ns
  refine ⟨⟨X.sub, fun a o e => ?_, fun b o n e => ?_, X.fresh, fun a e => ?_, ?_⟩, S.room, S.bs, S.srcF, S.src0, ⟨m, ?_, fun y d' e k => ?_, ?_⟩, fun y d' e k => ?_, S.locF, S.locS, S.locN, fun y cb e => ?_, S.cellA, fun p hp => ?_, S.fun_, S.glob, S.bltn⟩
  · exact same a (fun q => hcf o (q ▸ e)) o (X.inn a o e)
  · refine same b (fun q => ?_) o (X.kept b o n e)
    rw [q, hcn hco] at e; cases e
  · obtain ⟨o, z, y, t, u, ho', r⟩ := X.src a e
    exact ⟨o, z, y, t, u, same a (fun q => hcs (q ▸ e)) o ho', r⟩
  · rw [X.shape]
  · exact hm.sameBut hs (Ne.symm hcl)
  · have hyx : y ≠ x := fun q => by rw [q, hx] at k; cases k
    simp only [Rho.set, if_neg hyx] at e
    exact hm2 y d' e k
  · cases oc with
    | none => trivial
    | some p =>
      obtain ⟨z, l⟩ := p
      obtain ⟨a, o, vs, h1, h2, h3, h4, h5, h6, h7, h8, h9, h10, h11⟩ := hown
      exact ⟨a, o, vs, h1, h2, same a (h10 _ _ hl) o h3, h4, h5, h6, h7, h8, h9, h10, h11⟩
  · by_cases q : y = x
    · subst q
      simp only [Rho.set, if_true] at e
      cases e
      exact ⟨ca, v, hl, hn, hr⟩
    · simp only [Rho.set, if_neg q] at e
      obtain ⟨cb, v', h1, h2, h3⟩ := S.cells y d' e k
      refine ⟨cb, v', h1, IsCell.keeps' h2 (same cb fun z => q (S.cellA _ _ _ h1 (z ▸ hl))), h3⟩
  · obtain ⟨⟨v', h1⟩, h2, r⟩ := S.cellI y cb e
    by_cases q : cb = ca
    · subst q; exact ⟨⟨_, hn⟩, h2, r⟩
    · exact ⟨⟨v', IsCell.keeps' h1 (same cb q)⟩, h2, r⟩
  · obtain ⟨h1, h2, h3, h4, h5, h6⟩ := S.rsI p hp
    exact ⟨same _ (h6 _ _ hl) _ h1, h2, h3, h4, h5, h6⟩

/-- a target takes a datum -/
noncomputable def SemA (c : Cx) (target : Expr) (d : D) (ρ : Rho) (oc : Oc) (Qn : Rho → Prop) : Prop :=
  ∀ fz s v (Φ : Unit → Shared → Prop) (E : Value → Shared → Prop), SR c oc fz ρ s → Rd fz c.sr d v → (∀ ρ' s', SR c oc fz ρ' s' → Qn ρ' → Φ () s') → wpAny c.M c.A (assign target c.env v) Φ E s
noncomputable def SemAs (c : Cx) (ts : List Expr) (ds : List D) (ρ : Rho) (oc : Oc) (Qn : Rho → Prop) : Prop :=
  ∀ fz s vs (Φ : Unit → Shared → Prop) (E : Value → Shared → Prop), SR c oc fz ρ s → RdL fz c.sr ds vs → (∀ ρ' s', SR c oc fz ρ' s' → Qn ρ' → Φ () s') → wpAny c.M c.A (assignInOrder ((assignEach ts c.env).map (·.2)) vs) Φ E s
noncomputable def SemN (c : Cx) (x : Str) (d : D) (ρ : Rho) (oc : Oc) (Qn : Rho → Prop) : Prop :=
  ∀ fz s v (Φ : Unit → Shared → Prop) (E : Value → Shared → Prop), SR c oc fz ρ s → Rd fz c.sr d v → (∀ ρ' s', SR c oc fz ρ' s' → Qn ρ' → Φ () s') → wpAny c.M c.A (storeName c.env x v) Φ E s
theorem N_local {Qn : Rho → Prop} (hx : c.env.kindOf x = some .local) (ho : ∀ p, oc = some p → p.1 ≠ x) (h : Qn (ρ.set x d)) : SemN c x d ρ oc Qn :=
  fun fz s v Φ E S r k => store_local S hx r ho fun s' S' => k _ _ S' h
theorem N_cell {Qn : Rho → Prop} (hx : c.env.kindOf x = some .cell) (hco : c.cellsOwn = true) (hl : (c.env.cells.lookup x).isSome = true) (h : Qn (ρ.set x d)) : SemN c x d ρ oc Qn :=
  fun fz s v Φ E S r k => store_cell S hx r hco hl fun s' S' => k _ _ S' h
theorem A_local {Qn : Rho → Prop} (hx : c.env.kindOf x = some .local) (ho : ∀ p, oc = some p → p.1 ≠ x) (h : Qn (ρ.set x d)) : SemA c (.Name x pos) d ρ oc Qn :=
  fun fz s v Φ E S r k => wpAny_assign_Name (store_local S hx r ho fun s' S' => k _ _ S' h)
theorem A_cell {Qn : Rho → Prop} (hx : c.env.kindOf x = some .cell) (hco : c.cellsOwn = true) (hl : (c.env.cells.lookup x).isSome = true) (h : Qn (ρ.set x d)) : SemA c (.Name x pos) d ρ oc Qn :=
  fun fz s v Φ E S r k => wpAny_assign_Name (store_cell S hx r hco hl fun s' S' => k _ _ S' h)
theorem As_nil {Qn : Rho → Prop} (h : Qn ρ) : SemAs c [] [] ρ oc Qn := fun fz s vs Φ E S r k => by
  simp only [RdL] at r; subst r
  exact wpAny_assignInOrder_none (k _ _ S h)
theorem As_cons {Qn : Rho → Prop} {t : Expr} {ts : List Expr} {ds : List D} (hst : assignEach (t :: ts) c.env = (false, assign t c.env) :: assignEach ts c.env) (h : SemA c t d ρ oc fun ρ' => SemAs c ts ds ρ' oc Qn) : SemAs c (t :: ts) (d :: ds) ρ oc Qn :=
  fun fz s vs Φ E S r k => by
    simp only [RdL] at r
    obtain ⟨v, us, rfl, r1, r2⟩ := r
    rw [hst]
    exact wpAny_assignInOrder_more (h fz s v _ E S r1 fun ρ' s' S' q => q fz s' us Φ E S' r2 k)
theorem A_tuple {Qn : Rho → Prop} {ts : List Expr} {k : Nat} {ds : List D} (hl : (assignEach ts c.env).length = ds.length) (hf : (assignEach ts c.env).findIdx? (·.1) = none) (h : SemAs c ts ds ρ oc Qn) : SemA c (.Tuple ts k pos) (.tup ds) ρ oc Qn := by
  intro fz s v Φ E S r kk
  simp only [Rd] at r
  obtain ⟨a, o, vs, rfl, ho, ⟨hc, _, n, hd⟩, hr⟩ := r
  refine wpAny_assign_Tuple S.room.1 ⟨o, S.inn _ _ ho, hc, n, hd⟩ (by rw [List.size_toArray, hr.length]; exact hl) hf fun h' hk => ?_
  have st : Step c.sr fz s fz { s with heap := h', toks := s.toks } := Step.keep S.step.src S.inn fun b o e => hk b o (Nat.ne_of_lt (Heap.lt_size e)) e
  exact h fz _ vs Φ E (S.on st) (by simpa using hr) kk

theorem B_nil {Qn : Rho → Oc → Prop} {Qr : D → Prop} (h : Qn ρ oc) : SemB c [] ρ oc Qn Qr := fun fz s Φ E S k1 k2 => wpAny_execs_nil (k1 _ _ _ _ (fun _ _ h => h) S h)
theorem B_cons {st : Stmt} {rest : List Stmt} {Qn : Rho → Oc → Prop} {Qr : D → Prop} (h : SemS c st ρ oc (fun ρ' oc' => SemB c rest ρ' oc' Qn Qr) Qr) : SemB c (st :: rest) ρ oc Qn Qr :=
  fun fz s Φ E S k1 k2 => wpAny_execs_cons (h fz s _ E S (fun fz₁ ρ₁ oc₁ s₁ sb S₁ q => q fz₁ s₁ Φ E S₁ (fun fz₂ ρ₂ oc₂ s₂ sb₂ => k1 fz₂ ρ₂ oc₂ s₂ fun a o z => sb₂ a o (sb a o z)) k2) fun fz₁ v d s₁ st r q => k2 _ _ _ _ st r q)
theorem S_return {e : Expr} {Qn : Rho → Oc → Prop} {Qr : D → Prop} (h : SemE c e ρ Qr) : SemS c (.Return (some e) pos) ρ oc Qn Qr :=
  fun fz s Φ E S k1 k2 => wpAny_Return_some (h oc fz s _ E S fun fz₁ v d s₁ st r q => k2 _ _ _ _ (S.step.trans st) r q)
theorem S_if {t : Expr} {b o : List Stmt} {Qn : Rho → Oc → Prop} {Qr : D → Prop} (h : SemC c t ρ fun x => (x = true → SemB c b ρ oc Qn Qr) ∧ (x = false → SemB c o ρ oc Qn Qr)) : SemS c (.If t b o pos) ρ oc Qn Qr := by
  intro fz s Φ E S k1 k2
  refine wpAny_If (h oc fz s _ E S fun fz₁ x s₁ st q => ?_)
  cases x with
  | true => exact q.1 rfl fz₁ s₁ Φ E (S.on st) (fun fz₂ ρ₂ oc₂ s₂ sb₂ => k1 fz₂ ρ₂ oc₂ s₂ fun a o z => sb₂ a o (st.sub a o z)) k2
  | false => exact q.2 rfl fz₁ s₁ Φ E (S.on st) (fun fz₂ ρ₂ oc₂ s₂ sb₂ => k1 fz₂ ρ₂ oc₂ s₂ fun a o z => sb₂ a o (st.sub a o z)) k2
theorem S_assign {e : Expr} {p : Pos} {Qn : Rho → Oc → Prop} {Qr : D → Prop} (hsw : swapsWith e (some (.Name x p)) pos.line c.env = pure false) (h : SemE c e ρ fun d => SemN c x d ρ oc fun ρ' => Qn ρ' oc) : SemS c (.Assign [.Name x p] e pos) ρ oc Qn Qr := by
  intro fz s Φ E S k1 k2
  refine wpAny_Assign_Name (h oc fz s _ E S fun fz₁ v d s₁ st r q => ?_) hsw
  exact q fz₁ s₁ v (fun _ s' => Φ .next s') E (S.on st) r fun ρ' s' S' q' => k1 _ _ _ _ st.sub S' q'
theorem S_assignT {e : Expr} {ts : List Expr} {k : Nat} {p : Pos} {Qn : Rho → Oc → Prop} {Qr : D → Prop} (h1 : swapsWithSole [.Tuple ts k p] e pos.line c.env = pure false) (h2 : swappedStores [.Tuple ts k p] e c.env = pure none)
    (h : SemE c e ρ fun d => SemA c (.Tuple ts k p) d ρ oc fun ρ' => Qn ρ' oc) : SemS c (.Assign [.Tuple ts k p] e pos) ρ oc Qn Qr := by
  intro fz s Φ E S k1 k2
  refine Assign_Tuple (h oc fz s _ E S fun fz₁ v d s₁ st r q => ?_) h1 h2
  exact q fz₁ s₁ v (fun _ s' => Φ .next s') E (S.on st) r fun ρ' s' S' q' => k1 _ _ _ _ st.sub S' q'
end

/-- a def's contract: its arguments' data to what it may give -/
noncomputable def Fn (prog : Program) (w : World) (base : Heap) (a : Addr) (n : Nat) (sp : List D → (D → Prop) → Prop) : Prop :=
  ∀ (A : Around) (sr : Option Addr) (fz : Fz) (s : Shared) (ds : List D) (vs : List Value) (Q : D → Prop) (Φ : Value → Shared → Prop) (E : Value → Shared → Prop), Room A n → (∀ a o, base.get? a = some o → fz a o) → (∀ a o, fz a o → s.heap.get? a = some o) →
    SrcIn sr s.heap → (∀ a, sr = some a → ∀ o, ¬ fz a o) → RdL fz sr ds vs → sp ds Q → (∀ fz' v d s', Step sr fz s fz' s' → Rd fz' sr d v → Q d → Φ v s') → wpAny (model prog w) A (call (.ref a) vs) Φ E s

structure FnAt (prog : Program) (w : World) (base : Heap) (mg : Str → Option Value) (f : Str) (n : Nat) (sp : List D → (D → Prop) → Prop) : Prop where
  at_ : ∃ a o fd, mg f = some (.ref a) ∧ base.get? a = some o ∧ o.data = .func fd ∧ Fn prog w base a n sp

theorem Room.less {A : Around} {n k : Nat} (h : Room A n) (hk : k ≤ n) : Room A k := ⟨h.1, by have := h.2.1; omega, by have := h.2.2; omega⟩

section
variable {c : Cx} {ρ : Rho} {oc : Oc} {Q : D → Prop} {x : Str} {d : D} {pos : Pos} {mg mb : Str → Option Value}
theorem E_call {f : Str} {p : Pos} {e : Expr} {es : List Expr} {n : Nat} {sp : List D → (D → Prop) → Prop} (hx : c.env.kindOf f = some .globalImplicit) (hd : (f == ("__debug__" : Str)) = false) (G : c.base.Ns mainGlobals mg)
    (F : FnAt c.prog c.w c.base mg f n sp) (hn : n ≤ c.n) (hst : starEach (e :: es) c.env = (false, eval e c.env) :: starEach es c.env) (h : SemL c pos (e :: es) ρ fun ds => sp ds Q) : SemE c (.Call (.Name f p) (e :: es) [] pos) ρ Q := by
  intro oc fz s Φ E S k
  obtain ⟨a, o, fd, hm, hb, hdt, F⟩ := F.at_
  refine wpAny_Call_NameR (Name_function_global S.fun_ hx (loadGlobal_global (mg := mg) (by rw [S.glob]; exact G.keeps S.based) hm ?_) hd)
  refine callWith_def hdt (h oc fz s _ E S fun fz₁ vs ds s₁ st r _ q => ⟨?_, ?_⟩) hst
  · exact (S.on st).based _ _ hb
  · have S₁ := S.on st
    exact F c.A c.sr fz₁ s₁ ds vs Q Φ E (S₁.room.less hn) S₁.bsF S₁.inn S₁.step.src S₁.srcN r q fun fz₂ v d s₂ st₂ r₂ q₂ => k _ _ _ _ (st.trans st₂) r₂ q₂
theorem E_call0 {f : Str} {p : Pos} {n : Nat} {sp : List D → (D → Prop) → Prop} (hx : c.env.kindOf f = some .globalImplicit) (hd : (f == ("__debug__" : Str)) = false) (G : c.base.Ns mainGlobals mg)
    (F : FnAt c.prog c.w c.base mg f n sp) (hn : n ≤ c.n) (h : sp [] Q) : SemE c (.Call (.Name f p) [] [] pos) ρ Q := by
  intro oc fz s Φ E S k
  obtain ⟨a, o, fd, hm, hb, hdt, F⟩ := F.at_
  refine wpAny_Call_NameR (Name_function_global S.fun_ hx (loadGlobal_global (mg := mg) (by rw [S.glob]; exact G.keeps S.based) hm ?_) hd)
  refine callWith_function (o := o) (fd := fd) (evalArgs_nil3 ⟨⟨S.based _ _ hb, hdt⟩, ?_⟩)
  exact F c.A c.sr fz s [] [] Q Φ E (S.room.less hn) S.bsF S.inn S.step.src S.srcN (by simp [RdL]) h k

/-- a call of a built-in on data -/
noncomputable def OpL (c : Cx) (t : List Value → Sem Value) (ds : List D) (Q : D → Prop) : Prop :=
  ∀ fz s vs (Φ : Value → Shared → Prop) (E : Value → Shared → Prop), (∀ a o, fz a o → s.heap.get? a = some o) → SrcIn c.sr s.heap → (∀ x o, c.base.get? x = some o → fz x o) → Room c.A c.n →
    RdL fz c.sr ds vs → (∀ fz' v d s', Step c.sr fz s fz' s' → Rd fz' c.sr d v → Q d → Φ v s') → wpAny c.M c.A (t vs) Φ E s
theorem builtin_name {f : Str} {p : Pos} {v : Value} {fz : Fz} {s : Shared} {Φ : Value → Shared → Prop} {E : Value → Shared → Prop} (S : SR c oc fz ρ s) (hx : c.env.kindOf f = some .globalImplicit) (hd : (f == ("__debug__" : Str)) = false) (G : c.base.Ns mainGlobals mg) (B : c.base.Ns builtinsNs mb)
    (hm : mg f = none) (hb : mb f = some v) (k : Φ v s) : wpAny c.M c.A (eval (.Name f p) c.env) Φ E s :=
  Name_function_global S.fun_ hx (loadGlobal_builtin (mg := mg) (mb := mb) (by rw [S.glob]; exact G.keeps S.based) hm (by rw [S.bltn]; exact B.keeps S.based) hb k) hd
theorem E_builtin {f : Str} {id : String} {p : Pos} {e : Expr} {es : List Expr} (hx : c.env.kindOf f = some .globalImplicit) (hd : (f == ("__debug__" : Str)) = false) (G : c.base.Ns mainGlobals mg) (B : c.base.Ns builtinsNs mb)
    (hm : mg f = none) (hb : mb f = some (.builtin id)) (hst : starEach (e :: es) c.env = (false, eval e c.env) :: starEach es c.env) (hpl : ((backTo pos (starEach es c.env)).any fun x => x.1) = false)
    (h : SemL c pos (e :: es) ρ fun ds => OpL c (fun vs => call (.builtin id) vs) ds Q) : SemE c (.Call (.Name f p) (e :: es) [] pos) ρ Q := by
  intro oc fz s Φ E S k
  refine wpAny_Call_NameR (builtin_name S hx hd G B hm hb ?_)
  refine PyProof.Rows.callWith_builtin1 (h oc fz s _ E S fun fz₁ vs ds s₁ st r _ q => ?_) hst hpl
  have S₁ := S.on st
  exact q fz₁ s₁ vs Φ E S₁.inn S₁.step.src S₁.bsF S₁.room r fun fz₂ v d s₂ st₂ r₂ q₂ => k _ _ _ _ (st.trans st₂) r₂ q₂
theorem E_type {f : Str} {T : String} {p : Pos} {e : Expr} {es : List Expr} (hx : c.env.kindOf f = some .globalImplicit) (hd : (f == ("__debug__" : Str)) = false) (G : c.base.Ns mainGlobals mg) (B : c.base.Ns builtinsNs mb)
    (hm : mg f = none) (hb : mb f = some (.type T)) (hst : starEach (e :: es) c.env = (false, eval e c.env) :: starEach es c.env) (hpl : ((backTo pos (starEach es c.env)).any fun x => x.1) = false)
    (h : SemL c pos (e :: es) ρ fun ds => OpL c (fun vs => call (.type T) vs) ds Q) : SemE c (.Call (.Name f p) (e :: es) [] pos) ρ Q := by
  intro oc fz s Φ E S k
  refine wpAny_Call_NameR (builtin_name S hx hd G B hm hb ?_)
  refine PyProof.Rows.callWith_type1 (h oc fz s _ E S fun fz₁ vs ds s₁ st r _ q => ?_) hst hpl
  have S₁ := S.on st
  exact q fz₁ s₁ vs Φ E S₁.inn S₁.step.src S₁.bsF S₁.room r fun fz₂ v d s₂ st₂ r₂ q₂ => k _ _ _ _ (st.trans st₂) r₂ q₂
end

-- F5

noncomputable def rhoOf (names : List Str) (ds : List D) : Rho := fun x => (names.zip ds).reverse.lookup x
noncomputable abbrev mkC (prog : Program) (w : World) (base : Heap) (A : Around) (n : Nat) (nm : Str) (sc : Scope) (L a : Addr) (cd : Value) (sr : Option Addr) (fz : Fz) (s : Shared) (rs : List (Addr × Obj)) : Cx :=
  { prog := prog, w := w, base := base, A := A.deeper (envOf nm sc L a cd), n := n, env := envOf nm sc L a cd, sr := sr, fc := fz, s0 := s, cellsOwn := true, rs := rs }

theorem lookup_zip {f : Fz} {sr : Option Addr} : ∀ {names : List Str} {ds : List D} {vs : List Value}, RdL f sr ds vs → ds.length = names.length → ∀ {x : Str} {d : D}, ∀ acc acc', (∀ {d}, acc.lookup x = some d → ∃ v, acc'.lookup x = some v ∧ Rd f sr d v) → (acc.lookup x = none → acc'.lookup x = none) →
    ((names.zip ds).reverse ++ acc).lookup x = some d → ∃ v, ((names.zip vs).reverse ++ acc').lookup x = some v ∧ Rd f sr d v
  | [], [], vs, h, _, x, d, acc, acc', ha, _, e => by simp only [RdL] at h; subst h; exact ha (by simpa using e)
  | [], _ :: _, _, _, hl, _, _, _, _, _, _, _ => by simp at hl
  | _ :: _, [], _, _, hl, _, _, _, _, _, _, _ => by simp at hl
  | n :: names, d' :: ds, vs, h, hl, x, d, acc, acc', ha, hb, e => by
    simp only [RdL] at h
    obtain ⟨v, us, rfl, h1, h2⟩ := h
    simp only [List.zip_cons_cons, List.reverse_cons, List.append_assoc, List.singleton_append] at e ⊢
    refine lookup_zip h2 (by simpa using hl) ((n, d') :: acc) ((n, v) :: acc') (fun {d} e => ?_) (fun e => ?_) e
    · by_cases q : (x == n) = true
      · simp only [List.lookup_cons, q] at e ⊢; cases e; exact ⟨v, rfl, h1⟩
      · simp only [List.lookup_cons, q] at e ⊢; exact ha e
    · by_cases q : (x == n) = true
      · simp only [List.lookup_cons, q] at e; cases e
      · simp only [List.lookup_cons, q] at e ⊢; exact hb e
theorem rhoOf_reads {f : Fz} {sr : Option Addr} {names : List Str} {ds : List D} {vs : List Value} (h : RdL f sr ds vs) (hl : ds.length = names.length) {x : Str} {d : D} (e : rhoOf names ds x = some d) : ∃ v, (names.zip vs).reverse.lookup x = some v ∧ Rd f sr d v := by
  have := lookup_zip h hl (x := x) (d := d) [] [] (fun e => by simp at e) (fun _ => rfl) (by simpa [rhoOf] using e)
  simpa using this

theorem mem_lookup {α β : Type} [BEq α] [LawfulBEq α] : ∀ {l : List (α × β)} {x : α} {y : β}, l.lookup x = some y → (x, y) ∈ l
  | [], _, _, e => by simp at e
  | (a, b) :: l, x, y, e => by
    rw [List.lookup_cons] at e
    by_cases q : (x == a) = true
    · simp only [q] at e; cases e; rw [eq_of_beq q]; exact .head _
    · simp only [q] at e; exact .tail _ (mem_lookup e)

theorem none_size (h : Heap) : h.get? h.objs.size = none := by
  cases e : h.get? h.objs.size with
  | none => rfl
  | some o' => exact absurd (Heap.lt_size e) (Nat.lt_irrefl _)
theorem none_ge {h : Heap} {a : Addr} (hl : h.objs.size ≤ a) : h.get? a = none := by
  cases e : h.get? a with
  | none => rfl
  | some o' => exact absurd (Heap.lt_size e) (Nat.not_lt.mpr hl)

theorem fn_plain {prog : Program} {w : World} {base : Heap} {p : Program} {loose : List Str} {mean : ExcName → Option Value} {mg mb : Str → Option Value} {nm : Str} {ps : Arguments} {bd : List Stmt} {sc : Scope} {pos : Pos} {n : Nat} {sp : List D → (D → Prop) → Prop}
    (T : Top p loose mean mg mb base) (hm : (⟨nm, ps, bd, sc, pos⟩ : DefRec) ∈ recsOf p) (names : List Str) (hbind : ∀ pm cd doc vs, vs.length = names.length → bindArgs (docDef nm ps bd sc pm cd doc) ⟨vs, []⟩ = pure (names.zip vs))
    (hloc : (names.all fun x => decide (sc.names.lookup x = some .local)) = true) (hco : sc.isCoroutine = false) (hgen : sc.isGenerator = false) (hk : sc.kind = .function) (hcell : ∀ x ∈ sc.names, x.2 ≠ .cell)
    (hbody : ∀ A L a cd sr fz s ds Q, sp ds Q → ds.length = names.length ∧ SemB (mkC prog w base A n nm sc L a cd sr fz s []) bd (rhoOf names ds) none (fun _ _ => Q .none) Q) : FnAt prog w base mg nm (n + 1) sp := by
  obtain ⟨a, o, pm, code, doc, h1, h2, h3, h4⟩ := T.fn _ hm
  refine ⟨a, o, _, h1, h2, h3, ?_⟩
  intro A sr fz s ds vs Q Φ E R hb hi hs hsf r q k
  obtain ⟨hlen, body⟩ := hbody A s.heap.objs.size a code sr fz s ds Q q
  have hk' : ∀ b o, base.get? b = some o → s.heap.get? b = some o := fun b o e => hi _ _ (hb _ _ e)
  refine wpAny_call (call_plain (by have := R.2.1; show A.depth < 1000; omega) (hk' _ _ h2) h3 (T.nolimit.keeps hk') (h4.keeps hk') (hbind pm code doc vs (by rw [r.length]; exact hlen)) (fun x hx => ?_) (fun h₁ F => ?_) hco hgen hk hcell)
  · have := List.all_eq_true.mp hloc x.1 (List.of_mem_zip (show (x.1, x.2) ∈ _ from hx)).1
    simpa using this
  · have hN := none_size s.heap
    have S : SR (mkC prog w base A n nm sc s.heap.objs.size a code sr fz s []) none fz (rhoOf names ds) { s with heap := h₁, toks := s.toks + (names.zip vs).length } := by
      refine ⟨Step.keep hs hi F.keep, ⟨R.1, ?_, ?_⟩, hb, hsf, hs, ⟨_, F.ns, fun x d e _ => rhoOf_reads r hlen e, trivial⟩, fun x d e hx => ?_, fun o ho => ?_, fun e => ?_, hN, fun x ca e => ?_, fun x y ca e => ?_, fun p hp => ?_, hk, rfl, rfl⟩
      · have := R.2.1; show A.depth + 1 + n < 400; omega
      · have := R.2.2; show A.units + 3 + 8 * n < 800; omega
      · exact absurd rfl (hcell _ (mem_lookup (show sc.names.lookup x = some .cell from hx)))
      · exact nomatch (hN.symm.trans (hi _ _ ho))
      · obtain ⟨o2, _, _, _, _, ho, _⟩ := hs _ e; exact nomatch (hN.symm.trans ho)
      · simp [envOf] at e
      · simp [envOf] at e
      · simp at hp
    refine body fz _ _ _ S (fun fz' ρ' oc' s' sb S' q' => ?_) fun fz' v d s' st r' q' => ?_
    · exact k _ _ _ _ S'.step (by simp [Rd]) q'
    · exact k _ _ _ _ st r' q'

noncomputable abbrev mkK (prog : Program) (w : World) (base : Heap) (A : Around) (n : Nat) (fd : FuncData) (L a : Addr) (sr : Option Addr) (fz : Fz) (s : Shared) (rs : List (Addr × Obj)) : Cx :=
  { prog := prog, w := w, base := base, A := A.deeper (callEnvC fd L a), n := n, env := callEnvC fd L a, sr := sr, fc := fz, s0 := s, cellsOwn := true, rs := rs }


theorem fn_cells {prog : Program} {w : World} {base : Heap} {p : Program} {loose : List Str} {mean : ExcName → Option Value} {mg mb : Str → Option Value} {nm : Str} {ps : Arguments} {bd : List Stmt} {sc : Scope} {pos : Pos} {n : Nat} {sp : List D → (D → Prop) → Prop}
    (T : Top p loose mean mg mb base) (hm : (⟨nm, ps, bd, sc, pos⟩ : DefRec) ∈ recsOf p) (x₁ : Str) (hbind : ∀ pm cd doc v, bindArgs (docDef nm ps bd sc pm cd doc) ⟨[v], []⟩ = pure [(x₁, v)])
    (hkind : ∀ L, sc.names.lookup x₁ = some .local ∨ (sc.names.lookup x₁ = some .cell ∧ ((cellsFrom (L + 1) sc.names []).lookup x₁).isSome = true))
    (hall : ∀ L x, sc.names.lookup x = some .cell → ((cellsFrom (L + 1) sc.names []).lookup x).isSome = true)
    (hco : sc.isCoroutine = false) (hgen : sc.isGenerator = false) (hk : sc.kind = .function)
    (hbody : ∀ A L a pm cd doc sr fz s d Q, sp [d] Q → SemB (mkK prog w base A n (docDef nm ps bd sc pm cd doc) L a sr fz s []) bd (rhoOf [x₁] [d]) none (fun _ _ => Q .none) Q) (har : ∀ ds Q, sp ds Q → ∃ d, ds = [d]) : FnAt prog w base mg nm (n + 1) sp := by
  obtain ⟨a, o, pm, code, doc, h1, h2, h3, h4⟩ := T.fn _ hm
  refine ⟨a, o, _, h1, h2, h3, ?_⟩
  intro A sr fz s ds vs Q Φ E R hb hi hs hsf r q k
  obtain ⟨d, rfl⟩ := har ds Q q
  simp only [RdL] at r
  obtain ⟨v, us, rfl, rv, rfl⟩ := r
  have body := hbody A s.heap.objs.size a pm code doc sr fz s d Q q
  have hk' : ∀ b o, base.get? b = some o → s.heap.get? b = some o := fun b o e => hi _ _ (hb _ _ e)
  refine wpAny_call (codeAny_call_cells (fd := docDef nm ps bd sc pm code doc) (by have := R.2.1; show A.depth < 1000; omega) (hk' _ _ h2) h3 (T.nolimit.keeps hk') (h4.keeps hk') rfl (hbind pm code doc v) rfl (fun x hx => ?_) (fun s₁ I => ?_) hco hgen hk)
  · simp only [List.mem_singleton] at hx
    subst hx
    exact hkind _
  · have hN := none_size s.heap
    have hge : ∀ b, s.heap.objs.size ≤ b → s.heap.get? b = none := fun b hb => none_ge hb
    have S : SR (mkK prog w base A n (docDef nm ps bd sc pm code doc) s.heap.objs.size a sr fz s []) none fz (rhoOf [x₁] [d]) s₁ := by
      obtain ⟨h', tk, e'⟩ := I.toInCall.same
      have hcl : ∀ x ca, (cellsFrom (s.heap.objs.size + 1) sc.names []).lookup x = some ca → s.heap.get? ca = none := fun x ca e => hge _ (Nat.le_of_lt (I.above x ca (mem_lookup e)))
      have hkp : ∀ b o, s.heap.get? b = some o → s₁.heap.get? b = some o := I.toInCall.keep
      have hst : Step sr fz s fz s₁ := by
        subst e'
        exact Step.keep hs hi hkp
      refine ⟨hst, ⟨R.1, ?_, ?_⟩, hb, hsf, hs, ⟨_, I.toInCall.ns, fun x d' e hx => ?_, trivial⟩, fun x d' e hx => ?_, fun o ho => ?_, fun e => ?_, hN, fun x ca e => ?_, fun x y ca e1 e2 => ?_, fun p hp => ?_, hk, rfl, rfl⟩
      · have := R.2.1; show A.depth + 1 + n < 400; omega
      · have := R.2.2; show A.units + 3 + 8 * n < 800; omega
      · have hx' : x = x₁ ∧ d' = d := by
          simp only [rhoOf, List.zip_cons_cons, List.zip_nil_right, List.reverse_cons, List.reverse_nil, List.nil_append, List.lookup_cons] at e
          by_cases q : (x == x₁) = true
          · simp only [q] at e; cases e; exact ⟨eq_of_beq q, rfl⟩
          · simp only [q] at e; simp at e
        obtain ⟨rfl, rfl⟩ := hx'
        refine ⟨v, ?_, rv⟩
        show bindL _ [(x, v)] _ x = some v
        simp only [bindL]
        rw [if_pos hx]
        simp
      · have hx' : x = x₁ ∧ d' = d := by
          simp only [rhoOf, List.zip_cons_cons, List.zip_nil_right, List.reverse_cons, List.reverse_nil, List.nil_append, List.lookup_cons] at e
          by_cases q : (x == x₁) = true
          · simp only [q] at e; cases e; exact ⟨eq_of_beq q, rfl⟩
          · simp only [q] at e; simp at e
        obtain ⟨rfl, rfl⟩ := hx'
        obtain ⟨ca, hca⟩ := Option.isSome_iff_exists.mp (hall s.heap.objs.size x hx)
        refine ⟨ca, v, hca, ?_, rv⟩
        have := I.cell x ca hca
        have e2 : bindC (callEnvC (docDef nm ps bd sc pm code doc) s.heap.objs.size a).kindOf [(x, v)] (fun _ => none) x = some v := by
          simp only [bindC]
          rw [if_neg (by rw [hx]; simp)]
          simp
        rw [e2] at this
        exact this
      · exact nomatch (hN.symm.trans (hi _ _ ho))
      · obtain ⟨o2, _, _, _, _, ho, _⟩ := hs _ e; exact nomatch (hN.symm.trans ho)
      · refine ⟨⟨_, I.cell x ca e⟩, Nat.ne_of_gt (I.above x ca (mem_lookup e)), fun e2 => ?_, fun o ho => ?_, fun _ => hcl x ca e⟩
        · obtain ⟨o2, _, _, _, _, ho, _⟩ := hs _ e2; rw [hcl x ca e] at ho; cases ho
        · have := hi _ _ ho; rw [hcl x ca e] at this; cases this
      · exact name_of_addr I.apart (mem_lookup e1) (mem_lookup e2)
      · simp at hp
    refine body fz _ _ _ S (fun fz' ρ' oc' s' sb S' q' => ?_) fun fz' v d s' st r' q' => ?_
    · exact k _ _ _ _ S'.step (by simp [Rd]) q'
    · exact k _ _ _ _ st r' q'

-- F6

noncomputable def D.isInt : D → Bool | .int _ => true | .bool _ => true | _ => false
noncomputable def D.isBool : D → Bool | .bool _ => true | _ => false
noncomputable def D.isStr : D → Bool | .str _ => true | _ => false
noncomputable def D.isTup : D → Bool | .tup _ => true | _ => false

section
variable {c : Cx} {ρ : Rho} {oc : Oc} {Q : D → Prop} {x : Str} {d : D} {pos : Pos} {mg mb : Str → Option Value}
theorem isi_lst {prog : Program} {w : World} {A : Around} {E : Value → Shared → Prop} {s : Shared} {Φ : Value → Shared → Prop} {a : Addr} {T : String} (hx : ∃ o, s.heap.get? a = some o ∧ o.cls = .type "list") (hT : T = "int" ∨ T = "bool" ∨ T = "str" ∨ T = "tuple")
    (h : Φ (.bool false) { s with toks := s.toks + 1 }) : wpAny (model prog w) A (call (.builtin "isinstance") [.ref a, .type T]) Φ E s := by
  obtain ⟨o, ho, hc⟩ := hx
  rcases hT with rfl | rfl | rfl | rfl
  · exact IsiPair.list_int ho hc h
  · exact IsiPair.list_bool ho hc h
  · exact IsiPair.list_str ho hc h
  · exact IsiPair.list_tuple ho hc h
noncomputable def D.isi (T : String) (d : D) : Bool := if T = "int" then d.isInt else if T = "bool" then d.isBool else if T = "str" then d.isStr else d.isTup
theorem isi_all {fz : Fz} {s : Shared} {v : Value} {Φ : Value → Shared → Prop} {E : Value → Shared → Prop} {A : Around} {sr : Option Addr} {prog : Program} {w : World} {T : String} (hi : ∀ a o, fz a o → s.heap.get? a = some o) (hs : SrcIn sr s.heap) (r : Rd fz sr d v)
    (hT : T = "int" ∨ T = "bool" ∨ T = "str" ∨ T = "tuple") (k : ∀ t, Φ (.bool (d.isi T)) { s with toks := t }) : wpAny (model prog w) A (call (.builtin "isinstance") [v, .type T]) Φ E s := by
  cases d with
  | none =>
    simp only [Rd] at r; subst r
    rcases hT with rfl | rfl | rfl | rfl
    · exact call_isinstance (isinstance_false_none (by decide +kernel) F.isi_meta_int F.sub_NoneType_int) (k _)
    · exact call_isinstance (isinstance_false_none (by decide +kernel) F.isi_meta_bool F.sub_NoneType_bool) (k _)
    · exact call_isinstance (isinstance_false_none (by decide +kernel) F.isi_meta_str F.sub_NoneType_str) (k _)
    · exact call_isinstance (isinstance_false_none (by decide +kernel) F.isi_meta_tuple F.sub_NoneType_tuple) (k _)
  | bool b =>
    simp only [Rd] at r; subst r
    rcases hT with rfl | rfl | rfl | rfl
    · exact IsiPair.bool_int (k s.toks)
    · exact IsiPair.bool_bool (k s.toks)
    · exact IsiPair.bool_str (k _)
    · exact IsiPair.bool_tuple (k _)
  | int b =>
    simp only [Rd] at r; obtain ⟨t, rfl⟩ := r
    rcases hT with rfl | rfl | rfl | rfl
    · exact IsiPair.int_int (k s.toks)
    · exact IsiPair.int_bool (k _)
    · exact IsiPair.int_str (k _)
    · exact IsiPair.int_tuple (k _)
  | str b =>
    simp only [Rd] at r; obtain ⟨t, rfl⟩ := r
    rcases hT with rfl | rfl | rfl | rfl
    · exact IsiPair.str_int (k _)
    · exact IsiPair.str_bool (k _)
    · exact IsiPair.str_str (k s.toks)
    · exact IsiPair.str_tuple (k _)
  | tup l =>
    simp only [Rd] at r; obtain ⟨a, o, vs, rfl, ho, ⟨hc, _⟩, _⟩ := r
    rcases hT with rfl | rfl | rfl | rfl
    · exact IsiPair.tuple_int (hi _ _ ho) hc (k _)
    · exact IsiPair.tuple_bool (hi _ _ ho) hc (k _)
    · exact IsiPair.tuple_str (hi _ _ ho) hc (k _)
    · exact IsiPair.tuple_tuple (hi _ _ ho) hc (k s.toks)
  | lst l =>
    simp only [Rd] at r; obtain ⟨a, o, vs, rfl, ho, ⟨hc, _⟩, _⟩ := r
    have e : (D.lst l).isi T = false := by rcases hT with rfl | rfl | rfl | rfl <;> rfl
    exact isi_lst ⟨o, hi _ _ ho, hc⟩ hT (e ▸ k _)
  | dic P ks l =>
    simp only [Rd] at r; obtain ⟨a, o, es, n, rfl, ho, _, ⟨hc, _⟩, _⟩ := r
    have e : (D.dic P ks l).isi T = false := by rcases hT with rfl | rfl | rfl | rfl <;> rfl
    rcases hT with rfl | rfl | rfl | rfl
    · exact IsiPair.dict_int (hi _ _ ho) hc (e ▸ k _)
    · exact IsiPair.dict_bool (hi _ _ ho) hc (e ▸ k _)
    · exact IsiPair.dict_str (hi _ _ ho) hc (e ▸ k _)
    · exact IsiPair.dict_tuple (hi _ _ ho) hc (e ▸ k _)
  | src =>
    simp only [Rd] at r; obtain ⟨a, rfl, e⟩ := r
    obtain ⟨o, _, _, _, _, ho, hq, _⟩ := hs a e
    have e : (D.src).isi T = false := by rcases hT with rfl | rfl | rfl | rfl <;> rfl
    exact isi_lst ⟨o, ho, hq.1⟩ hT (e ▸ k _)

theorem E_isi {f t : Str} {T : String} {p tp : Pos} {e : Expr} (hx : c.env.kindOf f = some .globalImplicit) (hd : (f == ("__debug__" : Str)) = false) (G : c.base.Ns mainGlobals mg) (B : c.base.Ns builtinsNs mb)
    (hm : mg f = none) (hb : mb f = some (.builtin "isinstance")) (hx2 : c.env.kindOf t = some .globalImplicit) (hd2 : (t == ("__debug__" : Str)) = false) (hm2 : mg t = none) (hb2 : mb t = some (.type T)) (hT : T = "int" ∨ T = "bool" ∨ T = "str" ∨ T = "tuple")
    (hst : starEach [e, .Name t tp] c.env = (false, eval e c.env) :: starEach [.Name t tp] c.env) (hst2 : starEach [.Name t tp] c.env = (false, eval (.Name t tp) c.env) :: starEach [] c.env) (hpl : ((backTo pos (starEach [.Name t tp] c.env)).any fun x => x.1) = false)
    (h : SemE c e ρ fun d => Q (.bool (d.isi T))) : SemE c (.Call (.Name f p) [e, .Name t tp] [] pos) ρ Q := by
  intro oc fz s Φ E S k
  refine wpAny_Call_NameR (builtin_name S hx hd G B hm hb ?_)
  refine PyProof.Rows.callWith_builtin1 (spliced_more (h oc fz s _ E S fun fz₁ v d s₁ st r q => ?_) hst) hst hpl
  have S₁ := S.on st
  refine spliced_more (builtin_name S₁ hx2 hd2 G B hm2 hb2 (Calls.spliced_nil ?_)) hst2
  exact isi_all S₁.inn S₁.step.src r hT fun t => k _ _ _ _ (st.trans (Step.same S₁.inn S₁.step.src)) (by simp [Rd]) q

theorem L_len_tup {l : List D} (hsz : l.length < 2 ^ 62) (h : Q (.int l.length)) : OpL c (fun vs => call (.builtin "len") vs) [.tup l] Q := by
  intro fz s vs Φ E hi hs hb R r k
  simp only [RdL, Rd] at r
  obtain ⟨v, us, rfl, ⟨a, o, xs, rfl, ho, ⟨hc, _, n, hd⟩, hl⟩, rfl⟩ := r
  refine len_tuple ⟨o, hi _ _ ho, hc, n, hd⟩ (by rw [List.size_toArray, hl.length]; omega) ?_
  exact k _ _ _ _ (Step.same hi hs) (by simp only [Rd]; exact ⟨_, by rw [List.size_toArray, hl.length]⟩) h
theorem L_len_lst {l : List D} (hsz : l.length < 2 ^ 62) (h : Q (.int l.length)) : OpL c (fun vs => call (.builtin "len") vs) [.lst l] Q := by
  intro fz s vs Φ E hi hs hb R r k
  simp only [RdL, Rd] at r
  obtain ⟨v, us, rfl, ⟨a, o, xs, rfl, ho, ⟨hc, _, n, hd⟩, hl⟩, rfl⟩ := r
  refine call_len_list ⟨o, hi _ _ ho, hc, n, hd⟩ (by rw [List.size_toArray, hl.length]; omega) ?_
  exact k _ _ _ _ (Step.same hi hs) (by simp only [Rd]; exact ⟨_, by rw [List.size_toArray, hl.length]⟩) h
theorem L_len_str {x : Str} (hsz : x.length < 2 ^ 62) (h : Q (.int x.length)) : OpL c (fun vs => call (.builtin "len") vs) [.str x] Q := by
  intro fz s vs Φ E hi hs hb R r k
  simp only [RdL, Rd] at r
  obtain ⟨v, us, rfl, ⟨t, rfl⟩, rfl⟩ := r
  exact len_str (by omega) (k _ _ _ _ (Step.same hi hs) (by simp [Rd]) h)
theorem L_ord {x : Str} (hl : x.length = 1) (h : Q (.int (x.cps.getD 0 0))) : OpL c (fun vs => call (.builtin "ord") vs) [.str x] Q := by
  intro fz s vs Φ E hi hs hb R r k
  simp only [RdL, Rd] at r
  obtain ⟨v, us, rfl, ⟨t, rfl⟩, rfl⟩ := r
  exact ord_of_one hl (k _ _ _ _ (Step.same hi hs) (by simp [Rd]) h)
theorem L_chr {i : Int} (h0 : 0 ≤ i) (h1 : i ≤ 1114111) (h : Q (.str ⟨#[i.toNat]⟩)) : OpL c (fun vs => call (.builtin "chr") vs) [.int i] Q := by
  intro fz s vs Φ E hi hs hb R r k
  simp only [RdL, Rd] at r
  obtain ⟨v, us, rfl, ⟨t, rfl⟩, rfl⟩ := r
  exact P.chr_of_int (by simp; omega) (k _ _ _ _ (Step.same hi hs) (by simp [Rd]) h)
theorem L_max {a b : Int} (h : Q (.int (max a b))) : OpL c (fun vs => call (.builtin "max") vs) [.int a, .int b] Q := by
  intro fz s vs Φ E hi hs hb R r k
  simp only [RdL, Rd] at r
  obtain ⟨v, us, rfl, ⟨t, rfl⟩, u, us', rfl, ⟨t', rfl⟩, rfl⟩ := r
  refine max_two_ints R.1 fun h' tk hk => ?_
  refine k _ _ _ _ (Step.keep hs hi hk) ?_ h
  simp only [Rd]
  by_cases q : b > a
  · rw [if_pos q]; exact ⟨_, by rw [Int.max_eq_right (Int.le_of_lt q)]⟩
  · rw [if_neg q]; exact ⟨_, by rw [Int.max_eq_left (by omega)]⟩
end

theorem rho_hit {ρ : Rho} {x : Str} {d : D} : (ρ.set x d) x = some d := by simp [Rho.set]
theorem rho_miss {ρ : Rho} {x y : Str} {d d' : D} (h : y ≠ x) (e : ρ y = some d) : (ρ.set x d') y = some d := by simp [Rho.set, h, e]
noncomputable def rho0 : Rho := fun _ => none
theorem rhoOf1 (x : Str) (d : D) : rhoOf [x] [d] = rho0.set x d := by
  funext y
  simp only [rhoOf, Rho.set, rho0, List.zip_cons_cons, List.zip_nil_right, List.reverse_cons, List.reverse_nil, List.nil_append, List.lookup_cons, List.lookup_nil]
  by_cases q : y = x
  · subst q; simp
  · have : (y == x) = false := by simpa using q
    simp [this, q]
theorem rhoOf2 (x y : Str) (d e : D) : rhoOf [x, y] [d, e] = (rho0.set x d).set y e := by
  funext z
  simp only [rhoOf, Rho.set, rho0, List.zip_cons_cons, List.zip_nil_right, List.reverse_cons, List.reverse_nil, List.nil_append, List.cons_append, List.lookup_cons, List.lookup_nil]
  by_cases q : z = y
  · subst q; simp
  · have : (z == y) = false := by simpa using q
    by_cases q' : z = x
    · subst q'; simp [this, q]
    · have : (z == x) = false := by simpa using q'
      simp [*]
theorem rhoOf0 : rhoOf [] [] = rho0 := by funext y; simp [rhoOf, rho0]

-- F7

noncomputable abbrev Cx.on (c : Cx) (ws : List (Addr × Obj)) : Cx := { c with rs := ws ++ c.rs }

theorem SR.addRs {c : Cx} {oc : Oc} {f g : Fz} {ρ : Rho} {s s' : Shared} {ws : List (Addr × Obj)} (x : SR c oc f ρ s) (y : Step c.sr f s g s') (hn : ∀ p ∈ ws, s.heap.get? p.1 = none) (hg : ∀ p ∈ ws, ∀ o, ¬ g p.1 o) (hw : ∀ p ∈ ws, s'.heap.get? p.1 = some p.2) : SR (c.on ws) oc g ρ s' := by
  have X := x.on y
  have ne : ∀ p ∈ ws, ∀ a, (∃ o, s.heap.get? a = some o) → p.1 ≠ a := fun p hp a ⟨o, ho⟩ q => by subst q; rw [hn p hp] at ho; cases ho
  have hL : ∃ o, s.heap.get? c.env.locals = some o := by
    obtain ⟨m, ⟨o, es, ep, ho, _⟩, _⟩ := x.ns
    exact ⟨o, ho⟩
  refine ⟨X.step, X.room, X.bs, X.srcF, X.src0, ?_, X.cells, X.locF, X.locS, X.locN, X.cellI, X.cellA, fun p hp => ?_, X.fun_, X.glob, X.bltn⟩
  · obtain ⟨m, h1, h2, h3⟩ := x.ns
    obtain ⟨m', h1', h2', h3'⟩ := X.ns
    refine ⟨m', h1', h2', ?_⟩
    cases oc with
    | none => trivial
    | some q =>
      obtain ⟨z, l⟩ := q
      obtain ⟨a, o, vs, e1, e2, e3, e4, e5, e6, e7, e8, e9, e10, e11⟩ := h3'
      refine ⟨a, o, vs, e1, e2, e3, e4, e5, e6, e7, e8, e9, e10, fun p hp => ?_⟩
      rcases List.mem_append.mp hp with hp | hp
      · obtain ⟨a', o', vs', d1, d2, d3, d4, d5, d6, d7, _⟩ := h3
        have hm : m' z = m z := by
          have q1 : s'.heap.Ns c.env.locals m := by
            obtain ⟨o, es, ep, ho, r⟩ := h1
            exact ⟨o, es, ep, y.kept _ _ x.locS ho, r⟩
          obtain ⟨o1, es1, ep1, ho1, hd1, _, hf1⟩ := q1
          obtain ⟨o2, es2, ep2, ho2, hd2, _, hf2⟩ := h1'
          rw [ho1] at ho2; cases ho2
          rw [hd1] at hd2; cases hd2
          rw [← hf1, ← hf2]
        rw [e1, d1] at hm
        cases hm
        exact (ne p hp a ⟨_, d3⟩).symm
      · exact e11 p hp
  · rcases List.mem_append.mp hp with hp | hp
    · refine ⟨hw p hp, ?_, hg p hp, ne p hp _ hL, fun q => ?_, fun z ca e => ?_⟩
      · cases e : c.s0.heap.get? p.1 with
        | none => rfl
        | some o =>
          by_cases q : c.sr = some p.1
          · obtain ⟨o2, _, _, _, _, ho, _⟩ := x.step.src _ q
            have := hn p hp; rw [ho] at this; cases this
          · have := x.step.kept _ _ q e
            have h2 := hn p hp; rw [this] at h2; cases h2
      · obtain ⟨o2, _, _, _, _, ho, _⟩ := x.step.src _ q
        have := hn p hp; rw [ho] at this; cases this
      · obtain ⟨⟨v, o, ho, _⟩, _⟩ := x.cellI z ca e
        exact ne p hp ca ⟨o, ho⟩
    · exact X.rsI p hp

theorem SR.dropRs {c : Cx} {oc : Oc} {f : Fz} {ρ : Rho} {s : Shared} {ws : List (Addr × Obj)} (x : SR (c.on ws) oc f ρ s) : SR c oc f ρ s := by
  refine ⟨x.step, x.room, x.bs, x.srcF, x.src0, ?_, x.cells, x.locF, x.locS, x.locN, x.cellI, x.cellA, fun p hp => x.rsI p (List.mem_append_right _ hp), x.fun_, x.glob, x.bltn⟩
  obtain ⟨m, h1, h2, h3⟩ := x.ns
  refine ⟨m, h1, h2, ?_⟩
  cases oc with
  | none => trivial
  | some q =>
    obtain ⟨z, l⟩ := q
    obtain ⟨a, o, vs, e1, e2, e3, e4, e5, e6, e7, e8, e9, e10, e11⟩ := h3
    exact ⟨a, o, vs, e1, e2, e3, e4, e5, e6, e7, e8, e9, e10, fun p hp => e11 p (List.mem_append_right _ hp)⟩

/-- the reserved objects turn -/
theorem SR.turnRs {c : Cx} {oc : Oc} {f g : Fz} {ρ : Rho} {s : Shared} {ws ws' : List (Addr × Obj)} {h' : Heap} {t : Nat} (x : SR (c.on ws) oc f ρ s) (hap : ∀ p ∈ ws, ∀ q ∈ c.rs, p.1 ≠ q.1) (hk : ∀ b o, b ∉ ws.map (·.1) → s.heap.get? b = some o → h'.get? b = some o)
    (hm : ws'.map (·.1) = ws.map (·.1)) (hw : ∀ p ∈ ws', h'.get? p.1 = some p.2) (sub : ∀ a o, f a o → g a o) (inn : ∀ a o, g a o → h'.get? a = some o) (fresh : ∀ a o, g a o → f a o ∨ s.heap.get? a = none) :
    SR (c.on ws') oc g ρ { s with heap := h', toks := t } := by
  have off : ∀ b, (∀ p ∈ ws, b ≠ p.1) → b ∉ ws.map (·.1) := fun b h hb => by
    obtain ⟨p, hp, e⟩ := List.mem_map.mp hb
    exact h p hp e.symm
  have inW : ∀ p ∈ ws, p ∈ (c.on ws).rs := fun p hp => List.mem_append_left _ hp
  have keepF : ∀ a o, f a o → h'.get? a = some o := fun a o z => inn _ _ (sub _ _ z)
  have new : ∀ a, (∀ o, ¬ f a o) → (∃ o, s.heap.get? a = some o) → ∀ o, ¬ g a o := fun a h1 h2 o h3 => by
    rcases fresh a o h3 with h4 | h4
    · exact h1 _ h4
    · obtain ⟨o2, h2⟩ := h2; rw [h2] at h4; cases h4
  have srcOff : ∀ a, c.sr = some a → a ∉ ws.map (·.1) := fun a e => off a fun p hp q => (x.rsI p (inW p hp)).2.2.2.2.1 (by rw [← q]; exact e)
  have locOff : c.env.locals ∉ ws.map (·.1) := off _ fun p hp q => (x.rsI p (inW p hp)).2.2.2.1 q.symm
  have cellOff : ∀ z ca, c.env.cells.lookup z = some ca → ca ∉ ws.map (·.1) := fun z ca e => off _ fun p hp q => (x.rsI p (inW p hp)).2.2.2.2.2 z ca e q.symm
  have hL : ∃ o, s.heap.get? c.env.locals = some o := by
    obtain ⟨m, ⟨o, es, ep, ho, _⟩, _⟩ := x.ns
    exact ⟨o, ho⟩
  refine ⟨⟨fun a o z => sub _ _ (x.step.sub _ _ z), inn, fun b o n e => ?_, fun a o z => ?_, fun a e => ?_, ?_⟩, x.room, x.bs, x.srcF, x.src0, ?_, fun z d e k => ?_, new _ x.locF hL, x.locS, x.locN, fun z ca e => ?_, x.cellA, fun p hp => ?_, x.fun_, x.glob, x.bltn⟩
  · refine hk b o (off b fun p hp q => ?_) (x.step.kept b o n e)
    have := (x.rsI p (inW p hp)).2.1
    rw [← q] at this; rw [this] at e; cases e
  · rcases fresh a o z with h1 | h1
    · exact x.step.fresh a o h1
    · right
      cases e : c.s0.heap.get? a with
      | none => rfl
      | some o' =>
        by_cases n : c.sr = some a
        · obtain ⟨o2, _, _, _, _, ho, _⟩ := x.step.src a n
          rw [ho] at h1; cases h1
        · have := x.step.kept a o' n e; rw [this] at h1; cases h1
  · obtain ⟨o, y, z, t, u, ho, r⟩ := x.step.src a e
    exact ⟨o, y, z, t, u, hk _ _ (srcOff a e) ho, r⟩
  · show _ = _
    rw [x.step.shape]
  · obtain ⟨m, hn, h2, h3⟩ := x.ns
    refine ⟨m, ?_, fun z d e k => ?_, ?_⟩
    · obtain ⟨o, es, ep, ho, r⟩ := hn
      exact ⟨o, es, ep, hk _ _ locOff ho, r⟩
    · obtain ⟨v, e1, e2⟩ := h2 z d e k
      exact ⟨v, e1, e2.mono sub⟩
    · cases oc with
      | none => trivial
      | some q =>
        obtain ⟨z, l⟩ := q
        obtain ⟨a, o, vs, e1, e2, e3, e4, e5, e6, e7, e8, e9, e10, e11⟩ := h3
        refine ⟨a, o, vs, e1, e2, hk a o (off a fun p hp => e11 p (inW p hp)) e3, e4, e5.mono sub, new _ e6 ⟨_, e3⟩, e7, e8, e9, e10, fun p hp => ?_⟩
        rcases List.mem_append.mp hp with hp | hp
        · have : p.1 ∈ ws.map (·.1) := hm ▸ List.mem_map_of_mem hp
          obtain ⟨p', hp', e'⟩ := List.mem_map.mp this
          rw [← e']; exact e11 p' (inW p' hp')
        · exact e11 p (List.mem_append_right _ hp)
  · obtain ⟨ca, v, e1, e2, e3⟩ := x.cells z d e k
    exact ⟨ca, v, e1, IsCell.keeps' e2 fun o ho => hk _ _ (cellOff z ca e1) ho, e3.mono sub⟩
  · obtain ⟨⟨v, e1⟩, e2, e3, e4, e5⟩ := x.cellI z ca e
    exact ⟨⟨v, IsCell.keeps' e1 fun o ho => hk _ _ (cellOff z ca e) ho⟩, e2, e3, new _ e4 (by obtain ⟨o, ho, _⟩ := e1; exact ⟨o, ho⟩), e5⟩
  · rcases List.mem_append.mp hp with hp | hp
    · have : p.1 ∈ ws.map (·.1) := hm ▸ List.mem_map_of_mem hp
      obtain ⟨p', hp', e'⟩ := List.mem_map.mp this
      obtain ⟨d1, d2, d3, d4, d5, d6⟩ := x.rsI p' (inW p' hp')
      rw [← e']
      refine ⟨?_, d2, new _ d3 ⟨_, d1⟩, d4, d5, d6⟩
      rw [e']; exact hw p hp
    · obtain ⟨d1, d2, d3, d4, d5, d6⟩ := x.rsI p (List.mem_append_right _ hp)
      by_cases q : p.1 ∈ ws.map (·.1)
      · obtain ⟨p', hp', e'⟩ := List.mem_map.mp q
        exact absurd e' (hap p' hp' p hp)
      · exact ⟨hk _ _ q d1, d2, new _ d3 ⟨_, d1⟩, d4, d5, d6⟩

/-- an iterator over data -/
structure It (prog : Program) (w : World) (A : Around) (sr : Option Addr) (target : Expr) (fz : Fz) (I : Addr) (wr : List Addr) (items : List D) (St : Nat → Heap → Prop) : Prop where
  frame : ∀ i h h', St i h → (∀ b ∈ wr, ∀ o, h.get? b = some o → h'.get? b = some o) → (∀ a o, fz a o → h'.get? a = some o) → St i h'
  ex : ∀ i h, St i h → ∀ b ∈ wr, ∃ o, h.get? b = some o
  turn : ∀ i d (f : Fz) (s : Shared) (Φ : Value → Shared → Prop) (E E' : Value → Shared → Prop), items[i]? = some d → St i s.heap → (∀ a o, fz a o → f a o) → (∀ a o, f a o → s.heap.get? a = some o) → (∀ b ∈ wr, ∀ o, ¬ f b o) →
    (∀ v g h' tk, St (i + 1) h' → (∀ a o, f a o → g a o) → (∀ a o, g a o → h'.get? a = some o) → (∀ a o, g a o → f a o ∨ s.heap.get? a = none) → (∀ b o, b ∉ wr → s.heap.get? b = some o → h'.get? b = some o) → Rd g sr d v → Φ v { s with heap := h', toks := tk }) →
    wpAny (model prog w) A (pyNext (.ref I)) (fun r s₁ => ∃ v, r = some v ∧ wpAny (model prog w) A (letOwnedTupleGo target (.ref I) v) (fun _ s₂ => Φ v s₂) E' s₁) E s
  done : ∀ (f : Fz) (s : Shared) (Φ : Option Value → Shared → Prop) (E : Value → Shared → Prop), St items.length s.heap → (∀ a o, fz a o → f a o) → (∀ a o, f a o → s.heap.get? a = some o) → (∀ b ∈ wr, ∀ o, ¬ f b o) →
    (∀ h' tk, (∀ b o, b ∉ wr → s.heap.get? b = some o → h'.get? b = some o) → Φ none { s with heap := h', toks := tk }) → wpAny (model prog w) A (pyNext (.ref I)) Φ E s
  self : ∀ i (s : Shared) (Φ E : Value → Shared → Prop), St i s.heap → Φ (.ref I) s → wpAny (model prog w) A (pyIter (.ref I)) Φ E s


theorem go_plain {prog : Program} {w : World} {A : Around} {target : Expr} {I : Addr} {v : Value} {s : Shared} {Φ : Unit → Shared → Prop} {E : Value → Shared → Prop} {o : Obj} {n : String} {fs : Array Value} (ho : s.heap.get? I = some o) (hc : o.cls = .type n) (hd : o.data = .fields fs)
    (hn : ["enumerate", "zip", "dict_itemiterator", "dict_reverseitemiterator", "odict_iterator", "itertools.zip_longest", "itertools.pairwise"].contains n = false) (h : Φ () s) : wpAny (model prog w) A (letOwnedTupleGo target (.ref I) v) Φ E s := by
  unfold letOwnedTupleGo
  split
  · cases v <;> first | exact wpAny_pure h | (refine wpAny_bind (wpAny_load ho ?_); rw [hc, hd]; simp only [hn, Bool.false_and]; exact wpAny_pure h)
  · cases v <;> first | exact wpAny_pure h | (refine wpAny_bind (wpAny_load ho ?_); rw [hc, hd]; simp only [hn, Bool.false_and]; exact wpAny_pure h)
  · exact wpAny_pure h

section
variable {prog : Program} {w : World} {A : Around} {sr : Option Addr} {target : Expr} {fz : Fz} {I : Addr}
theorem It.list (hh : A.handled = none) {ax : Addr} {o : Obj} {vs : List Value} {ds : List D} (hne : ax ≠ I) (ho : fz ax o) (hs : SeqO "list" o vs) (hr : RdL fz sr ds vs) : It prog w A sr target fz I [I] ds (fun i h => h.IsListIter I ax i) where
  frame := fun i h h' st hk _ => st.at fun o e => hk I (by simp) o e
  ex := fun i h st b hb => by
    simp only [List.mem_singleton] at hb; subst hb
    obtain ⟨o, e, _⟩ := st
    exact ⟨o, e⟩
  turn := fun i d f s Φ E E' hi st hsub hin hfw k => by
    obtain ⟨v, hv, rv⟩ := hr.get hi
    refine wpAny_pyNext_list_item st (⟨o, hin _ _ (hsub _ _ ho), hs.1, hs.2.2⟩ : s.heap.IsList ax vs.toArray) (by simpa using hv) fun h' st' hsb => ⟨v, rfl, ?_⟩
    have st2 := st'
    obtain ⟨oI, e1, e2, e3⟩ := st'
    refine go_plain e1 e2 e3 (by decide) ?_
    refine k v f h' s.toks st2 (fun _ _ z => z) (fun a p z => ?_) (fun _ _ z => .inl z) (fun b p hb e => hsb.extBut b p (by simpa using hb) e) (rv.mono hsub)
    exact hsb.extBut a p (fun q => hfw I (by simp) p (q ▸ z)) (hin a p z)
  done := fun f s Φ E st hsub hin hfw k => by
    refine wpAny_pyNext_list_end hh st (⟨o, hin _ _ (hsub _ _ ho), hs.1, hs.2.2⟩ : s.heap.IsList ax vs.toArray) (by simp [hr.length]) fun h' hk => k h' s.toks fun b p hb e => hk b p (by simpa using hb) e
  self := fun i s Φ E st k => wpAny_pyIter_listiter st k
theorem It.tuple (hh : A.handled = none) {ax : Addr} {o : Obj} {vs : List Value} {ds : List D} (hne : ax ≠ I) (ho : fz ax o) (hs : SeqO "tuple" o vs) (hr : RdL fz sr ds vs) : It prog w A sr target fz I [I] ds (fun i h => h.IsTupleIter I ax i) where
  frame := fun i h h' st hk _ => st.at fun o e => hk I (by simp) o e
  ex := fun i h st b hb => by
    simp only [List.mem_singleton] at hb; subst hb
    obtain ⟨o, e, _⟩ := st
    exact ⟨o, e⟩
  turn := fun i d f s Φ E E' hi st hsub hin hfw k => by
    obtain ⟨v, hv, rv⟩ := hr.get hi
    refine wpAny_pyNext_tuple_item st (⟨o, hin _ _ (hsub _ _ ho), hs.1, hs.2.2⟩ : s.heap.IsTuple ax vs.toArray) (by simpa using hv) fun h' st' hsb => ⟨v, rfl, ?_⟩
    have st2 := st'
    obtain ⟨oI, e1, e2, e3⟩ := st'
    refine go_plain e1 e2 e3 (by decide) ?_
    refine k v f h' s.toks st2 (fun _ _ z => z) (fun a p z => ?_) (fun _ _ z => .inl z) (fun b p hb e => hsb.extBut b p (by simpa using hb) e) (rv.mono hsub)
    exact hsb.extBut a p (fun q => hfw I (by simp) p (q ▸ z)) (hin a p z)
  done := fun f s Φ E st hsub hin hfw k => by
    refine wpAny_pyNext_tuple_end hh st (⟨o, hin _ _ (hsub _ _ ho), hs.1, hs.2.2⟩ : s.heap.IsTuple ax vs.toArray) (by simp [hr.length]) fun h' hk => k h' s.toks fun b p hb e => hk b p (by simpa using hb) e
  self := fun i s Φ E st k => wpAny_pyIter_tupleiter st k
/-- the signsD of a text, each a text -/
noncomputable def signsD (x : Str) : List D := x.cps.toList.map fun c => D.str ⟨#[c]⟩
theorem It.text (hh : A.handled = none) (x : Str) (t : Tok) : It prog w A sr target fz I [I] (signsD x) (fun i h => h.IsStrIter I (strIterType x) x t i) where
  frame := fun i h h' st hk _ => by
    obtain ⟨o, e, r⟩ := st
    exact ⟨o, hk I (by simp) o e, r⟩
  ex := fun i h st b hb => by
    simp only [List.mem_singleton] at hb; subst hb
    obtain ⟨o, e, _⟩ := st
    exact ⟨o, e⟩
  turn := fun i d f s Φ E E' hi st hsub hin hfw k => by
    have hx : ∃ q, x.cps[i]? = some q ∧ d = .str ⟨#[q]⟩ := by
      simp only [signsD, List.getElem?_map, Option.map_eq_some_iff] at hi
      obtain ⟨q, h1, h2⟩ := hi
      exact ⟨q, by simpa using h1, h2.symm⟩
    obtain ⟨q, hq, rfl⟩ := hx
    have fin : ∀ (ty : String) h', h'.IsStrIter I ty x t (i + 1) → strIterType x = ty → ["enumerate", "zip", "dict_itemiterator", "dict_reverseitemiterator", "odict_iterator", "itertools.zip_longest", "itertools.pairwise"].contains ty = false → Heap.SameBut I s.heap h' →
        ∃ v, some (Value.str ⟨#[q]⟩ s.toks) = some v ∧ wpAny (model prog w) A (letOwnedTupleGo target (.ref I) v) (fun _ s₂ => Φ v s₂) E' { s with heap := h', toks := s.toks + 1 } := fun ty h' st' hty hc hsb => by
      refine ⟨_, rfl, ?_⟩
      have st2 := st'
      obtain ⟨oI, e1, e2, e3⟩ := st'
      refine go_plain e1 e2 e3 hc ?_
      refine k _ f h' (s.toks + 1) (hty ▸ st2) (fun _ _ z => z) (fun a p z => ?_) (fun _ _ z => .inl z) (fun b p hb e => hsb.extBut b p (by simpa using hb) e) (by simp [Rd])
      exact hsb.extBut a p (fun q => hfw I (by simp) p (q ▸ z)) (hin a p z)
    by_cases ha : (x.cps.all (· < 128)) = true
    · have hty : strIterType x = "str_ascii_iterator" := by simp [strIterType, ha]
      rw [hty] at st
      exact wpAny_pyNext_ascii_item st hq fun h' st' hsb => fin _ h' st' hty (by decide) hsb
    · have hty : strIterType x = "str_iterator" := by simp [strIterType, ha]
      rw [hty] at st
      exact wpAny_pyNext_wide_item st hq fun h' st' hsb => fin _ h' st' hty (by decide) hsb
  done := fun f s Φ E st hsub hin hfw k => by
    have hn : x.cps[(signsD x).length]? = none := by simp [signsD]
    by_cases ha : (x.cps.all (· < 128)) = true
    · have hty : strIterType x = "str_ascii_iterator" := by simp [strIterType, ha]
      rw [hty] at st
      exact wpAny_pyNext_ascii_end hh st hn fun h' hk => k h' s.toks fun b p hb e => hk b p (by simpa using hb) e
    · have hty : strIterType x = "str_iterator" := by simp [strIterType, ha]
      rw [hty] at st
      exact wpAny_pyNext_wide_end hh st hn fun h' hk => k h' s.toks fun b p hb e => hk b p (by simpa using hb) e
  self := fun i s Φ E st k => by
    by_cases ha : (x.cps.all (· < 128)) = true
    · have hty : strIterType x = "str_ascii_iterator" := by simp [strIterType, ha]
      rw [hty] at st
      exact wpAny_pyIter_striter_ascii st k
    · have hty : strIterType x = "str_iterator" := by simp [strIterType, ha]
      rw [hty] at st
      exact wpAny_pyIter_striter_wide st k
noncomputable def intsD (a : Int) (n : Nat) : List D := (List.range n).map fun (i : Nat) => D.int (a + (i : Int))
theorem It.range (hh : A.handled = none) (a : Int) (n : Nat) : It prog w A sr target fz I [I] (intsD a n) (fun i h => IsRangeIter h I (a + i) ((n : Int) - i) 1) where
  frame := fun i h h' st hk _ => hk I (by simp) _ st
  ex := fun i h st b hb => by
    simp only [List.mem_singleton] at hb; subst hb
    exact ⟨_, st⟩
  turn := fun i d f s Φ E E' hi st hsub hin hfw k => by
    have hx : i < n ∧ d = .int (a + i) := by
      simp only [intsD, List.getElem?_map, Option.map_eq_some_iff] at hi
      obtain ⟨q, h1, h2⟩ := hi
      obtain ⟨h3, h4⟩ := List.getElem?_eq_some_iff.mp h1
      simp at h3 h4
      subst h4
      exact ⟨h3, h2.symm⟩
    obtain ⟨hin', rfl⟩ := hx
    refine wpAny_pyNext_range_item st (by omega) fun h' st' hsb => ⟨_, rfl, ?_⟩
    have st2 : IsRangeIter h' I (a + ((i + 1 : Nat) : Int)) ((n : Int) - ((i + 1 : Nat) : Int)) 1 := by
      have e1 : a + (i : Int) + 1 = a + ((i + 1 : Nat) : Int) := by omega
      have e2 : (n : Int) - i - 1 = (n : Int) - ((i + 1 : Nat) : Int) := by omega
      rw [← e1, ← e2]; exact st'
    refine go_plain st' rfl rfl (by decide) ?_
    refine k _ f h' (s.toks + 1) st2 (fun _ _ z => z) (fun a p z => ?_) (fun _ _ z => .inl z) (fun b p hb e => hsb.extBut b p (by simpa using hb) e) (by simp [Rd])
    exact hsb.extBut a p (fun q => hfw I (by simp) p (q ▸ z)) (hin a p z)
  done := fun f s Φ E st hsub hin hfw k => by
    have hl : (intsD a n).length = n := by simp [intsD]
    rw [hl] at st
    exact wpAny_pyNext_range_end hh st (by omega) fun h' hk => k h' s.toks fun b p hb e => hk b p (by simpa using hb) e
  self := fun i s Φ E st k => wpAny_pyIter_rangeiter st k
end

-- F8

noncomputable abbrev Cx.withRs (c : Cx) (rs : List (Addr × Obj)) : Cx := { c with rs := rs }

noncomputable def Turns (c : Cx) (target : Expr) (body : List Stmt) (Qn : Rho → Oc → Prop) (Qr : D → Prop) : List D → Rho → Oc → Prop
  | [], ρ, oc => Qn ρ oc
  | d :: ds, ρ, oc => ∀ rs, SemA (c.withRs rs) target d ρ oc fun ρ' => SemB (c.withRs rs) body ρ' oc (fun ρ2 oc2 => Turns c target body Qn Qr ds ρ2 oc2) Qr

theorem objs_at {h : Heap} : ∀ {wr : List Addr}, (∀ b ∈ wr, ∃ o, h.get? b = some o) → ∃ ws : List (Addr × Obj), ws.map (·.1) = wr ∧ ∀ p ∈ ws, h.get? p.1 = some p.2
  | [], _ => ⟨[], rfl, by simp⟩
  | b :: wr, hx => by
    obtain ⟨ws, h1, h2⟩ := objs_at (wr := wr) fun b hb => hx b (.tail _ hb)
    obtain ⟨o, ho⟩ := hx b (.head _)
    refine ⟨(b, o) :: ws, by simp [h1], fun p hp => ?_⟩
    rcases List.mem_cons.mp hp with rfl | hp
    · exact ho
    · exact h2 p hp
theorem mem_fst {ws ws' : List (Addr × Obj)} (h : ws'.map (·.1) = ws.map (·.1)) {p : Addr × Obj} (hp : p ∈ ws') : ∃ q ∈ ws, q.1 = p.1 := by
  have : p.1 ∈ ws.map (·.1) := h ▸ List.mem_map_of_mem hp
  obtain ⟨q, h1, h2⟩ := List.mem_map.mp this
  exact ⟨q, h1, h2⟩

theorem SR.dropOff {c : Cx} {oc : Oc} {f : Fz} {ρ : Rho} {s : Shared} {ws : List (Addr × Obj)} {h' : Heap} {t : Nat} (x : SR (c.on ws) oc f ρ s) (hap : ∀ p ∈ ws, ∀ q ∈ c.rs, p.1 ≠ q.1) (hk : ∀ b o, b ∉ ws.map (·.1) → s.heap.get? b = some o → h'.get? b = some o) : SR c oc f ρ { s with heap := h', toks := t } := by
  have key := x.dropRs
  have off : ∀ b, (∀ p ∈ ws, b ≠ p.1) → b ∉ ws.map (·.1) := fun b hb hm => by
    obtain ⟨p, hp, e⟩ := List.mem_map.mp hm
    exact hb p hp e.symm
  have inW : ∀ p ∈ ws, p ∈ (c.on ws).rs := fun p hp => List.mem_append_left _ hp
  refine ⟨?_, key.room, key.bs, key.srcF, key.src0, ?_, fun z d e kk => ?_, key.locF, key.locS, key.locN, fun z ca e => ?_, key.cellA, fun p hp => ?_, key.fun_, key.glob, key.bltn⟩
  · refine ⟨key.step.sub, fun a o z => hk a o (off a fun p hp q => (x.rsI p (inW p hp)).2.2.1 o (q ▸ z)) (key.inn a o z), fun b o n e => ?_, key.step.fresh, fun a e => ?_, ?_⟩
    · refine hk b o (off b fun p hp q => ?_) (key.step.kept b o n e)
      have := (x.rsI p (inW p hp)).2.1
      rw [← q] at this; rw [this] at e; cases e
    · obtain ⟨o, y, z, t, u, ho, r⟩ := key.step.src a e
      exact ⟨o, y, z, t, u, hk _ _ (off a fun p hp q => (x.rsI p (inW p hp)).2.2.2.2.1 (by rw [← q]; exact e)) ho, r⟩
    · show _ = _
      rw [key.step.shape]
  · obtain ⟨m, hn, h2, h3⟩ := x.ns
    refine ⟨m, ?_, h2, ?_⟩
    · obtain ⟨o, es, ep, ho, r⟩ := hn
      exact ⟨o, es, ep, hk _ _ (off _ fun p hp q => (x.rsI p (inW p hp)).2.2.2.1 q.symm) ho, r⟩
    · cases oc with
      | none => trivial
      | some q =>
        obtain ⟨z, l⟩ := q
        obtain ⟨a, o, vs, e1, e2, e3, e4, e5, e6, e7, e8, e9, e10, e11⟩ := h3
        exact ⟨a, o, vs, e1, e2, hk a o (off a fun p hp => e11 p (inW p hp)) e3, e4, e5, e6, e7, e8, e9, e10, fun p hp => e11 p (List.mem_append_right _ hp)⟩
  · obtain ⟨ca, v, e1, e2, e3⟩ := key.cells z d e kk
    exact ⟨ca, v, e1, IsCell.keeps' e2 fun o ho => hk _ _ (off _ fun p hp q => (x.rsI p (inW p hp)).2.2.2.2.2 z ca e1 q.symm) ho, e3⟩
  · obtain ⟨⟨v, e1⟩, e2⟩ := key.cellI z ca e
    exact ⟨⟨v, IsCell.keeps' e1 fun o ho => hk _ _ (off _ fun p hp q => (x.rsI p (inW p hp)).2.2.2.2.2 z ca e q.symm) ho⟩, e2⟩
  · obtain ⟨d1, d2⟩ := key.rsI p hp
    exact ⟨hk _ _ (off _ fun p' hp' q => hap p' hp' p hp q.symm) d1, d2⟩

theorem for_core {c : Cx} {target : Expr} {body : List Stmt} {I : Addr} {wr : List Addr} {items : List D} {St : Nat → Heap → Prop} {oc : Oc} {ρ : Rho} {fz : Fz} {s : Shared} {Qn : Rho → Oc → Prop} {Qr : D → Prop} {R : Result → Shared → Prop} {ws : List (Addr × Obj)}
    (W : It c.prog c.w c.A c.sr target fz I wr items St) (hws : ws.map (·.1) = wr) (hap : ∀ p ∈ ws, ∀ q ∈ c.rs, p.1 ≠ q.1) (S : SR (c.on ws) oc fz ρ s) (st : St 0 s.heap) (h : Turns c target body Qn Qr items ρ oc)
    (k1 : ∀ fz' ρ' oc' s', (∀ a o, fz a o → fz' a o) → SR c oc' fz' ρ' s' → Qn ρ' oc' → R (.ok .next) s') (k2 : ∀ fz' v d s', Step c.sr c.fc c.s0 fz' s' → Rd fz' c.sr d v → Qr d → R (.ok (.ret v)) s') :
    codeAny c.M c.A (.forLoop target (.ref I) body [] c.env) R s := by
  subst hws
  refine codeAny_forLoop_any (fun k s' => ∃ i ws' ρ' oc' fz', k = items.length - i ∧ i ≤ items.length ∧ ws'.map (·.1) = ws.map (·.1) ∧ (∀ p ∈ ws', ∀ q ∈ c.rs, p.1 ≠ q.1) ∧ (∀ a o, fz a o → fz' a o) ∧ SR (c.on ws') oc' fz' ρ' s' ∧ St i s'.heap ∧
    Turns c target body Qn Qr (items.drop i) ρ' oc') (fun k s' hI => ?_) items.length ⟨0, ws, ρ, oc, fz, by simp, by simp, rfl, hap, fun _ _ z => z, S, st, by simpa using h⟩
  obtain ⟨i, ws', ρ', oc', fz', rfl, hi, hw', hap', hsub, S', st', ht⟩ := hI
  have hfw : ∀ b ∈ ws.map (·.1), ∀ o, ¬ fz' b o := fun b hb o z => by
    rw [← hw'] at hb
    obtain ⟨p, hp, rfl⟩ := List.mem_map.mp hb
    exact (S'.rsI p (List.mem_append_left _ hp)).2.2.1 o z
  by_cases q : i = items.length
  · subst q
    rw [List.drop_length] at ht
    refine W.done fz' s' _ _ st' hsub S'.inn hfw fun h' tk hk => ?_
    refine wpAny_execs_nil ?_
    have S₂ : SR c oc' fz' ρ' { s' with heap := h', toks := tk } := S'.dropOff hap' fun b o hb e => hk b o (by rw [← hw']; exact hb) e
    exact k1 _ _ _ _ hsub S₂ ht
  · have hlt : i < items.length := by omega
    obtain ⟨d, hd⟩ : ∃ d, items[i]? = some d := ⟨_, List.getElem?_eq_getElem hlt⟩
    have hdrop : items.drop i = d :: items.drop (i + 1) := by
      rw [List.drop_eq_getElem_cons hlt]
      congr 1
      rw [List.getElem?_eq_getElem hlt] at hd
      exact Option.some.inj hd
    rw [hdrop] at ht
    refine wpAny_mono (W.turn i d fz' s' (fun v s₂ => wpAny c.M c.A (assign target c.env v) (fun _ s₃ => wpAny c.M c.A (execs body c.env) (fun f s₄ => match f with
          | .next => ∃ m, m < items.length - i ∧ (∃ j ws₂ ρ₂ oc₂ f₂, m = items.length - j ∧ j ≤ items.length ∧ ws₂.map (·.1) = ws.map (·.1) ∧ (∀ p ∈ ws₂, ∀ q ∈ c.rs, p.1 ≠ q.1) ∧ (∀ a o, fz a o → f₂ a o) ∧ SR (c.on ws₂) oc₂ f₂ ρ₂ s₄ ∧ St j s₄.heap ∧ Turns c target body Qn Qr (items.drop j) ρ₂ oc₂)
          | .cont => ∃ m, m < items.length - i ∧ (∃ j ws₂ ρ₂ oc₂ f₂, m = items.length - j ∧ j ≤ items.length ∧ ws₂.map (·.1) = ws.map (·.1) ∧ (∀ p ∈ ws₂, ∀ q ∈ c.rs, p.1 ≠ q.1) ∧ (∀ a o, fz a o → f₂ a o) ∧ SR (c.on ws₂) oc₂ f₂ ρ₂ s₄ ∧ St j s₄.heap ∧ Turns c target body Qn Qr (items.drop j) ρ₂ oc₂)
          | .brk => R (.ok .next) s₄
          | .ret v => R (.ok (.ret v)) s₄) (notedBy c.M c.A c.env fun e s' => R (.error e) s') s₃) (notedBy c.M c.A c.env fun e s' => R (.error e) s') s₂) _ (notedBy c.M c.A c.env fun e s' => R (.error e) s') hd st' hsub S'.inn hfw fun v g h' tk hst hsg hgi hfr hk rv => ?_) (fun r s₁ hr => ?_) fun _ _ x => x
    · obtain ⟨ws₂, hm₂, hw₂⟩ := objs_at (W.ex _ _ hst)
      have S₂ : SR (c.on ws₂) oc' g ρ' { s' with heap := h', toks := tk } := S'.turnRs hap' (fun b o hb e => hk b o (by rw [← hw']; exact hb) e) (by rw [hm₂, hw']) hw₂ hsg hgi hfr
      have ht' := ht (ws₂ ++ c.rs)
      refine ht' g _ v _ _ S₂ rv fun ρ₃ s₃ S₃ hb => ?_
      refine hb g s₃ _ _ S₃ (fun f₄ ρ₄ oc₄ s₄ sub₄ S₄ q₄ => ?_) fun f₄ v₄ d₄ s₄ st₄ r₄ q₄ => ?_
      · refine ⟨items.length - (i + 1), by omega, i + 1, ws₂, ρ₄, oc₄, f₄, rfl, hlt, hm₂, fun p hp => ?_, fun a o z => sub₄ _ _ (hsg _ _ (hsub _ _ z)), S₄, ?_, q₄⟩
        · obtain ⟨q, hq, e⟩ := mem_fst (ws := ws') (by rw [hm₂, hw']) hp
          rw [← e]; exact hap' q hq
        · refine W.frame _ _ _ hst (fun b hb o ho => ?_) fun a o z => S₄.inn _ _ (sub₄ _ _ (hsg _ _ (hsub _ _ z)))
          rw [← hm₂] at hb
          obtain ⟨p, hp, rfl⟩ := List.mem_map.mp hb
          have h1 := (S₄.rsI p (List.mem_append_left _ hp)).1
          have h2 := hw₂ p hp
          rw [h2] at ho; cases ho
          exact h1
      · exact k2 _ _ _ _ st₄ r₄ q₄
    · obtain ⟨v, rfl, hv⟩ := hr
      exact hv

section
variable {c : Cx} {ρ : Rho} {oc : Oc} {pos : Pos} {target iter : Expr} {body : List Stmt} {Qn : Rho → Oc → Prop} {Qr : D → Prop}
/-- the shared end of a for: the iterator is new -/
theorem for_end {I : Addr} {items : List D} {St : Nat → Heap → Prop} {fz g : Fz} {s s' : Shared} {R : Result → Shared → Prop} {wr : List Addr} (S : SR c oc fz ρ s) (y : Step c.sr fz s g s') (W : It c.prog c.w c.A c.sr target g I wr items St) (st : St 0 s'.heap)
    (hn : ∀ b ∈ wr, s.heap.get? b = none) (hg : ∀ b ∈ wr, ∀ o, ¬ g b o) (h : Turns c target body Qn Qr items ρ oc)
    (k1 : ∀ fz' ρ' oc' s', (∀ a o, fz a o → fz' a o) → SR c oc' fz' ρ' s' → Qn ρ' oc' → R (.ok .next) s') (k2 : ∀ fz' v d s', Step c.sr c.fc c.s0 fz' s' → Rd fz' c.sr d v → Qr d → R (.ok (.ret v)) s') :
    codeAny c.M c.A (.forLoop target (.ref I) body [] c.env) R s' := by
  obtain ⟨ws, hm, hw⟩ := objs_at (W.ex _ _ st)
  have hb : ∀ p ∈ ws, p.1 ∈ wr := fun p hp => hm ▸ List.mem_map_of_mem hp
  refine for_core W hm (fun p hp q hq e => ?_) (S.addRs y (fun p hp => hn _ (hb p hp)) (fun p hp => hg _ (hb p hp)) hw) st h (fun f ρ' oc' s'' sub S' q => k1 _ _ _ _ (fun a o z => sub _ _ (y.sub _ _ z)) S' q) k2
  have h1 := hn _ (hb p hp)
  have h2 := (S.rsI q hq).1
  rw [e, h2] at h1; cases h1

/-- a source of data: what is evaluated and made an iterator -/
noncomputable def SrcIt (c : Cx) (iter : Expr) (ρ : Rho) (P : List D → Prop) : Prop :=
  ∀ target oc fz s (Φ : Value → Shared → Prop) (E : Value → Shared → Prop), SR c oc fz ρ s →
    (∀ g s₂ g' s' I wr items St, Step c.sr fz s g s₂ → Step c.sr g s₂ g' s' → It c.prog c.w c.A c.sr target g' I wr items St → St 0 s'.heap → (∀ b ∈ wr, s₂.heap.get? b = none) → (∀ b ∈ wr, ∀ o, ¬ g' b o) → P items → Φ (.ref I) s') →
    wpAny c.M c.A (eval iter c.env) (fun x s₁ => wpAny c.M c.A (pyIter x) Φ E s₁) E s

theorem Src_val {P : List D → Prop} (h : SemE c iter ρ fun d => ∃ l, (d = .tup l ∨ d = .lst l ∨ ∃ x, d = .str x ∧ l = signsD x) ∧ P l) : SrcIt c iter ρ P := by
  intro target oc fz s Φ E S k
  refine h oc fz s _ E S fun fz₁ v d s₁ st₁ r₁ q => ?_
  obtain ⟨l, hd, ht⟩ := q
  have S₁ := S.on st₁
  have hN := none_size s₁.heap
  have fresh : ∀ b ∈ [s₁.heap.objs.size], s₁.heap.get? b = none := fun b hb => by simp at hb; subst hb; exact hN
  have notF : ∀ b ∈ [s₁.heap.objs.size], ∀ o, ¬ fz₁ b o := fun b hb o z => by
    simp at hb; subst hb
    have := S₁.inn _ _ z; rw [hN] at this; cases this
  rcases hd with rfl | rfl | ⟨x, rfl, rfl⟩
  · simp only [Rd] at r₁
    obtain ⟨a, o, vs, rfl, ho, hq, hl⟩ := r₁
    have hT : s₁.heap.IsTuple a vs.toArray := ⟨o, S₁.inn _ _ ho, hq.1, hq.2.2⟩
    refine wpAny_pyIter_tuple hT ?_
    refine k fz₁ s₁ fz₁ _ _ _ l _ st₁ (Step.keep (h' := s₁.heap.push _) (t' := s₁.toks) S₁.step.src S₁.inn fun b p hb => Heap.get?_push_of_some _ hb) (It.tuple S.room.1 (fun q => ?_) ho hq hl) ⟨_, Heap.get?_push_size _ rfl, rfl, rfl⟩ fresh notF ht
    have := S₁.inn _ _ ho; rw [q, hN] at this; cases this
  · simp only [Rd] at r₁
    obtain ⟨a, o, vs, rfl, ho, hq, hl⟩ := r₁
    have hT : s₁.heap.IsList a vs.toArray := ⟨o, S₁.inn _ _ ho, hq.1, hq.2.2⟩
    refine wpAny_pyIter_list hT ?_
    refine k fz₁ s₁ fz₁ _ _ _ l _ st₁ (Step.keep (h' := s₁.heap.push _) (t' := s₁.toks) S₁.step.src S₁.inn fun b p hb => Heap.get?_push_of_some _ hb) (It.list S.room.1 (fun q => ?_) ho hq hl) ⟨_, Heap.get?_push_size _ rfl, rfl, rfl⟩ fresh notF ht
    have := S₁.inn _ _ ho; rw [q, hN] at this; cases this
  · simp only [Rd] at r₁
    obtain ⟨t, rfl⟩ := r₁
    refine wpAny_pyIter_strU ?_
    exact k fz₁ s₁ fz₁ _ _ _ _ _ st₁ (Step.keep (h' := s₁.heap.push _) (t' := s₁.toks) S₁.step.src S₁.inn fun b p hb => Heap.get?_push_of_some _ hb) (It.text S.room.1 x t) ⟨_, Heap.get?_push_size _ rfl, rfl, rfl⟩ fresh notF ht

theorem rangeOne (a b : Int) : Builtin.Range.rangeSize a b 1 = ((b - a).toNat : Int) := by
  rw [rangeSize_one]
  split <;> omega
theorem Src_range {P : List D → Prop} {f : Str} {p : Pos} {e : Expr} {es : List Expr} {mg mb : Str → Option Value} (hx : c.env.kindOf f = some .globalImplicit) (hd : (f == ("__debug__" : Str)) = false) (G : c.base.Ns mainGlobals mg) (B : c.base.Ns builtinsNs mb)
    (hm : mg f = none) (hb : mb f = some (.type "range")) (hst : starEach (e :: es) c.env = (false, eval e c.env) :: starEach es c.env) (hpl : ((backTo pos (starEach es c.env)).any fun x => x.1) = false)
    (h : SemL c pos (e :: es) ρ fun ds => ∃ a b : Int, ((ds = [.int b] ∧ a = 0) ∨ ds = [.int a, .int b]) ∧ -(2 ^ 62) ≤ a ∧ a < 2 ^ 62 ∧ -(2 ^ 62) ≤ b ∧ b < 2 ^ 62 ∧ P (intsD a (b - a).toNat)) : SrcIt c (.Call (.Name f p) (e :: es) [] pos) ρ P := by
  intro target oc fz s Φ E S k
  refine wpAny_Call_NameR (builtin_name S hx hd G B hm hb ?_)
  refine PyProof.Rows.callWith_type1 (h oc fz s _ E S fun fz₁ vs ds s₁ st r _ q => ?_) hst hpl
  obtain ⟨a, b, hds, ha, ha', hb, hb', q⟩ := q
  have S₁ := S.on st
  have fin : ∀ (t u v : Tok) (h' : Heap) (tk : Nat), IsRange h' s₁.heap.objs.size a b 1 t u v → (∀ x o, s₁.heap.get? x = some o → h'.get? x = some o) → wpAny c.M c.A (pyIter (.ref s₁.heap.objs.size)) Φ E { s₁ with heap := h', toks := tk } := fun t u v h' tk hr hk => by
    have st₂ : Step c.sr fz₁ s₁ fz₁ { s₁ with heap := h', toks := tk } := Step.keep S₁.step.src S₁.inn hk
    have S₂ := S₁.on st₂
    have hN := none_size h'
    refine wpAny_pyIter_range hr (small_one ha ha' hb hb') ?_
    refine k fz₁ _ fz₁ _ _ _ _ _ (st.trans st₂) (Step.keep (h' := h'.push _) (t' := tk) S₂.step.src S₂.inn fun b p hb => Heap.get?_push_of_some _ hb) (It.range (I := h'.objs.size) S.room.1 a (b - a).toNat) ?_ (fun b hb => ?_) (fun b hb o z => ?_) q
    · have := Heap.get?_push_size (o := { cls := .type "range_iterator", data := .fields #[rawInt a, rawInt (Builtin.Range.rangeSize a b 1), rawInt 1] }) h' rfl
      rw [rangeOne] at this ⊢
      show IsRangeIter _ _ (a + ((0 : Nat) : Int)) (((b - a).toNat : Int) - ((0 : Nat) : Int)) 1
      have e1 : a + ((0 : Nat) : Int) = a := by omega
      have e2 : (((b - a).toNat : Int) - ((0 : Nat) : Int)) = ((b - a).toNat : Int) := by omega
      rw [e1, e2]
      exact this
    · simp at hb; subst hb; exact hN
    · simp at hb; subst hb
      have := S₂.inn _ _ z; exact nomatch (hN.symm.trans this)
  rcases hds with ⟨rfl, rfl⟩ | rfl
  · simp only [RdL, Rd] at r
    obtain ⟨v, us, rfl, ⟨t, rfl⟩, rfl⟩ := r
    exact call_range_1 (fin _ _ _ _ _ (IsRange.new ..) fun _ _ e => Heap.get?_push_of_some _ e)
  · simp only [RdL, Rd] at r
    obtain ⟨v, us, rfl, ⟨t, rfl⟩, v', us', rfl, ⟨t', rfl⟩, rfl⟩ := r
    exact call_range_2 (fin _ _ _ _ _ (IsRange.new ..) fun _ _ e => Heap.get?_push_of_some _ e)

theorem S_for (hs : ∀ x, foldedSetIterable iter c.env x = pure x) (h : SrcIt c iter ρ fun l => Turns c target body Qn Qr l ρ oc) : SemS c (.For target iter body [] pos) ρ oc Qn Qr := by
  intro fz s Φ E S k1 k2
  refine wpAny_For (h target oc fz s _ E S fun g s₂ g' s' I wr items St st₁ st₂ W hst hn hg ht => ?_) hs
  exact for_end (R := fun r s' => match r with | .ok f => Φ f s' | .error e => cameBackBy c.M c.A c.env E e s') (S.on st₁) st₂ W hst hn hg ht (fun f ρ' oc' s' sub => k1 f ρ' oc' s' fun a o z => sub _ _ (st₁.sub _ _ z)) k2
end

-- F9

/-- the tests of a comprehension, none or one -/
noncomputable def SemT (c : Cx) (ifs : List Expr) (ρ : Rho) (Q : Bool → Prop) : Prop := match ifs with
  | [] => Q true
  | [t] => SemC c t ρ Q
  | _ => False
noncomputable def CompT (c : Cx) (target : Expr) (ifs : List Expr) (elt : Expr) (Q : List D → Prop) : List D → Rho → List D → Prop
  | [], ρ, acc => Q acc
  | d :: ds, ρ, acc => ∀ rs, SemA (c.withRs rs) target d ρ none fun ρ' => SemT (c.withRs rs) ifs ρ' fun ok =>
      (ok = true → SemE (c.withRs rs) elt ρ' fun y => CompT c target ifs elt Q ds ρ' (acc ++ [y])) ∧ (ok = false → CompT c target ifs elt Q ds ρ' acc)

noncomputable abbrev testsOf (ifs : List Expr) (env : Env) : Sem Bool := forIn ifs true fun c r => if r = true then do let ok ← PySem.isTrue c env (eval c env); pure (ForInStep.yield ok) else pure (ForInStep.yield r)

theorem loop_comp {prog : Program} {w : World} {A : Around} {R : Result → Shared → Prop} {s : Shared} {elt target iter : Expr} {ifs : List Expr} {scope : Scope} {pos : Pos} {it acc : Value} {env : Env} (I : Nat → Shared → Prop)
    (turn : ∀ n s, I n s → ∀ E', wpAny (model prog w) A (pyNext it) (fun r s₁ => (r = none ∧ R (.ok .next) s₁) ∨ ∃ v, r = some v ∧ wpAny (model prog w) A (letOwnedTupleGo target it v) (fun _ s₁' => wpAny (model prog w) A (assign target env v) (fun _ s₂ =>
          wpAny (model prog w) A (testsOf ifs env) (fun ok s₃ => if ok = true then wpAny (model prog w) A (eval elt env) (fun x s₄ => wpAny (model prog w) A (call (.builtin "list.append") [acc, x]) (fun _ s₅ => ∃ m, m < n ∧ I m s₅) E' s₄) E' s₃
            else ∃ m, m < n ∧ I m s₃) E' s₂) E' s₁') E' s₁) E' s)
    (n : Nat) (h : I n s) : codeAny (model prog w) A (.compLoop (.ListComp elt [⟨target, iter, ifs, 0⟩] scope pos) 0 it acc env) R s := by
  refine codeAny_loop rfl I (fun m s' J => wpAny_noted ?_) n h
  rw [compTurn_list]
  refine wpAny_bind (wpAny_standAt (wpAny_bind (wpAny_mono (turn m s' J _) (fun r s₁ d => ?_) fun _ _ e => e)))
  obtain ⟨rfl, d⟩ | ⟨v, rfl, d⟩ := d
  · exact wpAny_pure d
  refine wpAny_bind (wpAny_mono d (fun _ _ d => wpAny_bind (wpAny_mono d (fun _ _ d => wpAny_bind (wpAny_mono d (fun ok _ d => ?_) fun _ _ e => e)) fun _ _ e => e)) fun _ _ e => e)
  match ok, d with
  | false, d => exact wpAny_pure ⟨rfl, d⟩
  | true, d => exact wpAny_bind (wpAny_bind (wpAny_mono d (fun _ _ d => wpAny_bind (wpAny_mono d (fun _ _ d => wpAny_pure (wpAny_pure ⟨rfl, d⟩)) fun _ _ e => e)) fun _ _ e => e))

noncomputable def accO (vs : List Value) (n : Nat) : Obj := { cls := .type "list", data := .seq vs.toArray n }

theorem sizes (us : List Value) (h : us.length < 1000000) : us.toArray.size ≤ sizeLine := by
  rw [List.size_toArray]; have : (1000000 : Nat) ≤ sizeLine := by decide
  omega
theorem comp_core {c : Cx} {target elt iter : Expr} {ifs : List Expr} {scope : Scope} {pos : Pos} {I a : Addr} {wr : List Addr} {items : List D} {St : Nat → Heap → Prop} {ρ : Rho} {fz : Fz} {s : Shared} {Q : List D → Prop} {R : Result → Shared → Prop} {ws : List (Addr × Obj)} {vs : List Value} {acc : List D} {n : Nat}
    (hrs : c.rs = []) (W : It c.prog c.w c.A c.sr target fz I wr items St) (hws : ws.map (·.1) = wr) (haw : a ∉ wr) (S : SR (c.on ((a, accO vs n) :: ws)) none fz ρ s) (st : St 0 s.heap) (hacc : RdL fz c.sr acc vs) (hsz : items.length + vs.length ≤ 1000000)
    (h : CompT c target ifs elt Q items ρ acc)
    (k : ∀ fz' ρ' s' us ds m, (∀ a o, fz a o → fz' a o) → SR (c.on [(a, accO us m)]) none fz' ρ' s' → RdL fz' c.sr ds us → Q ds → R (.ok .next) s') :
    codeAny c.M c.A (.compLoop (.ListComp elt [⟨target, iter, ifs, 0⟩] scope pos) 0 (.ref I) (.ref a) c.env) R s := by
  subst hws
  refine loop_comp (fun m s' => ∃ i ws' ρ' fz' us ds j, m = items.length - i ∧ i ≤ items.length ∧ ws'.map (·.1) = ws.map (·.1) ∧ (∀ a o, fz a o → fz' a o) ∧ SR (c.on ((a, accO us j) :: ws')) none fz' ρ' s' ∧ St i s'.heap ∧ RdL fz' c.sr ds us ∧ us.length ≤ vs.length + i ∧
    CompT c target ifs elt Q (items.drop i) ρ' ds) (fun m s' hI E' => ?_) items.length ⟨0, ws, ρ, fz, vs, acc, n, by simp, by simp, rfl, fun _ _ z => z, S, st, hacc, by simp, by simpa using h⟩
  obtain ⟨i, ws', ρ', fz', us, ds, j, rfl, hi, hw', hsub, S', st', hus, hln, ht⟩ := hI
  have inW : ∀ p ∈ ws', p ∈ (c.on ((a, accO us j) :: ws')).rs := fun p hp => List.mem_append_left _ (.tail _ hp)
  have hfw : ∀ b ∈ ws.map (·.1), ∀ o, ¬ fz' b o := fun b hb o z => by
    rw [← hw'] at hb
    obtain ⟨p, hp, rfl⟩ := List.mem_map.mp hb
    exact (S'.rsI p (inW p hp)).2.2.1 o z
  have haI := S'.rsI (a, accO us j) (List.mem_append_left _ (.head _))
  by_cases q : i = items.length
  · subst q
    rw [List.drop_length] at ht
    refine W.done fz' s' _ _ st' hsub S'.inn hfw fun h' tk hk => .inl ⟨rfl, ?_⟩
    have S₁ : SR ({ c with rs := [(a, accO us j)] } : Cx) none fz' ρ' { s' with heap := h', toks := tk } := by
      have e : SR (({ c with rs := [(a, accO us j)] } : Cx).on ws') none fz' ρ' s' := by
        refine ⟨S'.step, S'.room, S'.bs, S'.srcF, S'.src0, S'.ns, S'.cells, S'.locF, S'.locS, S'.locN, S'.cellI, S'.cellA, fun p hp => S'.rsI p ?_, S'.fun_, S'.glob, S'.bltn⟩
        rcases List.mem_append.mp hp with hp | hp
        · exact inW p hp
        · simp at hp; subst hp; exact List.mem_append_left _ (.head _)
      refine e.dropOff (fun p hp q hq e => ?_) fun b o hb e => hk b o (by rw [← hw']; exact hb) e
      simp at hq; subst hq
      exact haw (by rw [← hw']; exact List.mem_map.mpr ⟨p, hp, e⟩)
    refine k fz' ρ' _ us ds j hsub ?_ hus ht
    show SR ({ c with rs := [(a, accO us j)] ++ c.rs } : Cx) none fz' ρ' _
    rw [hrs]; exact S₁
  · have hlt : i < items.length := by omega
    obtain ⟨d, hd⟩ : ∃ d, items[i]? = some d := ⟨_, List.getElem?_eq_getElem hlt⟩
    have hdrop : items.drop i = d :: items.drop (i + 1) := by
      rw [List.drop_eq_getElem_cons hlt]
      congr 1
      rw [List.getElem?_eq_getElem hlt] at hd
      exact Option.some.inj hd
    rw [hdrop] at ht
    refine wpAny_mono (W.turn i d fz' s' _ _ E' hd st' hsub S'.inn hfw fun v g h' tk hst hsg hgi hfr hk rv => ?_) (fun r s₁ hr => .inr hr) fun _ _ x => x
    obtain ⟨ws₂, hm₂, hw₂⟩ := objs_at (W.ex _ _ hst)
    have S₂ : SR (c.on ((a, accO us j) :: ws₂)) none g ρ' { s' with heap := h', toks := tk } := by
      refine S'.turnRs (ws' := (a, accO us j) :: ws₂) (fun p hp q hq => by rw [hrs] at hq; cases hq) (fun b o hb e => hk b o (fun hb' => hb ?_) e) (by simp [hm₂, hw']) (fun p hp => ?_) hsg hgi hfr
      · rw [← hw'] at hb'; simp only [List.map_cons]; exact .tail _ hb'
      · rcases List.mem_cons.mp hp with rfl | hp
        · exact hk a _ haw haI.1
        · exact hw₂ p hp
    have ht' := ht (((a, accO us j) :: ws₂) ++ c.rs)
    refine ht' g _ v _ _ S₂ rv fun ρ₃ s₃ S₃ hb => ?_
    -- the tests
    have tests : ∀ (Φ : Bool → Shared → Prop), (∀ f b s₄, Step c.sr g s₃ f s₄ → ((b = true → SemE (c.withRs (((a, accO us j) :: ws₂) ++ c.rs)) elt ρ₃ fun y => CompT c target ifs elt Q (items.drop (i + 1)) ρ₃ (ds ++ [y])) ∧ (b = false → CompT c target ifs elt Q (items.drop (i + 1)) ρ₃ ds)) → Φ b s₄) →
        wpAny c.M c.A (testsOf ifs c.env) Φ E' s₃ := fun Φ kk => by
      match ifs, hb with
      | [], hb => exact wpAny_tests_nil (kk g true s₃ (Step.refl S₃.inn S₃.step.src) hb)
      | [t], hb => exact wpAny_tests_one (hb none g s₃ Φ E' S₃ fun f b s₄ st₄ q₄ => kk f b s₄ st₄ q₄)
    have atS : ∀ (f : Fz) (s₄ : Shared), Step c.sr g s₃ f s₄ → St (i + 1) s₄.heap := fun f s₄ st₄ => by
      refine W.frame _ _ _ hst (fun b hb o ho => ?_) fun a o z => st₄.inn _ _ (st₄.sub _ _ (hsg _ _ (hsub _ _ z)))
      rw [← hm₂] at hb
      obtain ⟨p, hp, rfl⟩ := List.mem_map.mp hb
      have h1 := ((S₃.on st₄).rsI p (List.mem_append_left _ (.tail _ hp))).1
      have h2 := hw₂ p hp
      rw [h2] at ho; cases ho
      exact h1
    refine tests _ fun f₄ b s₄ st₄ q₄ => ?_
    have S₄ := S₃.on st₄
    cases b with
    | false =>
      rw [if_neg (by simp)]
      exact ⟨items.length - (i + 1), by omega, i + 1, ws₂, ρ₃, f₄, us, ds, j, rfl, hlt, hm₂, fun a o z => st₄.sub _ _ (hsg _ _ (hsub _ _ z)), S₄, atS _ _ st₄, hus.mono fun a o z => st₄.sub _ _ (hsg _ _ z), by omega, q₄.2 rfl⟩
    | true =>
      rw [if_pos rfl]
      refine q₄.1 rfl none f₄ s₄ _ E' S₄ fun f₅ y dy s₅ st₅ r₅ q₅ => ?_
      have S₅ := S₄.on st₅
      have haI5 := S₅.rsI (a, accO us j) (List.mem_append_left _ (.head _))
      refine wpAny_list_append_plain (l := a) (items := us.toArray) ⟨j, haI5.1⟩ (fun h₆ hp₆ hs₆ => ?_) (sizes us (by omega))
      obtain ⟨j', hj'⟩ := hp₆
      have hj2 : h₆.get? a = some (accO (us ++ [y]) j') := by rw [hj']; simp [accO]
      have S₆ : SR (c.on ((a, accO (us ++ [y]) j') :: ws₂)) none f₅ ρ₃ { s₅ with heap := h₆, toks := s₅.toks } := by
        refine S₅.turnRs (ws := (a, accO us j) :: ws₂) (ws' := (a, accO (us ++ [y]) j') :: ws₂) (fun p hp q hq => by rw [hrs] at hq; cases hq) (fun b o hb e => hs₆.extBut b o (fun q => hb (by simp [q])) e) (by simp) (fun p hp => ?_) (fun _ _ z => z) (fun b o z => ?_) fun _ _ z => .inl z
        · rcases List.mem_cons.mp hp with rfl | hp
          · exact hj2
          · refine hs₆.extBut _ _ (fun q => haw ?_) (S₅.rsI p (List.mem_append_left _ (.tail _ hp))).1
            rw [← q, ← hm₂]; exact List.mem_map_of_mem hp
        · exact hs₆.extBut b o (fun q => haI5.2.2.1 o (q ▸ z)) (S₅.inn _ _ z)
      refine ⟨items.length - (i + 1), by omega, i + 1, ws₂, ρ₃, f₅, us ++ [y], ds ++ [dy], j', rfl, hlt, hm₂, fun a o z => st₅.sub _ _ (st₄.sub _ _ (hsg _ _ (hsub _ _ z))), S₆, ?_, RdL.append (hus.mono fun a o z => st₅.sub _ _ (st₄.sub _ _ (hsg _ _ z))) ⟨y, [], rfl, r₅, rfl⟩, by simp; omega, q₅⟩
      refine W.frame _ _ _ (atS _ _ (st₄.trans st₅)) (fun b hb o ho => hs₆.extBut b o (fun q => haw (q ▸ hb)) ho) fun b o z => S₆.inn _ _ (st₅.sub _ _ (st₄.sub _ _ (hsg _ _ (hsub _ _ z))))

-- F10

/-- the cells that a comprehension takes from around it -/
noncomputable def clOf (cells : List (Str × Addr)) : List (Str × NameKind) → List (Str × Addr) → List (Str × Addr)
  | [], cs => cs
  | (n, k) :: r, cs => clOf cells r (if k == .free then (n, (cells.lookup n).getD 0) :: cs else cs)
theorem closureFor_clOf {scope : Scope} {env : Env} (h : ∀ x ∈ scope.names, x.2 = .free → (env.cells.lookup x.1).isSome = true) : closureFor scope env = pure (clOf env.cells scope.names []) := by
  unfold closureFor
  suffices ∀ (l : List (Str × NameKind)) cs, (∀ x ∈ l, x.2 = .free → (env.cells.lookup x.1).isSome = true) →
      (forIn l cs (fun (x : Str × NameKind) (r : List (Str × Addr)) => (match x with
        | (name, kind) => if (kind == .free) = true then do let a ← cellOf env name; pure (ForInStep.yield ((name, a) :: r)) else pure (ForInStep.yield r) : Sem (ForInStep (List (Str × Addr))))) : Sem (List (Str × Addr))) = pure (clOf env.cells l cs) by
    have t := this scope.names [] h
    show (_ >>= fun r => pure r : Sem (List (Str × Addr))) = _
    refine Eq.trans (congrArg (fun m => (m >>= fun r => pure r : Sem (List (Str × Addr)))) t) ?_
    rfl
  intro l
  induction l with
  | nil => intro cs _; rfl
  | cons x r ih =>
    intro cs hx
    obtain ⟨n, k⟩ := x
    have ih' := fun cs => ih cs fun y hy => hx y (.tail _ hy)
    rw [List.forIn_cons]
    by_cases hk : (k == NameKind.free) = true
    · have := hx (n, k) (.head _) (by simpa using hk)
      obtain ⟨a, ha⟩ := Option.isSome_iff_exists.mp this
      have e : cellOf env n = pure a := by simp only [cellOf]; rw [show env.cells.lookup n = some a from ha]
      simp only [hk, if_true, e]
      rw [clOf, hk, if_pos rfl, show env.cells.lookup n = some a from ha]
      exact ih' _
    · have hk' : (k == NameKind.free) = false := by simpa using hk
      simp only [hk']
      rw [clOf, hk', if_neg (by simp)]
      exact ih' _

theorem clOf_sound {cells : List (Str × Addr)} : ∀ {l : List (Str × NameKind)} {cs : List (Str × Addr)}, (∀ x ∈ l, x.2 = .free → (cells.lookup x.1).isSome = true) → (∀ x ca, cs.lookup x = some ca → cells.lookup x = some ca) → ∀ x ca, (clOf cells l cs).lookup x = some ca → cells.lookup x = some ca
  | [], cs, _, h, x, ca, e => h x ca e
  | (n, k) :: r, cs, hx, h, x, ca, e => by
    rw [clOf] at e
    refine clOf_sound (fun y hy => hx y (.tail _ hy)) (fun y cb e' => ?_) x ca e
    by_cases hk : (k == NameKind.free) = true
    · rw [if_pos hk, List.lookup_cons] at e'
      split at e'
      · rename_i q
        have q : y = n := by simpa using q
        subst q
        have := hx (y, k) (.head _) (by simpa using hk)
        obtain ⟨a, ha⟩ := Option.isSome_iff_exists.mp this
        rw [ha] at e' ⊢
        exact e'
      · exact h y cb e'
    · rw [if_neg hk] at e'; exact h y cb e'
theorem clOf_mono {cells : List (Str × Addr)} : ∀ {l : List (Str × NameKind)} {cs : List (Str × Addr)} {x : Str}, (cs.lookup x).isSome = true → ((clOf cells l cs).lookup x).isSome = true
  | [], _, _, h => h
  | (n, k) :: r, cs, x, h => by
    rw [clOf]
    refine clOf_mono ?_
    split
    · rw [List.lookup_cons]; split
      · rfl
      · exact h
    · exact h
theorem clOf_has {cells : List (Str × Addr)} : ∀ {l : List (Str × NameKind)} {cs : List (Str × Addr)} {x : Str}, l.lookup x = some .free → ((clOf cells l cs).lookup x).isSome = true
  | [], _, _, h => by simp at h
  | (n, k) :: r, cs, x, h => by
    rw [clOf]
    rw [List.lookup_cons] at h
    split at h
    · rename_i q
      cases h
      refine clOf_mono ?_
      rw [if_pos (by rfl), List.lookup_cons]
      rw [show (x == n) = true from q]; rfl
    · exact clOf_has h
/-- a look-up behind a map that keeps the keys -/
theorem lookup_kept {β γ : Type} {f : Str × β → Str × γ} (key : ∀ p, (f p).1 = p.1) (x : Str) : ∀ l : List (Str × β), (l.map f).lookup x = (l.lookup x).map fun k => (f (x, k)).2
  | [] => rfl
  | (n, k) :: l => by
    have e : f (n, k) = (n, (f (n, k)).2) := Prod.ext (key _) rfl
    rw [List.map_cons, e, List.lookup_cons, List.lookup_cons]
    by_cases hx : x = n
    · subst hx; simp
    · rw [show (x == n) = false from by simpa using hx]; exact lookup_kept key x l
theorem relabel_cell {env : Env} (hk : env.scope.kind = .function) {x : Str} (hx : env.kindOf x = some .cell) {names : List (Str × NameKind)} (h : names.lookup x = some .free) :
    (names.map fun (n, k) => if (k == NameKind.free && env.scope.kind == .function && env.kindOf n == some .cell) then (n, NameKind.cell) else (n, k)).lookup x = some .cell := by
  refine (lookup_kept (fun p => by dsimp only; split <;> rfl) x names).trans ?_
  rw [h]
  simp [hk, hx]

noncomputable abbrev Cx.comp (c : Cx) (scope : Scope) (C : Addr) (fc : Fz) (s0 : Shared) : Cx := { c with env := compEnvC scope (clOf c.env.cells scope.names []) C c.env, fc := fc, s0 := s0, cellsOwn := false, rs := [] }
noncomputable def compRho (names : List (Str × NameKind)) (env : Env) (ρ : Rho) : Rho := fun x => if names.lookup x = some .free ∧ env.kindOf x = some .cell then ρ x else none
theorem rho_comp {names : List (Str × NameKind)} {env : Env} {ρ : Rho} {x : Str} {d : D} (h1 : names.lookup x = some .free) (h2 : env.kindOf x = some .cell) (h : ρ x = some d) : compRho names env ρ x = some d := by
  rw [compRho, if_pos ⟨h1, h2⟩, h]

theorem Step.none {sr : Option Addr} {f g : Fz} {s s' : Shared} (y : Step sr f s g s') (hs : SrcIn sr s.heap) {a : Addr} (h : s'.heap.get? a = none) : s.heap.get? a = none := by
  cases e : s.heap.get? a with
  | none => rfl
  | some o =>
    by_cases q : sr = some a
    · obtain ⟨o2, _, _, _, _, ho, _⟩ := y.src _ q
      rw [ho] at h; cases h
    · rw [y.kept _ _ q e] at h; cases h

section
variable {c : Cx} {ρ : Rho} {oc : Oc} {pos : Pos} {target elt iter : Expr} {ifs : List Expr} {scope : Scope}

structure CompScope (c : Cx) (scope : Scope) : Prop where
  free : ∀ x ∈ scope.names, x.2 = .free → (c.env.cells.lookup x.1).isSome = true
  nocell : ∀ y ∈ scope.names, y.2 ≠ .cell
  kind : scope.kind = .function
  names : ∀ y ∈ scope.names, y.2 = .local → scope.names.lookup y.1 = some .local

theorem comp_block {I : Addr} {items : List D} {St : Nat → Heap → Prop} {fz g : Fz} {s s' : Shared} {wr : List Addr} {Q : List D → Prop} {RR : Value → Addr → Result → Shared → Prop} {E : Value → Shared → Prop} (hsc : CompScope c scope)
    (S : SR c oc fz ρ s) (y : Step c.sr fz s g s') (W : It c.prog c.w c.A c.sr target g I wr items St) (st : St 0 s'.heap)
    (hn : ∀ b ∈ wr, s.heap.get? b = none) (hg : ∀ b ∈ wr, ∀ o, ¬ g b o) (hsz : items.length ≤ 1000000)
    (h : ∀ C f s0, CompT (c.comp scope C f s0) target ifs elt Q items (compRho scope.names c.env ρ) [])
    (hRR : ∀ D C f s'' us ds m o, Step c.sr fz s f s'' → f D (accO us m) → RdL f c.sr ds us → Q ds → s'.heap.get? D = none → s'.heap.get? C = none → s''.heap.get? C = some o → (∃ mm, s''.heap.Ns C mm) → (∀ o, ¬ f C o) → c.sr ≠ some C → RR (.ref D) C (.ok .next) s'') :
    wpAny c.M c.A (newList []) (fun acc s₃ => wpAny c.M c.A (newFunctionEnv scope c.env.globals (clOf c.env.cells scope.names []) [] c.env.qual none .none (some c.env)) (fun cenv s₄ =>
      codeAny c.M c.A (.compStart (.ListComp elt [⟨target, iter, ifs, 0⟩] scope pos) 0 (.ref I) acc { cenv with scope := relabel scope c.env }) (RR acc cenv.locals) s₄) E s₃) E s' := by
  refine wpAny_newObj_type (wpAny_newFunctionEnv hsc.nocell (by intro y hy; simp at hy) (fun h₁ hns₁ hsb₁ => ?_) hsc.kind)
  dsimp only at hns₁ hsb₁ ⊢
  generalize hH2 : s'.heap.push { cls := .type "list", dict := none, data := .seq ([] : List Value).toArray } = H2 at hns₁ hsb₁ ⊢
  have hC : H2.objs.size = s'.heap.objs.size + 1 := by rw [← hH2, Heap.size_push]
  have hC' := hC
  generalize hCC : H2.objs.size = C at hC' hC hns₁ hsb₁ ⊢
  have hDC : s'.heap.objs.size ≠ C := by omega
  have old : ∀ b o, s'.heap.get? b = some o → h₁.get? b = some o := fun b o e => hsb₁.extBut b o (fun q => Nat.lt_irrefl b (Nat.lt_trans (Heap.lt_size e) (by rw [q, hC']; exact Nat.lt_succ_self _))) (Heap.get?_push_of_some _ (hH2 ▸ Heap.get?_push_of_some _ e))
  have hacc : h₁.get? s'.heap.objs.size = some (accO [] 0) := hsb₁.extBut _ _ hDC (Heap.get?_push_of_some _ (hH2 ▸ Heap.get?_push_size _ rfl))
  have hD0 : s'.heap.get? s'.heap.objs.size = none := none_size _
  have hC0 : s'.heap.get? C = none := none_ge (by omega)
  have hCs : c.sr ≠ some C := fun q => by obtain ⟨o2, _, _, _, _, ho, _⟩ := y.src _ q; rw [ho] at hC0; cases hC0
  have hDs : c.sr ≠ some s'.heap.objs.size := fun q => by obtain ⟨o2, _, _, _, _, ho, _⟩ := y.src _ q; rw [ho] at hD0; cases hD0
  have hCg : ∀ o, ¬ g C o := fun o z => by have := y.inn _ _ z; rw [hC0] at this; cases this
  have hDg : ∀ o, ¬ g s'.heap.objs.size o := fun o z => by have := y.inn _ _ z; rw [hD0] at this; cases this
  have st₁ : St 0 h₁ := W.frame _ _ _ st (fun b _ o e => old b o e) fun a o z => old a o (y.inn a o z)
  have y₂ : Step c.sr fz s g { s' with heap := h₁, toks := s'.toks + ([] : List (Str × Value)).length } := y.trans (Step.keep y.src y.inn old)
  obtain ⟨ws, hm, hw⟩ := objs_at (W.ex _ _ st₁)
  have hb : ∀ p ∈ ws, p.1 ∈ wr := fun p hp => hm ▸ List.mem_map_of_mem hp
  have haw : s'.heap.objs.size ∉ wr := fun hm' => by
    obtain ⟨o, ho⟩ := W.ex _ _ st _ hm'
    rw [hD0] at ho; cases ho
  have hCw : C ∉ wr := fun hm' => by
    obtain ⟨o, ho⟩ := W.ex _ _ st _ hm'
    rw [hC0] at ho; cases ho
  have cellsAt : ∀ x ca, (clOf c.env.cells scope.names []).lookup x = some ca → c.env.cells.lookup x = some ca := clOf_sound hsc.free (by simp)
  have SC : SR ((c.comp scope C fz s).on ((s'.heap.objs.size, accO [] 0) :: ws)) none g (compRho scope.names c.env ρ) { s' with heap := h₁, toks := s'.toks + ([] : List (Str × Value)).length } := by
    refine ⟨y₂, S.room, S.bsF, S.srcN, S.step.src, ⟨_, hns₁, fun x d e k => ?_, trivial⟩, fun x d e k => ?_, hCg, hCs, y.none S.step.src hC0, fun x ca e => ?_, fun x z ca e1 e2 => S.cellA x z ca (cellsAt _ _ e1) (cellsAt _ _ e2), fun p hp => ?_, hsc.kind, S.glob, S.bltn⟩
    · exfalso
      rw [compRho] at e
      split at e
      · rename_i q
        have := relabel_cell S.fun_ q.2 q.1
        have k' : (relabel scope c.env).names.lookup x = some .local := k
        simp only [relabel] at k'
        rw [this] at k'; cases k'
      · cases e
    · rw [compRho] at e
      split at e
      · rename_i q
        obtain ⟨ca, v, e1, e2, e3⟩ := S.cells x d e q.2
        obtain ⟨cb, hcb⟩ := Option.isSome_iff_exists.mp (clOf_has (cells := c.env.cells) (cs := []) q.1)
        have := cellsAt _ _ hcb
        rw [e1] at this; cases this
        exact ⟨ca, v, hcb, IsCell.keeps' e2 fun o ho => y₂.kept _ _ (S.cellI _ _ e1).2.2.1 ho, e3.mono y.sub⟩
      · cases e
    · obtain ⟨⟨v, e1⟩, e2, e3, e4, e5⟩ := (S.on y₂).cellI x ca (cellsAt _ _ e)
      refine ⟨⟨v, e1⟩, fun q => ?_, e3, e4, fun q => by cases q⟩
      obtain ⟨⟨v', o, ho, _⟩, _⟩ := (S.on y).cellI x ca (cellsAt _ _ e)
      have q : ca = C := q
      rw [q, hC0] at ho; cases ho
    · have cellOff : ∀ a, s'.heap.get? a = none → ∀ z ca, (clOf c.env.cells scope.names []).lookup z = some ca → a ≠ ca := fun a ha z ca e q => by
        obtain ⟨⟨v', o, ho, _⟩, _⟩ := (S.on y).cellI z ca (cellsAt _ _ e)
        rw [← q, ha] at ho; cases ho
      rcases List.mem_append.mp hp with hp | hp
      · rcases List.mem_cons.mp hp with rfl | hp
        · exact ⟨hacc, y.none S.step.src hD0, hDg, hDC, hDs, cellOff _ hD0⟩
        · refine ⟨hw p hp, hn _ (hb p hp), hg _ (hb p hp), fun (q : p.1 = C) => hCw (q ▸ hb p hp), fun q => ?_, fun z ca e q => ?_⟩
          · obtain ⟨o2, _, _, _, _, ho, _⟩ := S.step.src _ q
            have := hn _ (hb p hp); rw [ho] at this; cases this
          · obtain ⟨⟨v', o, ho, _⟩, _⟩ := S.cellI z ca (cellsAt _ _ e)
            have := hn _ (hb p hp); rw [q, ho] at this; cases this
      · cases hp
  have loop : ∀ s₃ : Shared, s₃ = { s' with heap := h₁, toks := s'.toks + ([] : List (Str × Value)).length } →
      codeAny c.M c.A (.compLoop (.ListComp elt [⟨target, iter, ifs, 0⟩] scope pos) 0 (.ref I) (.ref s'.heap.objs.size) (compEnvC scope (clOf c.env.cells scope.names []) C c.env)) (RR (.ref s'.heap.objs.size) C) s₃ := by
    rintro s₃ rfl
    refine comp_core (c := c.comp scope C fz s) (vs := []) (acc := []) (n := 0) rfl W hm haw SC st₁ (by simp [RdL]) (by simpa using hsz) (h C fz s) fun f ρ' s'' us ds m hsub S' hr hq => ?_
    have hA := S'.rsI (s'.heap.objs.size, accO us m) (List.mem_append_left _ (.head _))
    obtain ⟨mm, hN, _⟩ := S'.ns
    obtain ⟨oC, _, _, hoC, _⟩ := id hN
    have st₄ : Step c.sr fz s (f.add s'.heap.objs.size (accO us m)) s'' := by
      refine ⟨fun a o z => .inl (S'.step.sub a o z), fun a o z => ?_, S'.step.kept, fun a o z => ?_, S'.step.src, S'.step.shape⟩
      · rcases z with z | ⟨rfl, rfl⟩
        · exact S'.inn a o z
        · exact hA.1
      · rcases z with z | ⟨rfl, rfl⟩
        · exact S'.step.fresh a o z
        · exact .inr (y.none S.step.src hD0)
    refine hRR _ C _ s'' us ds m oC st₄ (.inr ⟨rfl, rfl⟩) (hr.mono fun _ _ z => .inl z) hq hD0 hC0 hoC ⟨_, hN⟩ (fun o z => ?_) hCs
    rcases z with z | ⟨q, _⟩
    · exact S'.locF o z
    · exact hDC q.symm
  exact codeAny_compStart_list (loop _ rfl) (W.self 0 _ _ _ st₁ (loop _ rfl))

theorem E_comp {Q : D → Prop} (hs : ∀ x, foldedSetIterable iter c.env x = pure x) (hsc : CompScope c scope)
    (h : SrcIt c iter ρ fun l => l.length ≤ 1000000 ∧ ∀ C f s0, CompT (c.comp scope C f s0) target ifs elt (fun ds => Q (.lst ds)) l (compRho scope.names c.env ρ) []) : SemE c (.ListComp elt [⟨target, iter, ifs, 0⟩] scope pos) ρ Q := by
  intro oc fz s Φ E S k
  show wpAny _ _ (eval _ _) _ _ _
  rw [eval_ListComp]
  refine wpAny_comprehension_free (use := none) rfl hs (closureFor_clOf hsc.free) hsc.kind hsc.names (h target oc fz s _ E S fun g s₂ g' s' I wr items St st₁ st₂ W hst hn hg ht => ?_)
  refine comp_block (Q := fun ds => Q (.lst ds)) (RR := fun acc C => compPost c.M c.A E none Φ acc C) hsc (S.on st₁) st₂ W hst hn hg ht.1 ht.2 fun D C f s'' us ds m o st₃ hD hr hq hD0 hC0 hoC hN hCf hCs => ?_
  obtain ⟨mm, hN⟩ := hN
  refine ⟨mm, hN, fun h' hsb => ?_⟩
  have hDC : D ≠ C := fun q => hCf _ (q ▸ hD)
  have hCn : s₂.heap.get? C = none := st₂.none (S.on st₁).step.src hC0
  have st₄ : Step c.sr g s₂ f { s'' with heap := h' } := by
    refine ⟨st₃.sub, fun a o z => hsb.extBut a o (fun q => hCf o (q ▸ z)) (st₃.inn a o z), fun b o n e => hsb.extBut b o (fun q => by rw [q, hCn] at e; cases e) (st₃.kept b o n e), st₃.fresh, fun a e => ?_, ?_⟩
    · obtain ⟨o, x1, x2, t, u, ho, r⟩ := st₃.src a e
      exact ⟨o, x1, x2, t, u, hsb.extBut a o (fun q => hCs (q ▸ e)) ho, r⟩
    · show _ = _
      rw [st₃.shape]
  refine k f (.ref D) (.lst ds) _ (st₁.trans st₄) ?_ hq
  simp only [Rd]
  exact ⟨D, _, us, rfl, hD, ⟨rfl, rfl, _, rfl⟩, hr⟩

theorem S_assignC {x : Str} {p spos : Pos} {Qn : Rho → Oc → Prop} {Qr : D → Prop} (hsw : swapsWith (.ListComp elt [⟨target, iter, ifs, 0⟩] scope pos) (some (.Name x p)) spos.line c.env = pure true)
    (hs : ∀ x, foldedSetIterable iter c.env x = pure x) (hsc : CompScope c scope)
    (h : SrcIt c iter ρ fun l => l.length ≤ 1000000 ∧ ∀ C f s0, CompT (c.comp scope C f s0) target ifs elt (fun ds => ∀ rs, SemN (c.withRs rs) x (.lst ds) ρ oc fun ρ' => Qn ρ' oc) l (compRho scope.names c.env ρ) []) :
    SemS c (.Assign [.Name x p] (.ListComp elt [⟨target, iter, ifs, 0⟩] scope pos) spos) ρ oc Qn Qr := by
  intro fz s Φ E S k1 k2
  rw [exec_Assign_Name_used _ _ _ _ hsw]
  refine wpAny_bind (wpAny_standAt (wpAny_bind ?_))
  show wpAny _ c.A (do let _ ← comprehension (.ListComp elt [⟨target, iter, ifs, 0⟩] scope pos) scope c.env _ (newList []) false (eval iter c.env) (some (assign (.Name x p) c.env))) _ _ s
  refine wpAny_bind (wpAny_mono (wpAny_comprehension_free (use := some (assign (.Name x p) c.env)) (Q := fun _ s' => Φ .next s') rfl hs (closureFor_clOf hsc.free) hsc.kind hsc.names
    (h target oc fz s _ E S fun g s₂ g' s' I wr items St st₁ st₂ W hst hn hg ht => ?_)) (fun _ s' hq => wpAny_pure (wpAny_pure hq)) fun _ _ e => e)
  refine comp_block (RR := fun acc C => compPost c.M c.A E (some (assign (.Name x p) c.env)) (fun _ s' => Φ .next s') acc C) hsc (S.on st₁) st₂ W hst hn hg ht.1 ht.2 fun D C f s'' us ds m o st₃ hD hr hq hD0 hC0 hoC hN hCf hCs => ?_
  have hCn : s₂.heap.get? C = none := st₂.none (S.on st₁).step.src hC0
  have S₂ : SR (c.on [(C, o)]) oc f ρ s'' := (S.on st₁).addRs st₃ (fun p hp => by simp at hp; subst hp; exact hCn) (fun p hp => by simp at hp; subst hp; exact hCf) (fun p hp => by simp at hp; subst hp; exact hoC)
  show wpAny _ c.A (assign (.Name x p) c.env (.ref D)) _ _ _
  refine wpAny_assign_Name (hq ([(C, o)] ++ c.rs) f s'' (.ref D) _ E S₂ ?_ fun ρ' s₄ S₄ q₄ => ?_)
  · simp only [Rd]
    exact ⟨D, _, us, rfl, hD, ⟨rfl, rfl, _, rfl⟩, hr⟩
  · obtain ⟨mm, oC, es, ep, ho, hd, hm1, hm2⟩ := hN
    rw [hoC] at ho; cases ho
    refine ⟨mm, ⟨o, es, ep, (S₄.rsI (C, o) (List.mem_append_left _ (.head _))).1, hd, hm1, hm2⟩, fun h' hsb => ?_⟩
    have S₅ : SR c oc f ρ' { s₄ with heap := h' } := by
      refine SR.dropOff (t := s₄.toks) S₄ (fun p hp q hq e => ?_) fun b o hb e => hsb.extBut b o (fun q => hb (by simp [q])) e
      simp at hp; subst hp
      have h1 := ((S.on st₁).rsI q hq).1
      rw [← e, hCn] at h1; cases h1
    exact k1 _ _ _ _ (fun a o z => st₃.sub _ _ (st₁.sub _ _ z)) S₅ q₄
end

-- F11
theorem comp_filter {c : Cx} {target elt : Expr} {ifs : List Expr} {Q : List D → Prop} (p : D → Bool) (f : D → D) (inv : Rho → Prop) : ∀ (l : List D),
    (∀ d ∈ l, ∀ ρ, inv ρ → ∀ rs, SemA (c.withRs rs) target d ρ none fun ρ' => inv ρ' ∧ SemT (c.withRs rs) ifs ρ' fun ok => ok = p d ∧ (p d = true → SemE (c.withRs rs) elt ρ' fun y => y = f d)) →
    ∀ ρ acc, inv ρ → Q (acc ++ (l.filter p).map f) → CompT c target ifs elt Q l ρ acc
  | [], _, ρ, acc, _, q => by simpa [CompT] using q
  | d :: ds, h, ρ, acc, hi, q => by
    intro rs
    have hd := h d (.head _) ρ hi rs
    have key : ∀ ρ', (inv ρ' ∧ SemT (c.withRs rs) ifs ρ' fun ok => ok = p d ∧ (p d = true → SemE (c.withRs rs) elt ρ' fun y => y = f d)) →
        SemT (c.withRs rs) ifs ρ' fun ok => (ok = true → SemE (c.withRs rs) elt ρ' fun y => CompT c target ifs elt Q ds ρ' (acc ++ [y])) ∧ (ok = false → CompT c target ifs elt Q ds ρ' acc) := by
      intro ρ' ⟨hi', ht⟩
      have fin : ∀ ok, (ok = p d ∧ (p d = true → SemE (c.withRs rs) elt ρ' fun y => y = f d)) → (ok = true → SemE (c.withRs rs) elt ρ' fun y => CompT c target ifs elt Q ds ρ' (acc ++ [y])) ∧ (ok = false → CompT c target ifs elt Q ds ρ' acc) := by
        rintro ok ⟨rfl, he⟩
        refine ⟨fun hp => (he hp).mono ?_, fun hp => ?_⟩
        · rintro y rfl
          refine comp_filter p f inv ds (fun e he => h e (.tail _ he)) ρ' _ hi' ?_
          rw [List.filter_cons, if_pos hp] at q
          simpa using q
        · refine comp_filter p f inv ds (fun e he => h e (.tail _ he)) ρ' _ hi' ?_
          rw [List.filter_cons, if_neg (by simp [hp])] at q
          exact q
      match ifs, ht with
      | [], ht => exact fin _ ht
      | [t], ht => exact fun oc fz s Φ E S k => ht oc fz s Φ E S fun fz' b s' st z => k fz' b s' st (fin b z)
    exact fun fz s v Φ E S r k => hd fz s v Φ E S r fun ρ' s' S' z => k ρ' s' S' (key ρ' z)
theorem SemB.mono {c : Cx} {b : List Stmt} {ρ : Rho} {oc : Oc} {Qn Qn' : Rho → Oc → Prop} {Qr Qr' : D → Prop} (h : SemB c b ρ oc Qn Qr) (h1 : ∀ r o, Qn r o → Qn' r o) (h2 : ∀ d, Qr d → Qr' d) : SemB c b ρ oc Qn' Qr' :=
  fun fz s Φ E S k1 k2 => h fz s Φ E S (fun fz' ρ' oc' s' sb S' q => k1 fz' ρ' oc' s' sb S' (h1 _ _ q)) fun fz' v d s' st r q => k2 fz' v d s' st r (h2 _ q)
theorem SemA.mono {c : Cx} {t : Expr} {d : D} {ρ : Rho} {oc : Oc} {Q Q' : Rho → Prop} (h : SemA c t d ρ oc Q) (hq : ∀ r, Q r → Q' r) : SemA c t d ρ oc Q' :=
  fun fz s v Φ E S r k => h fz s v Φ E S r fun ρ' s' S' q => k ρ' s' S' (hq _ q)
theorem turns_all {c : Cx} {target : Expr} {body : List Stmt} {Qn : Rho → Oc → Prop} {Qr : D → Prop} {oc : Oc} (p : D → Bool) (R : D → Prop) (inv : Rho → Prop) : ∀ (l : List D),
    (∀ d ∈ l, ∀ ρ, inv ρ → ∀ rs, SemA (c.withRs rs) target d ρ oc fun ρ' => SemB (c.withRs rs) body ρ' oc (fun ρ2 oc2 => p d = true ∧ inv ρ2 ∧ oc2 = oc) (fun r => p d = false ∧ R r)) →
    (∀ r, R r → l.all p = false → Qr r) → (∀ ρ, inv ρ → l.all p = true → Qn ρ oc) → ∀ ρ, inv ρ → Turns c target body Qn Qr l ρ oc
  | [], _, _, he, ρ, hi => he ρ hi rfl
  | d :: ds, h, hr, he, ρ, hi => by
    intro rs
    refine (h d (.head _) ρ hi rs).mono fun ρ' hb => hb.mono ?_ ?_
    · rintro ρ2 oc2 ⟨hp, hi2, rfl⟩
      refine turns_all p R inv ds (fun e he => h e (.tail _ he)) (fun r hR ha => hr r hR ?_) (fun ρ hi ha => he ρ hi ?_) ρ2 hi2
      · rw [List.all_cons, hp, ha]; rfl
      · rw [List.all_cons, hp, ha]; rfl
    · rintro r ⟨hp, hR⟩
      exact hr r hR (by rw [List.all_cons, hp]; rfl)
theorem SemC.mono {c : Cx} {e : Expr} {ρ : Rho} {Q Q' : Bool → Prop} (h : SemC c e ρ Q) (hq : ∀ d, Q d → Q' d) : SemC c e ρ Q' :=
  fun oc fz s Φ E S k => h oc fz s Φ E S fun fz' b s' st q => k fz' b s' st (hq b q)
theorem T_one {c : Cx} {t : Expr} {ρ : Rho} {Q : Bool → Prop} (h : SemC c t ρ Q) : SemT c [t] ρ Q := h
theorem T_nil {c : Cx} {ρ : Rho} {Q : Bool → Prop} (h : Q true) : SemT c [] ρ Q := h
theorem signs_len (x : Str) : (signsD x).length = x.length := by simp [signsD, Str.length]
noncomputable def TextOk (d : D) : Prop := ∀ x, d = .str x → x.length < 2 ^ 62 ∧ PyData.strOk x = true
theorem qb {Q : D → Prop} {a b : Bool} (q : Q (.bool a)) (e : a = b) : Q (.bool b) := e ▸ q
theorem dead_f {a : Bool} {X : Prop} (e : a = false) : a = true → X := fun h => by rw [e] at h; cases h
theorem dead_t {a : Bool} {X : Prop} (e : a = true) : a = false → X := fun h => by rw [e] at h; cases h
theorem dead_nf {a : Bool} {X : Prop} (e : a = true) : (!a) = true → X := fun h => by rw [e] at h; cases h
theorem dead_nt {a : Bool} {X : Prop} (e : a = false) : (!a) = false → X := fun h => by rw [e] at h; cases h
theorem dead {a b : Bool} {X : Prop} (e : (a != b) = true) : a = b → X := fun h => by subst h; simp at e
theorem O_eq_int {c : Cx} {Q : D → Prop} {i j : Int} (q : Q (.bool (i == j))) : OpD c (compareOp .Eq) (.int i) (.int j) Q := O_eq (by rfl) (by rfl) q
theorem O_ne_int {c : Cx} {Q : D → Prop} {i j : Int} (q : Q (.bool (!(i == j)))) : OpD c (compareOp .NotEq) (.int i) (.int j) Q := O_ne (by rfl) (by rfl) q
theorem O_eq_str {c : Cx} {Q : D → Prop} {i j : Str} (hi : PyData.strOk i = true) (hj : PyData.strOk j = true) (q : Q (.bool (i == j))) : OpD c (compareOp .Eq) (.str i) (.str j) Q :=
  O_eq (by simp [D.fine, D.ok, D.dep, hi]) (by simp [D.fine, D.ok, D.dep, hj]) q
noncomputable abbrev SubS (slice : Expr) : Prop := ∀ t k u, subscripted slice false (.ref t) (.int k u) = operate [.ref t, .int k u] (getItem (.ref t) (.int k u))
theorem O_tup0 {c : Cx} {Q : D → Prop} {value slice : Expr} {a : D} {l : List D} (hs : SubS slice) (h : Q a) : OpD c (subscriptTail value slice) (.tup (a :: l)) (.int 0) Q :=
  O_tup_item (j := 0) (d := a) hs (by decide) (by decide) (by simp [seqIndex?]) rfl h
theorem O_tup1 {c : Cx} {Q : D → Prop} {value slice : Expr} {a b : D} {l : List D} (hs : SubS slice) (h : Q b) : OpD c (subscriptTail value slice) (.tup (a :: b :: l)) (.int 1) Q :=
  O_tup_item (j := 1) (d := b) hs (by decide) (by decide) (by simp [seqIndex?]; omega) rfl h
theorem O_tup2 {c : Cx} {Q : D → Prop} {value slice : Expr} {a b e : D} {l : List D} (hs : SubS slice) (h : Q e) : OpD c (subscriptTail value slice) (.tup (a :: b :: e :: l)) (.int 2) Q :=
  O_tup_item (j := 2) (d := e) hs (by decide) (by decide) (by simp [seqIndex?]; omega) rfl h
theorem O_tup3 {c : Cx} {Q : D → Prop} {value slice : Expr} {a b e f : D} {l : List D} (hs : SubS slice) (h : Q f) : OpD c (subscriptTail value slice) (.tup (a :: b :: e :: f :: l)) (.int 3) Q :=
  O_tup_item (j := 3) (d := f) hs (by decide) (by decide) (by simp [seqIndex?]; omega) rfl h
theorem C_or_eq {c : Cx} {ρ : Rho} {pos : Pos} {e : Expr} {rest : List Expr} {b1 b2 : Bool} (h1 : SemC c e ρ (fun b => b = b1)) (h2 : SemC c (.BoolOp .Or rest pos) ρ (fun b => b = b2)) : SemC c (.BoolOp .Or (e :: rest) pos) ρ (fun b => b = (b1 || b2)) :=
  C_or (h1.mono fun b q => ⟨fun e => by subst q; rw [e]; rfl, fun e => h2.mono fun b' q' => by subst q q'; rw [e]; rfl⟩)
theorem C_or_end {c : Cx} {ρ : Rho} {pos : Pos} : SemC c (.BoolOp .Or [] pos) ρ (fun b => b = false) := C_or_nil rfl
theorem C_chain_eq {c : Cx} {ρ : Rho} {pos : Pos} {l r₁ r₂ : Expr} (a b d : Int) (hm : lastMarks [.LtE, .LtE] [r₁, r₂] = false) (h1 : SemE c l ρ fun x => x = .int a) (h2 : SemE c r₁ ρ fun x => x = .int b) (h3 : SemE c r₂ ρ fun x => x = .int d) :
    SemC c (.Compare l [.LtE, .LtE] [r₁, r₂] pos) ρ (fun q => q = (decide (a ≤ b) && decide (b ≤ d))) := by
  refine C_chain hm (h1.mono fun x e => h2.mono fun y e2 => ?_)
  subst e e2
  refine O_le ⟨_, rfl, fun e => by rw [e]; rfl, fun e => h3.mono fun z e3 => ?_⟩
  subst e3
  exact O_le ⟨_, rfl, by rw [e]; rfl⟩
theorem C_eqi {c : Cx} {ρ : Rho} {pos : Pos} {l r : Expr} (a b : Int) (hm : behindInMarks .Eq r = false) (h1 : SemE c l ρ fun x => x = .int a) (h2 : SemE c r ρ fun x => x = .int b) : SemC c (.Compare l [.Eq] [r] pos) ρ (fun q => q = (a == b)) := by
  refine C_cmp hm (h1.mono fun x e => h2.mono fun y e2 => ?_)
  subst e e2
  exact O_eq_int ⟨_, rfl, rfl⟩
noncomputable def compOk (cells : List (Str × Addr)) (names : List (Str × NameKind)) : Bool :=
  (names.all fun x => x.2 != .free || (cells.lookup x.1).isSome) && (names.all fun x => x.2 != .cell) && (names.all fun x => x.2 != .local || names.lookup x.1 == some .local)
theorem CompScope.of {c : Cx} {scope : Scope} (h : compOk c.env.cells scope.names = true) (hk : scope.kind = .function) : CompScope c scope := by
  simp only [compOk, Bool.and_eq_true, List.all_eq_true, Bool.or_eq_true, bne_iff_ne, ne_eq, beq_iff_eq] at h
  obtain ⟨⟨h1, h2⟩, h3⟩ := h
  exact ⟨fun x hx e => (h1 x hx).resolve_left (fun q => q e), fun y hy => h2 y hy, hk, fun y hy e => (h3 y hy).resolve_left (fun q => q e)⟩
/-- what a datum gives to a loop -/
noncomputable def SrcD (P : List D → Prop) (d : D) : Prop := ∃ l, (d = .tup l ∨ d = .lst l ∨ ∃ x, d = .str x ∧ l = signsD x) ∧ P l
theorem SrcD.tup {P : List D → Prop} {l : List D} (h : P l) : SrcD P (.tup l) := ⟨l, .inl rfl, h⟩
theorem SrcD.lst {P : List D → Prop} {l : List D} (h : P l) : SrcD P (.lst l) := ⟨l, .inr (.inl rfl), h⟩
theorem SrcD.str {P : List D → Prop} {x : Str} (h : P (signsD x)) : SrcD P (.str x) := ⟨_, .inr (.inr ⟨x, rfl, rfl⟩), h⟩
theorem Src_of {c : Cx} {iter : Expr} {ρ : Rho} {P : List D → Prop} (h : SemE c iter ρ (SrcD P)) : SrcIt c iter ρ P := Src_val h
theorem D.oks_all : ∀ {l : List D}, (∀ d ∈ l, d.ok = true) → D.oks l = true
  | [], _ => rfl
  | d :: l, h => by simp only [D.oks, Bool.and_eq_true]; exact ⟨h d (.head _), D.oks_all fun e he => h e (.tail _ he)⟩
theorem D.deps_all {n : Nat} : ∀ {l : List D}, (∀ d ∈ l, d.dep ≤ n) → D.deps l ≤ n
  | [], _ => by simp [D.deps]
  | d :: l, h => by
    have h1 := h d (.head _)
    have h2 := D.deps_all (n := n) (l := l) fun e he => h e (.tail _ he)
    simp only [D.deps]; omega
noncomputable def FineL (l : List D) : Prop := ∀ d ∈ l, d.ok = true ∧ d.dep ≤ 59
theorem D.fine_lst {l : List D} (h : FineL l) : (D.lst l).fine = true := by
  have h2 := D.deps_all (n := 59) fun d hd => (h d hd).2
  have h1 : (D.lst l).ok = true := D.oks_all fun d hd => (h d hd).1
  have h3 : (D.lst l).dep ≤ 60 := by simp only [D.dep]; omega
  unfold D.fine; rw [h1, decide_eq_true h3]; rfl
theorem D.fine_tup {l : List D} (h : FineL l) : (D.tup l).fine = true := by
  have h2 := D.deps_all (n := 59) fun d hd => (h d hd).2
  have h1 : (D.tup l).ok = true := D.oks_all fun d hd => (h d hd).1
  have h3 : (D.tup l).dep ≤ 60 := by simp only [D.dep]; omega
  unfold D.fine; rw [h1, decide_eq_true h3]; rfl
theorem D.eq_nil (l : List D) : (D.lst l).eq (.lst []) = l.isEmpty := by
  cases l <;> simp [D.eq, D.py, D.pys, PyData.eqv, PyData.eqvAll]
theorem D.eq_nilT (l : List D) : (D.tup l).eq (.tup []) = l.isEmpty := by
  cases l <;> simp [D.eq, D.py, D.pys, PyData.eqv, PyData.eqvAll]
theorem O_eq_nil {c : Cx} {Q : D → Prop} {l : List D} (h : FineL l) (q : Q (.bool l.isEmpty)) : OpD c (compareOp .Eq) (.lst l) (.lst []) Q :=
  O_eq (D.fine_lst h) (by decide) (by rw [D.eq_nil]; exact q)
theorem O_ne_nil {c : Cx} {Q : D → Prop} {l : List D} (h : FineL l) (q : Q (.bool (!l.isEmpty))) : OpD c (compareOp .NotEq) (.lst l) (.lst []) Q :=
  O_ne (D.fine_lst h) (by decide) (by rw [D.eq_nil]; exact q)
theorem signs_ok {x : Str} (h : PyData.strOk x = true) : FineL (signsD x) := by
  intro d hd
  simp only [signsD, List.mem_map] at hd
  obtain ⟨c, hc, rfl⟩ := hd
  simp only [PyData.strOk, Array.all_eq_true', decide_eq_true_eq] at h
  refine ⟨?_, by simp [D.dep]⟩
  have := h c (by simpa using hc)
  simp [D.ok, PyData.strOk, this]

-- F12

noncomputable def lookupD : List Str → List D → Str → Option D
  | k :: ks, d :: ds, x => if x = k then some d else lookupD ks ds x
  | _, _, _ => none
theorem DicK.find {P : Params} {fz : Fz} {sr : Option Addr} : ∀ {ks : List Str} {ds : List D} {es : List DictEntry}, DicK P ks es → RdL fz sr ds (es.map (·.val)) → ∀ x,
    (∀ d, lookupD ks ds x = some d → ∃ v, (es.find? fun e => Value.isStrOf x e.key).map (·.val) = some v ∧ Rd fz sr d v) ∧ (lookupD ks ds x = none → (es.find? fun e => Value.isStrOf x e.key).map (·.val) = none)
  | [], _, es, h, _, x => by
    simp only [DicK] at h; subst h
    exact ⟨fun d e => by simp [lookupD] at e, fun _ => rfl⟩
  | k :: ks, ds, es, h, r, x => by
    simp only [DicK] at h
    obtain ⟨e, es', rfl, ⟨t, hk⟩, hh, h'⟩ := h
    cases ds with
    | nil => simp [RdL] at r
    | cons d ds =>
      simp only [List.map_cons, RdL] at r
      obtain ⟨v, us, ev, r1, r2⟩ := r
      cases ev
      have ih := DicK.find h' r2 x
      have hkk : Value.isStrOf x e.key = decide (x = k) := by
        rw [hk]
        show (k == x) = decide (x = k)
        by_cases q : x = k
        · subst q; rw [beq_self_eq_true, decide_eq_true rfl]
        · rw [decide_eq_false q, beq_eq_false_iff_ne]; exact fun e => q e.symm
      rw [List.find?_cons, hkk, lookupD]
      by_cases q : x = k
      · subst q
        refine ⟨fun d' e' => ?_, fun e' => ?_⟩
        · rw [if_pos rfl] at e'; cases e'
          exact ⟨_, by simp, r1⟩
        · rw [if_pos rfl] at e'; cases e'
      · rw [if_neg q]
        simp only [decide_eq_false q]
        exact ih
theorem DicK.keys {P : Params} : ∀ {ks : List Str} {es : List DictEntry}, DicK P ks es → ∀ e ∈ es, ∃ x t, e.key = .str x t ∧ e.hash = PyData.keyHash P x
  | [], es, h, e, he => by simp only [DicK] at h; subst h; simp at he
  | k :: ks, es, h, e, he => by
    simp only [DicK] at h
    obtain ⟨e', es', rfl, ⟨t, hk⟩, hh, h'⟩ := h
    rcases List.mem_cons.mp he with rfl | he
    · exact ⟨k, t, hk, hh⟩
    · exact h'.keys e he
theorem DicK.of {P : Params} : ∀ {ks : List Str} {es : List DictEntry}, es.map (fun e => match e.key with | .str x _ => some x | _ => none) = ks.map some → es.map (·.hash) = ks.map (PyData.keyHash P) → DicK P ks es
  | [], [], _, _ => rfl
  | [], _ :: _, h, _ => by simp at h
  | _ :: _, [], h, _ => by simp at h
  | k :: ks, e :: es, h1, h2 => by
    simp only [List.map_cons, List.cons.injEq] at h1 h2
    refine ⟨e, es, rfl, ?_, h2.1, DicK.of h1.2 h2.2⟩
    have := h1.1
    split at this
    · rename_i x t q; cases this; exact ⟨t, q⟩
    · cases this

theorem dic_mapOf {prog : Program} {w : World} {h : Heap} {a : Addr} {o : Obj} {es : Array DictEntry} {n : Nat} {ks : List Str} (ho : h.get? a = some o) (he : o.ExactDict) (hd : o.data = .dict es n) (hk : DicK w.params ks es.toList) :
    h.MapOf (strKind prog w) a (fun k => (es.toList.find? fun e => Value.isStrOf k e.key).map (·.val)) :=
  ⟨o, es, n, ho, he, hd, fun e h => by
    obtain ⟨x, t, e1, e2⟩ := hk.keys e (Array.mem_toList_iff.mpr h)
    exact ⟨x, by rw [e1]; exact strKind_is prog w x t, e2⟩, fun k => by
    show (es.find? fun e => (strKind prog w).is k e.key).map (·.val) = _
    rw [← Array.find?_toList]; rfl⟩

section
variable {c : Cx} {ρ : Rho} {oc : Oc} {Q : D → Prop} {pos : Pos}
theorem O_dic_item {value slice : Expr} {ks : List Str} {ds : List D} {x : Str} {d : D} (hs : ∀ t k u, subscripted slice false (.ref t) (.str k u) = operate [.ref t, .str k u] (getItem (.ref t) (.str k u))) (hl : lookupD ks ds x = some d) (q : Q d) :
    OpD c (subscriptTail value slice) (.dic c.w.params ks ds) (.str x) Q := by
  intro fz s v u Φ E hi hsr hb R ra rb k
  simp only [Rd] at ra rb
  obtain ⟨a, o, es, n, rfl, ho, hsm, he, hd, hk, hr⟩ := ra
  obtain ⟨t, rfl⟩ := rb
  have hm := dic_mapOf (prog := c.prog) (hi _ _ ho) he hd hk
  obtain ⟨v, hv, rv⟩ := (hk.find hr x).1 d hl
  exact tail_any hm.typeIs slot_dict_getitem.lookup (wpAny_getItem_of (strKind_is c.prog c.w x t) hm hv (k _ _ _ _ (Step.same hi hsr) rv q)) (hs _ _ _)

theorem callWith_self {M : Model} {A : Around} {env : Env} {E : Value → Shared → Prop} {s : Shared} {pos : Pos} {id : String} {v : Value} {e : Expr} {rest : List Expr} {Q : Value → Shared → Prop}
    (h : wpAny M A (spliced (backTo pos (starEach (e :: rest) env))) (fun vs s₁ => wpAny M A (call (.builtin id) (v :: vs)) Q E s₁) E s)
    (he : starEach (e :: rest) env = (false, eval e env) :: starEach rest env) (hplain : (backTo pos (starEach rest env)).any (·.1) = false) :
    wpAny M A (callWith pos (.builtin id) [v] (backTo pos (starEach (e :: rest) env)) []) Q E s := by
  rw [he] at h ⊢
  exact Calls.callWith_builtin (by show (false || (backTo pos (starEach rest env)).any (·.1)) = false; rw [hplain]; rfl) (Calls.evalArgs_plain h)

theorem E_dget {o e1 e2 : Expr} {apos : Pos} (hbase : attributeBase o "get" c.env (eval o c.env) = eval o c.env)
    (hfew : ((backTo pos (starEach [e1, e2] c.env)).all (fun x => !x.1) && (backToKw pos (keywordEach [] c.env)).all (fun x => x.1.isSome)
      && decide ([e1, e2].length + ([] : List Keyword).length + (if ([] : List Keyword).isEmpty then 0 else 1) < 30)) = true)
    (hline : (apos.endLine == pos.line) = true) (hst : starEach [e1, e2] c.env = (false, eval e1 c.env) :: starEach [e2] c.env) (hpl : (backTo pos (starEach [e2] c.env)).any (·.1) = false)
    (h : SemE c o ρ fun dd => ∃ ks vs, dd = .dic c.w.params ks vs ∧ SemL c pos [e1, e2] ρ fun ds => ∃ x dflt, ds = [.str x, dflt] ∧ Q ((lookupD ks vs x).getD dflt)) :
    SemE c (.Call (.Attribute o "get" apos) [e1, e2] [] pos) ρ Q := by
  intro oc fz s Φ E S k
  refine wpAny_Call_method hbase hfew hline PySem.F.plainAttrs_dict PySem.F.slot_dict_get PySem.F.type_dict_get (h oc fz s _ E S fun fz₁ v d s₁ st₁ r₁ q₁ => ?_)
  obtain ⟨ks, vs, rfl, q₁⟩ := q₁
  simp only [Rd] at r₁
  obtain ⟨a, o, es, n, rfl, ho, hsm, he, hd, hk, hr⟩ := r₁
  have S₁ := S.on st₁
  have hm := dic_mapOf (prog := c.prog) (S₁.inn _ _ ho) he hd hk
  refine ⟨hm.typeIs, hm.noDict, callWith_self (q₁ oc fz₁ s₁ _ E S₁ fun fz₂ us ds s₂ st₂ r₂ _ q₂ => ?_) hst hpl⟩
  obtain ⟨x, dflt, rfl, q₂⟩ := q₂
  simp only [RdL, Rd] at r₂
  obtain ⟨_, us', rfl, ⟨t, rfl⟩, u, us'', rfl, ru, rfl⟩ := r₂
  have S₂ := S₁.on st₂
  have hm₂ := dic_mapOf (prog := c.prog) (S₂.inn _ _ (st₂.sub _ _ ho)) he hd hk
  refine call_meetsIn PySem.F.slot_dict_get hm₂.typeIs PySem.F.entry_dict_get (PySem.F.args_dict_get_3 _ _ _) (meets_dict_get_default (strKind c.prog c.w) a (strKind_is c.prog c.w x t) hsm u) ⟨_, hm₂, ?_⟩
  have hr₂ := hr.mono st₂.sub
  refine k fz₂ _ ((lookupD ks vs x).getD dflt) _ ((st₁.trans st₂).trans (Step.same S₂.inn S₂.step.src)) ?_ q₂
  cases e : lookupD ks vs x with
  | none => rw [(hk.find hr₂ x).2 e]; exact ru
  | some d =>
    obtain ⟨v, hv, rv⟩ := (hk.find hr₂ x).1 d e
    rw [hv]; exact rv

noncomputable def KeyL : List Str → List (Value × Value) → Prop
  | [], ps => ps = []
  | x :: xs, ps => ∃ t v r, ps = (.str x t, v) :: r ∧ KeyL xs r
noncomputable def SemP (c : Cx) (pos : Pos) (ks : List (Option Expr)) (vs : List Expr) (ρ : Rho) (Q : List Str → List D → Prop) : Prop :=
  ∀ oc fz s (Φ : List (Value × Value) → Shared → Prop) (E : Value → Shared → Prop), SR c oc fz ρ s →
    (∀ fz' ps xs ds s', Step c.sr fz s fz' s' → KeyL xs ps → RdL fz' c.sr ds (ps.map (·.2)) → Q xs ds → Φ ps s') → wpAny c.M c.A (evalPairs (pairTrees ks vs c.env pos)) Φ E s
theorem P_nil {Q : List Str → List D → Prop} (q : Q [] []) : SemP c pos [] [] ρ Q := fun oc fz s Φ E S k =>
  pairTrees_nil_walk (k fz [] [] [] s (Step.refl S.inn S.step.src) rfl (by simp [RdL]) q)
theorem P_cons {Q : List Str → List D → Prop} {ke ve : Expr} {ks : List (Option Expr)} {vs : List Expr} (h : SemE c ke ρ fun d => ∃ x, d = .str x ∧ SemE c ve ρ fun e => SemP c pos ks vs ρ fun xs ds => Q (x :: xs) (e :: ds)) : SemP c pos (some ke :: ks) (ve :: vs) ρ Q := by
  intro oc fz s Φ E S k
  refine pairTrees_cons_walk (h oc fz s _ E S fun fz₁ v d s₁ st₁ r₁ q₁ => ?_)
  obtain ⟨x, rfl, q₁⟩ := q₁
  simp only [Rd] at r₁
  obtain ⟨t, rfl⟩ := r₁
  refine q₁ oc fz₁ s₁ _ E (S.on st₁) fun fz₂ u e s₂ st₂ r₂ q₂ => ?_
  refine q₂ oc fz₂ s₂ _ E ((S.on st₁).on st₂) fun fz₃ ps xs ds s₃ st₃ hk r₃ q₃ => ?_
  exact k fz₃ _ (x :: xs) (e :: ds) s₃ ((st₁.trans st₂).trans st₃) ⟨t, u, ps, rfl, hk⟩ ⟨u, _, rfl, r₂.mono st₃.sub, r₃⟩ q₃

theorem KeyL.carries {prog : Program} {w : World} : ∀ {xs : List Str} {ps : List (Value × Value)}, KeyL xs ps → Carries (strKind prog w) ps (xs.zip (ps.map (·.2))) ∧ (xs.zip (ps.map (·.2))).map (·.1) = xs ∧ (xs.zip (ps.map (·.2))).map (·.2) = ps.map (·.2)
  | [], ps, h => by simp only [KeyL] at h; subst h; simp [Carries]
  | x :: xs, ps, h => by
    simp only [KeyL] at h
    obtain ⟨t, v, r, rfl, h'⟩ := h
    have ih := KeyL.carries (prog := prog) (w := w) h'
    refine ⟨⟨strKind_is prog w x t, rfl, ih.1⟩, ?_, ?_⟩
    · simp only [List.map_cons, List.zip_cons_cons]; rw [ih.2.1]
    · simp only [List.map_cons, List.zip_cons_cons]; rw [ih.2.2]
theorem merged_nodup {K : Type} [DecidableEq K] : ∀ (more kvs : List (K × Value)), ((kvs ++ more).map (·.1)).Nodup → merged kvs more = kvs ++ more
  | [], kvs, _ => by simp [merged]
  | kv :: more, kvs, h => by
    have hs : stored kvs kv.1 kv.2 = kvs ++ [kv] := by
      unfold stored
      rw [if_neg]
      intro hany
      obtain ⟨p, hp, e⟩ := List.any_eq_true.mp hany
      simp only [List.map_append, List.map_cons, List.nodup_append, List.mem_map, decide_eq_true_eq] at h e
      exact h.2.2 p.1 ⟨p, hp, rfl⟩ kv.1 (by simp) e
    have : merged kvs (kv :: more) = merged (stored kvs kv.1 kv.2) more := rfl
    rw [this, hs, merged_nodup more (kvs ++ [kv]) (by simpa using h)]
    simp
theorem DicK.ofPairs {prog : Program} {w : World} : ∀ {es : List DictEntry} {kvs : List (Str × Value)}, Pairs (strKind prog w) es kvs → (∀ e ∈ es, ∃ k, (strKind prog w).is k e.key = true ∧ e.hash = (strKind prog w).hash k) → DicK w.params (kvs.map (·.1)) es ∧ es.map (·.val) = kvs.map (·.2)
  | _, _, .nil, _ => ⟨rfl, rfl⟩
  | e :: es, kv :: kvs, .cons h1 h2 h3, hk => by
    have ih := DicK.ofPairs h3 fun e he => hk e (.tail _ he)
    obtain ⟨k, e1, e2⟩ := hk e (.head _)
    obtain ⟨t, ht⟩ := Value.isStrOf_shape (show Value.isStrOf kv.1 e.key = true from h1)
    have hkk : k = kv.1 := (strKind prog w).inj _ _ _ e1 h1
    subst hkk
    refine ⟨⟨e, es, rfl, ⟨t, ht⟩, e2, ih.1⟩, ?_⟩
    rw [List.map_cons, List.map_cons, ih.2, h2]

theorem E_dict {keys : List (Option Expr)} {values : List Expr} {mg : Str → Option Value} (G : c.base.Ns mainGlobals mg) (hall : keys.all (·.isSome) = true) (hl : keys.length = values.length) (h0 : keys ≠ []) (hlen : keys.length ≤ 15)
    (h : SemP c pos keys values ρ fun xs ds => xs.Nodup ∧ Q (.dic c.w.params xs ds)) : SemE c (.Dict keys values pos) ρ Q := by
  intro oc fz s Φ E S k
  have hN := none_size s.heap
  have st₀ : Step c.sr fz s fz { s with heap := s.heap.push { cls := .type "dict", data := .dict #[] } } := Step.keep (t' := s.toks) S.step.src S.inn fun b p hb => Heap.get?_push_of_some _ hb
  have S₀ := S.on st₀
  have hd0 : (s.heap.push { cls := .type "dict", data := .dict #[] }).get? s.heap.objs.size = some { cls := .type "dict", data := .dict #[] } := Heap.get?_push_size _ rfl
  have hsr : c.sr ≠ some s.heap.objs.size := fun q => by obtain ⟨o2, _, _, _, _, ho, _⟩ := S.step.src _ q; rw [hN] at ho; cases ho
  have hnf : ∀ o, ¬ fz s.heap.objs.size o := fun o z => by have := S.inn _ _ z; rw [hN] at this; cases this
  have hsm : (s.heap.objs.size == sysModules) = false := by
    obtain ⟨o, _, _, ho, _⟩ := G.keeps S.based
    have h1 := Heap.lt_size ho
    rw [beq_eq_false_iff_ne]
    intro q
    rw [q] at h1
    exact absurd h1 (by decide)
  refine wpAny_Dict_walk (knd := strKind c.prog c.w) hall hl h0 hlen (h oc fz _ _ E S₀ fun fz₁ ps xs ds s₁ st₁ hk r₁ q₁ => ?_)
  have C := hk.carries (prog := c.prog) (w := c.w)
  have hd1 := st₁.kept _ _ hsr hd0
  refine ⟨xs.zip (ps.map (·.2)), C.1, ⟨_, #[], 0, hd1, ⟨rfl, rfl, rfl⟩, rfl, fun e he => by simp at he, .nil, by simp⟩, fun h' hD hsb => ?_⟩
  rw [merged_nodup _ _ (by rw [List.nil_append, C.2.1]; exact q₁.1), List.nil_append] at hD
  obtain ⟨o, es, n, ho, he, hdt, hko, hpr, _⟩ := hD
  have P := DicK.ofPairs hpr fun e he => hko e (Array.mem_toList_iff.mp he)
  rw [C.2.1, C.2.2] at P
  have S₁ := S₀.on st₁
  have hnf₁ : ∀ o, ¬ fz₁ s.heap.objs.size o := fun o z => by
    rcases st₁.fresh _ _ z with z | z
    · exact hnf o z
    · rw [hd0] at z; cases z
  have st₂ : Step c.sr fz s (fz₁.add s.heap.objs.size o) { s₁ with heap := h', toks := s₁.toks + ps.length } := by
    have st := st₀.trans st₁
    refine ⟨fun a p z => .inl (st.sub a p z), fun a p z => ?_, fun b p n e => ?_, fun a p z => ?_, fun a e => ?_, ?_⟩
    · rcases z with z | ⟨rfl, rfl⟩
      · exact hsb.extBut a p (fun q => hnf₁ p (q ▸ z)) (st.inn a p z)
      · exact ho
    · exact hsb.extBut b p (fun q => by rw [q, hN] at e; cases e) (st.kept b p n e)
    · rcases z with z | ⟨rfl, rfl⟩
      · exact st.fresh a p z
      · exact .inr hN
    · obtain ⟨o2, x1, x2, t, u, ho2, r⟩ := st.src a e
      exact ⟨o2, x1, x2, t, u, hsb.extBut a _ (fun q => hsr (q ▸ e)) ho2, r⟩
    · show _ = _
      rw [st.shape]
  refine k _ _ _ _ st₂ ?_ q₁.2
  simp only [Rd]
  refine ⟨_, o, es, n, rfl, .inr ⟨rfl, rfl⟩, hsm, he, hdt, P.1, ?_⟩
  rw [P.2]
  exact r₁.mono fun _ _ z => .inl z
end

-- F13
noncomputable def readL (f : Value → Option D) : List Value → Option (List D)
  | [] => some []
  | v :: r => match f v, readL f r with
    | some d, some ds => some (d :: ds)
    | _, _ => none
noncomputable def readV : Nat → Frag → Value → Option D
  | 0, _, _ => none
  | n + 1, K, v => match v with
    | .none => some .none
    | .bool b => some (.bool b)
    | .int i _ => some (.int i)
    | .str s _ => some (.str s)
    | .ref a => match K.lookup a with
      | some ⟨.type cls, none, .seq vs _, _⟩ => if cls = "tuple" then (readL (readV n K) vs.toList).map .tup else if cls = "list" then (readL (readV n K) vs.toList).map .lst else none
      | _ => none
    | _ => none
theorem readL_sound {f : Value → Option D} {fz : Fz} {sr : Option Addr} (h : ∀ v d, f v = some d → Rd fz sr d v) : ∀ {vs : List Value} {ds : List D}, readL f vs = some ds → RdL fz sr ds vs
  | [], ds, e => by simp only [readL, Option.some.injEq] at e; subst e; simp [RdL]
  | v :: r, ds, e => by
    simp only [readL] at e
    split at e
    · rename_i d ds' h1 h2
      cases e
      exact ⟨v, r, rfl, h v d h1, readL_sound h h2⟩
    · cases e
theorem readV_sound {K : Frag} {base : Heap} {fz : Fz} {sr : Option Addr} (X : K.In base) (hb : ∀ a o, base.get? a = some o → fz a o) : ∀ (n : Nat) (v : Value) (d : D), readV n K v = some d → Rd fz sr d v
  | 0, _, _, e => by simp [readV] at e
  | n + 1, v, d, e => by
    unfold readV at e
    split at e
    · cases e; simp [Rd]
    · cases e; simp [Rd]
    · cases e; simp [Rd]
    · cases e; simp [Rd]
    · rename_i a
      split at e
      · rename_i cls vs sz sl q
        have ho := hb _ _ (X _ _ q)
        split at e
        · rename_i hc
          subst hc
          rw [Option.map_eq_some_iff] at e
          obtain ⟨ds, e1, rfl⟩ := e
          simp only [Rd]
          exact ⟨a, _, vs.toList, rfl, ho, ⟨rfl, rfl, sz, by simp⟩, readL_sound (readV_sound X hb n) e1⟩
        · split at e
          · rename_i hc
            subst hc
            rw [Option.map_eq_some_iff] at e
            obtain ⟨ds, e1, rfl⟩ := e
            simp only [Rd]
            exact ⟨a, _, vs.toList, rfl, ho, ⟨rfl, rfl, sz, by simp⟩, readL_sound (readV_sound X hb n) e1⟩
          · cases e
      · cases e
    · cases e
/-- the table that a global names -/
noncomputable def dictAt (K : Frag) (x : Str) : Option (Addr × List DictEntry) := match nsIn K mainGlobals x with
  | some (some (.ref a)) => match K.lookup a with
    | some ⟨.type cls, none, .dict es _, sl⟩ => if cls = "dict" ∧ sl.size = 0 ∧ a ≠ sysModules then some (a, es.toList) else none
    | _ => none
  | _ => none
noncomputable def keysAt (K : Frag) (x : Str) : List (Option Str) := match dictAt K x with
  | some (_, es) => es.map fun e => match e.key with | .str x _ => some x | _ => none
  | none => []
noncomputable def hashAt (K : Frag) (x : Str) : List Int := match dictAt K x with
  | some (_, es) => es.map (·.hash)
  | none => []
noncomputable def valsAt (K : Frag) (x : Str) : Option (List D) := match dictAt K x with
  | some (_, es) => readL (readV 8 K) (es.map (·.val))
  | none => none
theorem dictAt_sound {K : Frag} {base : Heap} {x : Str} {P : Params} {ks : List Str} {ds : List D} (h1 : keysAt K x = ks.map some) (h2 : hashAt K x = ks.map (PyData.keyHash P)) (h3 : valsAt K x = some ds) (X : K.In base) :
    ∃ v, nsIn K mainGlobals x = some (some v) ∧ ∀ (fz : Fz) sr, (∀ a o, base.get? a = some o → fz a o) → Rd fz sr (.dic P ks ds) v := by
  unfold keysAt at h1; unfold hashAt at h2; unfold valsAt at h3
  cases e : dictAt K x with
  | none => rw [e] at h3; cases h3
  | some p =>
    obtain ⟨a, es⟩ := p
    rw [e] at h1 h2 h3
    dsimp only at h1 h2 h3
    unfold dictAt at e
    split at e
    · rename_i b hb
      split at e
      · rename_i cls es' n sl q
        split at e
        · rename_i hc
          obtain ⟨rfl, hc2, hc3⟩ := hc
          cases e
          refine ⟨_, hb, fun fz sr hf => ?_⟩
          simp only [Rd]
          refine ⟨_, _, es', n, rfl, hf _ _ (X _ _ q), by simpa using hc3, ⟨rfl, rfl, Array.eq_empty_of_size_eq_zero hc2⟩, rfl, DicK.of h1 h2, readL_sound (readV_sound X hf 8) h3⟩
        · cases e
      · cases e
    · cases e

-- F14
/-- an iterator over a list or over a tuple -/
noncomputable def SIt (k : Bool) (h : Heap) (i l : Addr) (n : Nat) : Prop := match k with
  | true => h.IsListIter i l n
  | false => h.IsTupleIter i l n
noncomputable def SSq (k : Bool) (h : Heap) (l : Addr) (xs : Array Value) : Prop := match k with
  | true => h.IsList l xs
  | false => h.IsTuple l xs
theorem SIt.obj {k : Bool} {h : Heap} {i l : Addr} {n : Nat} (x : SIt k h i l n) : ∃ o, h.get? i = some o ∧ ∀ h', h'.get? i = some o → SIt k h' i l n := by
  cases k <;> (obtain ⟨o, ho, r⟩ := x; exact ⟨o, ho, fun h' e => ⟨o, e, r⟩⟩)
theorem SSq.obj {k : Bool} {h : Heap} {l : Addr} {xs : Array Value} (x : SSq k h l xs) : ∃ o, h.get? l = some o ∧ ∀ h', h'.get? l = some o → SSq k h' l xs := by
  cases k <;> (obtain ⟨o, ho, r⟩ := x; exact ⟨o, ho, fun h' e => ⟨o, e, r⟩⟩)
theorem SIt.ext {k : Bool} {h h' : Heap} {i l b : Addr} {n : Nat} (x : SIt k h i l n) (hs : Heap.ExtBut b h h') (q : i ≠ b) : SIt k h' i l n := by
  obtain ⟨o, ho, r⟩ := x.obj; exact r _ (hs _ _ q ho)
theorem SSq.ext {k : Bool} {h h' : Heap} {l b : Addr} {xs : Array Value} (x : SSq k h l xs) (hs : Heap.ExtBut b h h') (q : l ≠ b) : SSq k h' l xs := by
  obtain ⟨o, ho, r⟩ := x.obj; exact r _ (hs _ _ q ho)
/-- a cell's object is written: nothing else changes -/
noncomputable abbrev Wr (a : Addr) (h h' : Heap) : Prop := Heap.SameBut a h h'

section
variable {prog : Program} {w : World} {A : Around} {E : Value → Shared → Prop} {s : Shared}
/-- the end of an iterator: where nothing is handled, StopIteration flies, and what stood stands -/
theorem stop_flies {α : Type} {off : Addr} {h₀ : Heap} {Q : α → Shared → Prop} (free : A.handled = none) (W : Heap.ExtBut off h₀ s.heap)
    (over : ∀ h' e, Heap.ExtBut off h₀ h' → (∃ o, h'.get? e = some o ∧ o.cls = .type "StopIteration") → E (.ref e) { s with heap := h' }) :
    wpAny (model prog w) A (Builtin.SmallTypes.stopIteration (α := α)) Q E s := by
  unfold Builtin.SmallTypes.stopIteration newExc newTuple
  refine wpAny_bind (wpAny_bind (wpAny_newObj_type (wpAny_bind (wpAny_of_eq (a := Value.none) rfl (wpAny_newObj_type ?_ (by size_fits)))) (by size_fits)))
  unfold raiseNew
  refine wpAny_bind (wpAny_handled ?_)
  rw [free]
  exact wpAny_bind (wpAny_pure (wpAny_throw (over _ _ ((W.push _).push _) ⟨_, Heap.get?_push_size _ rfl, rfl⟩)))
/-- a turn of a tuple's iterator, both ways: it gives the thing at its place and moves on, or it is at its end -/
theorem turn_tuple {it t : Addr} {i : Nat} {items : Array Value} {Q : Value → Shared → Prop} (free : A.handled = none) (I : s.heap.IsTupleIter it t i) (T : s.heap.IsTuple t items)
    (give : ∀ x h', items[i]? = some x → h'.IsTupleIter it t (i + 1) → Heap.SameBut it s.heap h' → Q x { s with heap := h' })
    (over : ∀ h' e, items[i]? = none → Heap.ExtBut it s.heap h' → (∃ o, h'.get? e = some o ∧ o.cls = .type "StopIteration") → E (.ref e) { s with heap := h' }) :
    wpAny (model prog w) A (Builtin.SmallTypes.nextOf (.ref it)) Q E s := by
  have hT := I.typeIs
  obtain ⟨oi, gi, ci, di⟩ := I
  obtain ⟨ot, gt, -, m, dt⟩ := T
  refine wpAny_bind (wpAny_callSpecial?_slot (name := "__next__") hT F.slot_tuple_iterator_next (wpAny_call_entry F.slot_tuple_iterator_next hT F.entry_tuple_iterator_next ?_ (F.args_tuple_iterator_next_1 _)))
  refine wpAny_bind (wpAny_of_eq (a := (Value.ref it, ([] : List Value))) rfl (wpAny_bind (wpAny_field gi di (x := .ref t) rfl (wpAny_bind (wpAny_field gi di (x := .int i 0) rfl (wpAny_bind (wpAny_seqItems gt dt ?_)))))))
  rw [Int.toNat_natCast]
  dsimp only
  cases e : items[i]? with
  | some x =>
    refine wpAny_bind (wpAny_setField gi di ?_ (wpAny_pure ⟨x, rfl, wpAny_pure (give x _ e ⟨_, Heap.get?_update_self _ gi (Obj.isFreed_of_fields (Obj.data_mapFields di _)), ?_, ?_⟩ (Heap.SameBut.update ..))⟩))
    · exact Nat.lt_succ_self 1
    · rw [Obj.cls_mapFields]; exact ci
    · rw [Obj.data_mapFields di]; simp [rawInt]
  | none =>
    refine wpAny_bind (wpAny_rule (wpAny_bind (wpAny_setField gi di ?_ (stop_flies free (Heap.SameBut.update ..).extBut fun h' e' => over h' e' e))))
    exact Nat.zero_lt_succ 1
/-- the same over a list or a tuple -/
theorem turn_seq {k : Bool} {it t : Addr} {i : Nat} {items : Array Value} {Q : Value → Shared → Prop} (free : A.handled = none) (I : SIt k s.heap it t i) (T : SSq k s.heap t items)
    (give : ∀ x h', items[i]? = some x → SIt k h' it t (i + 1) → Heap.SameBut it s.heap h' → Q x { s with heap := h' })
    (over : ∀ h' e, items[i]? = none → Heap.ExtBut it s.heap h' → (∃ o, h'.get? e = some o ∧ o.cls = .type "StopIteration") → E (.ref e) { s with heap := h' }) :
    wpAny (model prog w) A (Builtin.SmallTypes.nextOf (.ref it)) Q E s := by
  cases k with
  | false => exact turn_tuple free I T give over
  | true => cases e : items[i]? with
    | some x => exact wpAny_nextOf_list_item I T e fun h' => give x h' e
    | none => exact wpAny_nextOf_list_end free I T e fun h' e' => over h' e' e
end

-- F15
/-- all but the named stays -/
noncomputable def Off (L : List Addr) (h h' : Heap) : Prop := ∀ c o, c ∉ L → h.get? c = some o → h'.get? c = some o
theorem Off.of {L : List Addr} {a : Addr} {h h' : Heap} (x : Heap.ExtBut a h h') (m : a ∈ L) : Off L h h' := fun c o n e => x c o (fun q => n (q ▸ m)) e
theorem Off.trans {L : List Addr} {h h' h'' : Heap} (x : Off L h h') (y : Off L h' h'') : Off L h h'' := fun c o n e => y c o n (x c o n e)
theorem Off.same (L : List Addr) (h : Heap) : Off L h h := fun _ _ _ e => e
/-- a zip over two sequences amid its turns: the zip's first field, the kept pair, the two places -/
structure ZS (j k : Bool) (h₀ h : Heap) (z TI TO i1 i2 l1 l2 : Addr) (xs ys : Array Value) (f a b : Value) (n m : Nat) : Prop where
  zip : IsZip h z TI TO f
  ins : IsPair h TI (.ref i1) (.ref i2)
  out : IsPair h TO a b
  it1 : SIt j h i1 l1 n
  it2 : SIt k h i2 l2 m
  sq1 : SSq j h l1 xs
  sq2 : SSq k h l2 ys
  off : Off [z, TO, i1, i2] h₀ h
section
variable {j k : Bool} {h₀ h h' : Heap} {z TI TO i1 i2 l1 l2 : Addr} {xs ys : Array Value} {f g a b c d : Value} {n m p : Nat}
theorem ZS.field (Z : ZS j k h₀ h z TI TO i1 i2 l1 l2 xs ys f a b n m) (D : ZipApart z TI TO i1 i2 l1 l2) (y : IsZip h' z TI TO g) (W : Heap.SameBut z h h') : ZS j k h₀ h' z TI TO i1 i2 l1 l2 xs ys g a b n m :=
  ⟨y, W.extBut _ _ D.TIz Z.ins, W.extBut _ _ D.TOz Z.out, Z.it1.ext W.extBut D.i1z, Z.it2.ext W.extBut D.i2z, Z.sq1.ext W.extBut D.l1z, Z.sq2.ext W.extBut D.l2z, Z.off.trans (.of W.extBut (by simp))⟩
theorem ZS.pair (Z : ZS j k h₀ h z TI TO i1 i2 l1 l2 xs ys f a b n m) (D : ZipApart z TI TO i1 i2 l1 l2) (y : IsPair h' TO c d) (W : Heap.SameBut TO h h') : ZS j k h₀ h' z TI TO i1 i2 l1 l2 xs ys f c d n m :=
  ⟨W.extBut _ _ D.TOz.symm Z.zip, W.extBut _ _ D.TITO Z.ins, y, Z.it1.ext W.extBut D.TOi1.symm, Z.it2.ext W.extBut D.TOi2.symm, Z.sq1.ext W.extBut D.l1TO, Z.sq2.ext W.extBut D.l2TO, Z.off.trans (.of W.extBut (by simp))⟩
theorem ZS.one (Z : ZS j k h₀ h z TI TO i1 i2 l1 l2 xs ys f a b n m) (D : ZipApart z TI TO i1 i2 l1 l2) (y : SIt j h' i1 l1 p) (W : Heap.ExtBut i1 h h') : ZS j k h₀ h' z TI TO i1 i2 l1 l2 xs ys f a b p m :=
  ⟨W _ _ D.i1z.symm Z.zip, W _ _ D.TIi1 Z.ins, W _ _ D.TOi1 Z.out, y, Z.it2.ext W D.i12.symm, Z.sq1.ext W D.l1i1, Z.sq2.ext W D.l2i1, Z.off.trans (.of W (by simp))⟩
theorem ZS.two (Z : ZS j k h₀ h z TI TO i1 i2 l1 l2 xs ys f a b n m) (D : ZipApart z TI TO i1 i2 l1 l2) (y : SIt k h' i2 l2 p) (W : Heap.ExtBut i2 h h') : ZS j k h₀ h' z TI TO i1 i2 l1 l2 xs ys f a b n p :=
  ⟨W _ _ D.i2z.symm Z.zip, W _ _ D.TIi2 Z.ins, W _ _ D.TOi2 Z.out, Z.it1.ext W D.i12, y, Z.sq1.ext W D.l1i2, Z.sq2.ext W D.l2i2, Z.off.trans (.of W (by simp))⟩
/-- a fresh object beside it -/
theorem ZS.more (Z : ZS j k h₀ h z TI TO i1 i2 l1 l2 xs ys f a b n m) (o : Obj) : ZS j k h₀ (h.push o) z TI TO i1 i2 l1 l2 xs ys f a b n m := by
  have up : ∀ c p, h.get? c = some p → (h.push o).get? c = some p := fun _ _ e => Heap.get?_push_of_some _ e
  obtain ⟨o1, g1, r1⟩ := Z.it1.obj
  obtain ⟨o2, g2, r2⟩ := Z.it2.obj
  obtain ⟨o3, g3, r3⟩ := Z.sq1.obj
  obtain ⟨o4, g4, r4⟩ := Z.sq2.obj
  exact ⟨up _ _ Z.zip, up _ _ Z.ins, up _ _ Z.out, r1 _ (up _ _ g1), r2 _ (up _ _ g2), r3 _ (up _ _ g3), r4 _ (up _ _ g4), fun c p x e => up c p (Z.off c p x e)⟩
/-- the turn falls: the zip is freed for the next, and the flying thing stands -/
theorem ZS.falls {prog : Program} {w : World} {A : Around} {E : Unit → Shared → Prop} {E' : Value → Shared → Prop} {s : Shared} {e : Addr} (y : IsZip s.heap z TI TO f) (o : Off [z, TO, i1, i2] h₀ s.heap) (he : ∃ q, s.heap.get? e = some q ∧ q.cls = .type "StopIteration")
    (over : ∀ h', Off [z, TO, i1, i2] h₀ h' → (∃ q, h'.get? e = some q ∧ q.cls = .type "StopIteration") → E () { s with heap := h' }) : wpAny (model prog w) A (setField (.ref z) 0 .none) E E' s := by
  obtain ⟨q, gq, cq⟩ := he
  have ne : e ≠ z := by
    rintro rfl
    rw [y] at gq
    cases gq
    exact absurd cq (by simp)
  exact wpAny_setField_rec y (by simp) fun h' _ W => over h' (o.trans (.of W.extBut (by simp))) ⟨q, W.extBut _ _ ne gq, cq⟩
end
section
variable {prog : Program} {w : World} {A : Around} {E : Value → Shared → Prop} {s : Shared} {j k : Bool}
/-- a turn of zip over two sequences, both ways -/
theorem turn_zip {z TI TO i1 i2 l1 l2 : Addr} {n : Nat} {xs ys : Array Value} {a b : Value} {Q : Value → Shared → Prop} (free : A.handled = none) (D : ZipApart z TI TO i1 i2 l1 l2)
    (Z : ZS j k s.heap s.heap z TI TO i1 i2 l1 l2 xs ys .none a b n n)
    (give : ∀ x y h', xs[n]? = some x → ys[n]? = some y → ZS j k s.heap h' z TI TO i1 i2 l1 l2 xs ys (rawInt s.heap.objs.size) x y (n + 1) (n + 1) → IsPair h' s.heap.objs.size x y → Q (.ref s.heap.objs.size) { s with heap := h' })
    (over : ∀ h' e, (xs[n]? = none ∨ ys[n]? = none) → Off [z, TO, i1, i2] s.heap h' → (∃ o, h'.get? e = some o ∧ o.cls = .type "StopIteration") → E (.ref e) { s with heap := h' }) :
    wpAny (model prog w) A (Builtin.«zip.__next__» ⟨[.ref z], []⟩) (fun fin s' => ∃ v, fin = .done (.ret v) ∧ Q v s') E s := by
  refine wpAny_bind (wpAny_of_eq (a := (Value.ref z, ([] : List Value))) rfl (wpAny_bind (wpAny_field Z.zip rfl (x := .bool false) rfl (wpAny_bind (wpAny_field Z.zip rfl (x := .ref TI) rfl (wpAny_bind (wpAny_seqItems Z.ins rfl ?_)))))))
  dsimp only
  refine wpAny_bind (wpAny_bind (wpAny_field Z.zip rfl (x := .none) rfl (wpAny_pure ?_)))
  refine wpAny_bind (wpAny_rule (wpAny_bind (wpAny_field Z.zip rfl (x := .ref TO) rfl (wpAny_bind (wpAny_setField_rec Z.zip (by simp) fun h1 y1 W1 => ?_)))))
  have Z1 := Z.field (g := .ellipsis) D y1 W1
  refine wpAny_bind ?_
  simp only [List.zipIdx, List.forIn_cons, List.forIn_nil]
  refine wpAny_bind (wpAny_bind (wpAny_onRaise (wpAny_bind (turn_seq free Z1.it1 Z1.sq1 (fun x h2 ex I2 W2 => wpAny_pure ?_) fun h2 e ex W2 he => ?_))))
  · have Z2 := Z1.one D I2 W2.extBut
    refine wpAny_bind (wpAny_seqItems Z2.out rfl (wpAny_bind (wpAny_updateSeq_pair Z2.out fun h3 y3 W3 => wpAny_bind (wpAny_letGo (wpAny_pure ?_)))))
    have Z3 := Z2.pair (c := x) (d := b) D y3 W3
    refine wpAny_bind (wpAny_bind (wpAny_onRaise (wpAny_bind (turn_seq free Z3.it2 Z3.sq2 (fun y h4 ey I4 W4 => wpAny_pure ?_) fun h4 e ey W4 he => ?_))))
    · have Z4 := Z3.two D I4 W4.extBut
      refine wpAny_bind (wpAny_seqItems Z4.out rfl (wpAny_bind (wpAny_updateSeq_pair Z4.out fun h5 y5 W5 => wpAny_bind (wpAny_letGo (wpAny_pure (wpAny_pure ?_))))))
      have Z5 := Z4.pair (c := x) (d := y) D y5 W5
      refine wpAny_bind (wpAny_seqItems Z5.out rfl (wpAny_bind (wpAny_newTuple ?_)))
      have Z6 := Z5.more { cls := .type "tuple", data := .seq #[x, y] }
      have T6 : IsPair (h5.push { cls := .type "tuple", data := .seq #[x, y] }) h5.objs.size x y := Heap.get?_push_size _ rfl
      have size : h5.objs.size = s.heap.objs.size := by rw [W5.1, W4.1, W3.1, W2.1, W1.1]
      have ne : h5.objs.size ≠ z := Nat.ne_of_gt (Heap.lt_size Z5.zip)
      refine wpAny_bind (wpAny_bind (wpAny_setField_rec Z6.zip (by simp) fun h7 y7 W7 => ?_))
      have Z7 := Z6.field (g := rawInt h5.objs.size) D y7 W7
      refine wpAny_setField_rec Z7.zip (by simp) fun h8 y8 W8 => wpAny_pure ⟨_, rfl, ?_⟩
      have Z8 := Z7.field (g := rawInt h5.objs.size) D y8 W8
      have T8 : IsPair h8 h5.objs.size x y := W8.extBut _ _ ne (W7.extBut _ _ ne T6)
      rw [size] at Z8 T8
      show Q (.ref h5.objs.size) _
      rw [size]
      exact give x y h8 ex ey Z8 T8
    · exact ZS.falls (W4 _ _ D.i2z.symm Z3.zip) (Z3.off.trans (.of W4 (by simp))) he fun h' o he => over h' e (.inr ey) o he
  · exact ZS.falls (W2 _ _ D.i1z.symm Z1.zip) (Z1.off.trans (.of W2 (by simp))) he fun h' o he => over h' e (.inl ex) o he
end

noncomputable def zipsD (ds es : List D) : List D := (ds.zip es).map fun p => .tup [p.1, p.2]
theorem It.zip {prog : Program} {w : World} {A : Around} {sr : Option Addr} {elts : List Expr} {x1 : Nat} {tpos : Pos} {fz : Fz} {j k : Bool} {z TI TO i1 i2 l1 l2 : Addr} {o1 o2 : Obj} {vs us : List Value} {ds es : List D} (hh : A.handled = none) (D : ZipApart z TI TO i1 i2 l1 l2)
    (h1 : fz l1 o1) (h2 : fz l2 o2) (q1 : ∀ h : Heap, h.get? l1 = some o1 → SSq j h l1 vs.toArray) (q2 : ∀ h : Heap, h.get? l2 = some o2 → SSq k h l2 us.toArray) (r1 : RdL fz sr ds vs) (r2 : RdL fz sr es us) :
    It prog w A sr (.Tuple elts x1 tpos) fz z [z, TI, TO, i1, i2] (zipsD ds es) (fun n h => IsZip h z TI TO .none ∧ IsPair h TI (.ref i1) (.ref i2) ∧ (∃ a b, IsPair h TO a b) ∧ SIt j h i1 l1 n ∧ SIt k h i2 l2 n) where
  frame := fun i h h' st hk _ => by
    obtain ⟨hz, hTI, ⟨a, b, hTO⟩, s1, s2⟩ := st
    refine ⟨hk z (by simp) _ hz, hk TI (by simp) _ hTI, ⟨a, b, hk TO (by simp) _ hTO⟩, ?_, ?_⟩
    · obtain ⟨o, ho, r⟩ := s1.obj; exact r _ (hk i1 (by simp) _ ho)
    · obtain ⟨o, ho, r⟩ := s2.obj; exact r _ (hk i2 (by simp) _ ho)
  ex := fun i h st b hb => by
    obtain ⟨hz, hTI, ⟨a, b', hTO⟩, s1, s2⟩ := st
    simp only [List.mem_cons, List.not_mem_nil, or_false] at hb
    rcases hb with rfl | rfl | rfl | rfl | rfl
    · exact ⟨_, hz⟩
    · exact ⟨_, hTI⟩
    · exact ⟨_, hTO⟩
    · obtain ⟨o, ho, _⟩ := s1.obj; exact ⟨o, ho⟩
    · obtain ⟨o, ho, _⟩ := s2.obj; exact ⟨o, ho⟩
  turn := fun i d f s Φ E E' hi st hsub hin hfw kk => by
    obtain ⟨hz, hTI, ⟨a, b, hTO⟩, s1, s2⟩ := st
    simp only [zipsD, List.getElem?_map, Option.map_eq_some_iff] at hi
    obtain ⟨⟨d1, d2⟩, hi, rfl⟩ := hi
    rw [List.getElem?_zip_eq_some] at hi
    obtain ⟨v, hv, rv⟩ := r1.get hi.1
    obtain ⟨u, hu, ru⟩ := r2.get hi.2
    have hT : s.TypeIs (.ref z) "zip" := ⟨_, hz, rfl⟩
    have hN := none_size s.heap
    unfold pyNext
    have Z : ZS j k s.heap s.heap z TI TO i1 i2 l1 l2 vs.toArray us.toArray .none a b i i := ⟨hz, hTI, hTO, s1, s2, q1 _ (hin _ _ (hsub _ _ h1)), q2 _ (hin _ _ (hsub _ _ h2)), Off.same _ _⟩
    have ev : vs.toArray[i]? = some v := by simpa using hv
    have eu : us.toArray[i]? = some u := by simpa using hu
    refine wpAny_bind (wpAny_attempt (wpAny_callSpecial?_slot (name := "__next__") hT F.slot_zip_next (wpAny_call_entry F.slot_zip_next hT F.entry_zip_next
      (turn_zip hh D Z (fun x y h' ex ey Z' a5 => wpAny_pure ⟨_, rfl, ?_⟩) fun h' e no _ _ => absurd no (by rw [ev, eu]; simp)) (F.args_zip_next_1 _))))
    obtain rfl : v = x := Option.some.inj (ev.symm.trans ex)
    obtain rfl : u = y := Option.some.inj (eu.symm.trans ey)
    refine wpAny_letOwnedTupleGo_zip Z'.zip fun h'' hz'' hs'' => ?_
    have ne : ∀ b o, s.heap.get? b = some o → s.heap.objs.size ≠ b := fun b o e q => by rw [← q, hN] at e; cases e
    have kept : ∀ b o, b ∉ [z, TI, TO, i1, i2] → s.heap.get? b = some o → h''.get? b = some o := fun b o hb e => by
      simp only [List.mem_cons, List.not_mem_nil, or_false, not_or] at hb
      exact hs''.extBut b o hb.1 (Z'.off b o (by simp only [List.mem_cons, List.not_mem_nil, or_false, not_or]; exact ⟨hb.1, hb.2.2⟩) e)
    have hnew : IsPair h'' s.heap.objs.size v u := hs''.extBut _ _ (ne z _ hz) a5
    refine kk (.ref s.heap.objs.size) (f.add s.heap.objs.size { cls := .type "tuple", data := .seq #[v, u] }) h'' s.toks ⟨hz'', hs''.extBut _ _ D.TIz Z'.ins, ⟨v, u, hs''.extBut _ _ D.TOz Z'.out⟩, Z'.it1.ext hs''.extBut D.i1z, Z'.it2.ext hs''.extBut D.i2z⟩ (fun _ _ q => .inl q) (fun b p q => ?_) (fun b p q => ?_) kept ?_
    · rcases q with q | ⟨rfl, rfl⟩
      · exact kept b p (fun hb => hfw b hb p q) (hin b p q)
      · exact hnew
    · rcases q with q | ⟨rfl, rfl⟩
      · exact .inl q
      · exact .inr hN
    · simp only [Rd]
      refine ⟨_, _, [v, u], rfl, .inr ⟨rfl, rfl⟩, ⟨rfl, rfl, _, rfl⟩, ?_⟩
      exact ⟨v, [u], rfl, rv.mono fun _ _ q => .inl (hsub _ _ q), u, [], rfl, ru.mono fun _ _ q => .inl (hsub _ _ q), rfl⟩
  done := fun f s Φ E st hsub hin hfw kk => by
    obtain ⟨hz, hTI, ⟨a, b, hTO⟩, s1, s2⟩ := st
    have hT : s.TypeIs (.ref z) "zip" := ⟨_, hz, rfl⟩
    have hend : vs.toArray[(zipsD ds es).length]? = none ∨ us.toArray[(zipsD ds es).length]? = none := by
      have e : (zipsD ds es).length = min vs.length us.length := by simp [zipsD, r1.length, r2.length]
      rw [e]
      rcases Nat.le_total vs.length us.length with h | h
      · left; simp [h]
      · right; simp [h]
    unfold pyNext
    have Z : ZS j k s.heap s.heap z TI TO i1 i2 l1 l2 vs.toArray us.toArray .none a b (zipsD ds es).length (zipsD ds es).length := ⟨hz, hTI, hTO, s1, s2, q1 _ (hin _ _ (hsub _ _ h1)), q2 _ (hin _ _ (hsub _ _ h2)), Off.same _ _⟩
    refine wpAny_bind (wpAny_attempt (wpAny_callSpecial?_slot (name := "__next__") hT F.slot_zip_next (wpAny_call_entry F.slot_zip_next hT F.entry_zip_next
      (turn_zip hh D Z (fun x y h' ex ey _ _ => absurd hend (by rw [ex, ey]; simp)) fun h' e _ hk he => ?_) (F.args_zip_next_1 _))))
    obtain ⟨o, ho, hc⟩ := he
    refine wpAny_bind (wpAny_isInstance ⟨o, ho, hc⟩ isSubtype_stop (wpAny_pure (kk h' s.toks fun b p hb e => ?_)))
    simp only [List.mem_cons, List.not_mem_nil, or_false, not_or] at hb
    exact hk b p (by simp only [List.mem_cons, List.not_mem_nil, or_false, not_or]; exact ⟨hb.1, hb.2.2⟩) e
  self := fun i s Φ E st kk => wpAny_pyIter_zip st.1 kk

-- F16
noncomputable def itO (k : Bool) (l : Addr) : Obj := match k with
  | true => { cls := .type "list_iterator", data := .fields #[.ref l, .int 0 0] }
  | false => { cls := .type "tuple_iterator", data := .fields #[.ref l, .int 0 0] }
noncomputable abbrev zh1 (j : Bool) (h : Heap) (l1 : Addr) : Heap := h.push (itO j l1)
noncomputable abbrev zh2 (j k : Bool) (h : Heap) (l1 l2 : Addr) : Heap := (zh1 j h l1).push (itO k l2)
noncomputable abbrev zh3 (j k : Bool) (h : Heap) (l1 l2 : Addr) : Heap := (zh2 j k h l1 l2).push { cls := .type "tuple", data := .seq #[.ref h.objs.size, .ref (zh1 j h l1).objs.size] }
noncomputable abbrev zh4 (j k : Bool) (h : Heap) (l1 l2 : Addr) : Heap := (zh3 j k h l1 l2).push { cls := .type "tuple", data := .seq #[.none, .none] }
noncomputable abbrev zh5 (j k : Bool) (h : Heap) (l1 l2 : Addr) : Heap := (zh4 j k h l1 l2).push { cls := .type "zip", data := .fields #[.none, .bool false, .bool false, .ref (zh2 j k h l1 l2).objs.size, .ref (zh3 j k h l1 l2).objs.size] }
theorem zip_new_tt (l1 l2 : Addr) (xs ys : Array Value) : Meets (Builtin.«zip.__new__» ⟨[.type "zip", .ref l1, .ref l2], []⟩) (fun _ R s => s.heap.IsTuple l1 xs ∧ s.heap.IsTuple l2 ys ∧
      R (.ok (.ret (.ref (zh4 false false s.heap l1 l2).objs.size))) { s with heap := zh5 false false s.heap l1 l2 }) :=
  .of_wp fun prog w A R s h => by
    obtain ⟨hp, g, d, tk, os⟩ := s; obtain ⟨hl1, hl2, h⟩ := h
    have hsub := sub_zip
    have hL1 : Heap.IsTuple (Shared.heap ⟨hp, g, d, tk, os⟩) l1 xs := hl1
    have hL2 : Heap.IsTuple (Shared.heap ⟨hp.push { cls := .type "tuple_iterator", data := .fields #[.ref l1, .int 0 0] }, g, d, tk, os⟩) l2 ys := Heap.IsTuple.push hl2 _
    wp_walk using wpAny_pyIter_tuple hL1, wpAny_pyIter_tuple hL2
    exact ⟨_, rfl, h⟩
theorem zip_new_tl (l1 l2 : Addr) (xs ys : Array Value) : Meets (Builtin.«zip.__new__» ⟨[.type "zip", .ref l1, .ref l2], []⟩) (fun _ R s => s.heap.IsTuple l1 xs ∧ s.heap.IsList l2 ys ∧
      R (.ok (.ret (.ref (zh4 false true s.heap l1 l2).objs.size))) { s with heap := zh5 false true s.heap l1 l2 }) :=
  .of_wp fun prog w A R s h => by
    obtain ⟨hp, g, d, tk, os⟩ := s; obtain ⟨hl1, hl2, h⟩ := h
    have hsub := sub_zip
    have hL1 : Heap.IsTuple (Shared.heap ⟨hp, g, d, tk, os⟩) l1 xs := hl1
    have hL2 : Heap.IsList (Shared.heap ⟨hp.push { cls := .type "tuple_iterator", data := .fields #[.ref l1, .int 0 0] }, g, d, tk, os⟩) l2 ys := Heap.IsList.push hl2 _
    wp_walk using wpAny_pyIter_tuple hL1, wpAny_pyIter_list hL2
    exact ⟨_, rfl, h⟩
theorem zip_new {k : Bool} (l1 l2 : Addr) (xs ys : Array Value) : Meets (Builtin.«zip.__new__» ⟨[.type "zip", .ref l1, .ref l2], []⟩) (fun _ R s => s.heap.IsTuple l1 xs ∧ SSq k s.heap l2 ys ∧
      R (.ok (.ret (.ref (zh4 false k s.heap l1 l2).objs.size))) { s with heap := zh5 false k s.heap l1 l2 }) := by
  cases k
  · exact zip_new_tt l1 l2 xs ys
  · exact zip_new_tl l1 l2 xs ys
theorem SIt.new {k : Bool} {h : Heap} {i l : Addr} (e : h.get? i = some (itO k l)) : SIt k h i l 0 := by
  cases k <;> exact ⟨_, e, rfl, rfl⟩
/-- objects laid one behind another -/
theorem laid_old {b : Addr} {p : Obj} : ∀ (os : List Obj) {h : Heap}, h.get? b = some p → (os.foldl Heap.push h).get? b = some p
  | [], _, e => e
  | _ :: os, _, e => laid_old os (Heap.get?_push_of_some _ e)
theorem laid_at {o : Obj} (live : o.isFreed = false) : ∀ (os : List Obj) (i : Nat) (h : Heap), os[i]? = some o → (os.foldl Heap.push h).get? (h.objs.size + i) = some o
  | q :: os, 0, h, e => by
    obtain rfl : q = o := by simpa using e
    exact laid_old os (Heap.get?_push_size _ live)
  | q :: os, i + 1, h, e => by
    have := laid_at live os i (h.push q) (by simpa using e)
    rwa [Heap.size_push, Nat.add_assoc, Nat.add_comm 1 i] at this
section
variable {prog : Program} {w : World} {A : Around} {E : Value → Shared → Prop} {s : Shared}
theorem call_zip {k : Bool} {l1 l2 : Addr} {xs ys : Array Value} {Q : Value → Shared → Prop} (hl1 : s.heap.IsTuple l1 xs) (hl2 : SSq k s.heap l2 ys)
    (h : ∀ h', IsZip h' (s.heap.objs.size + 4) (s.heap.objs.size + 2) (s.heap.objs.size + 3) .none → IsPair h' (s.heap.objs.size + 2) (.ref s.heap.objs.size) (.ref (s.heap.objs.size + 1)) →
      IsPair h' (s.heap.objs.size + 3) .none .none → SIt false h' s.heap.objs.size l1 0 → SIt k h' (s.heap.objs.size + 1) l2 0 →
      (∀ c o, s.heap.get? c = some o → h'.get? c = some o) → Q (.ref (s.heap.objs.size + 4)) { s with heap := h' }) :
    wpAny (model prog w) A (call (.type "zip") [.ref l1, .ref l2]) Q E s := by
  refine callType_new F.called_zip (by decide) (F.typeCall_zip_2 _ _) (F.newCall_zip_2 _ _) (fun obj => F.args_object_init_3 obj _ _) F.entry_zip_new
    (zip_new (k := k) l1 l2 xs ys) ⟨hl1, hl2, ?_⟩
  have all : zh5 false k s.heap l1 l2 = [itO false l1, itO k l2, { cls := .type "tuple", data := .seq #[.ref s.heap.objs.size, .ref (s.heap.objs.size + 1)] }, { cls := .type "tuple", data := .seq #[.none, .none] },
      { cls := .type "zip", data := .fields #[.none, .bool false, .bool false, .ref (s.heap.objs.size + 2), .ref (s.heap.objs.size + 3)] }].foldl Heap.push s.heap := by
    simp only [zh5, zh4, zh3, zh2, zh1, List.foldl_cons, List.foldl_nil, Heap.size_push, Nat.add_assoc, Nat.reduceAdd]
  have last : (zh4 false k s.heap l1 l2).objs.size = s.heap.objs.size + 4 := by simp only [zh4, zh3, zh2, zh1, Heap.size_push, Nat.add_assoc, Nat.reduceAdd]
  have live : ∀ k l, (itO k l).isFreed = false := fun k l => by cases k <;> rfl
  show _ ∧ _
  rw [last, all]
  exact ⟨⟨_, laid_at rfl _ 4 _ rfl, rfl⟩, h _ (laid_at rfl _ 4 _ rfl) (laid_at rfl _ 2 _ rfl) (laid_at rfl _ 3 _ rfl) (SIt.new (laid_at (live _ _) _ 0 _ rfl)) (SIt.new (laid_at (live _ _) _ 1 _ rfl)) fun c o e => laid_old _ e⟩
end

theorem zipApart_of (N l1 l2 : Nat) (h1 : l1 < N) (h2 : l2 < N) : ZipApart (N + 4) (N + 2) (N + 3) N (N + 1) l1 l2 := by
  constructor <;> (show @Ne Nat _ _; omega)
/-- zip of a tuple and a tuple or a list, as a source -/
theorem Src_zip {c : Cx} {ρ : Rho} {pos p : Pos} {P : List D → Prop} {e1 e2 : Expr} {f : Str} {mg mb : Str → Option Value} (hx : c.env.kindOf f = some .globalImplicit) (hd : (f == ("__debug__" : Str)) = false) (G : c.base.Ns mainGlobals mg) (B : c.base.Ns builtinsNs mb)
    (hm : mg f = none) (hb : mb f = some (.type "zip")) (hst : starEach [e1, e2] c.env = (false, eval e1 c.env) :: starEach [e2] c.env) (hpl : ((backTo pos (starEach [e2] c.env)).any fun x => x.1) = false)
    (h : SemL c pos [e1, e2] ρ fun ds => ∃ l r d2, ds = [.tup l, d2] ∧ (d2 = .tup r ∨ d2 = .lst r) ∧ P (zipsD l r)) :
    ∀ (elts : List Expr) (x1 : Nat) (tpos : Pos) (oc : Oc) (fz : Fz) (s : Shared) (Φ : Value → Shared → Prop) (E : Value → Shared → Prop), SR c oc fz ρ s →
    (∀ g s₂ g' s' I wr items St, Step c.sr fz s g s₂ → Step c.sr g s₂ g' s' → It c.prog c.w c.A c.sr (.Tuple elts x1 tpos) g' I wr items St → St 0 s'.heap → (∀ b ∈ wr, s₂.heap.get? b = none) → (∀ b ∈ wr, ∀ o, ¬ g' b o) → P items → Φ (.ref I) s') →
    wpAny c.M c.A (eval (.Call (.Name f p) [e1, e2] [] pos) c.env) (fun x s₁ => wpAny c.M c.A (pyIter x) Φ E s₁) E s := by
  intro elts x1 tpos oc fz s Φ E S k
  refine wpAny_Call_NameR (builtin_name S hx hd G B hm hb ?_)
  refine PyProof.Rows.callWith_type1 (h oc fz s _ E S fun fz₁ vs ds s₁ st r _ q => ?_) hst hpl
  obtain ⟨l, rr, d2, rfl, hd2, q⟩ := q
  have S₁ := S.on st
  simp only [RdL] at r
  obtain ⟨v1, us, rfl, r1, v2, us', rfl, r2, rfl⟩ := r
  simp only [Rd] at r1
  obtain ⟨l1, o1, xs, rfl, ho1, hq1, hr1⟩ := r1
  have key : ∃ (kk : Bool) (l2 : Addr) (o2 : Obj) (ys : List Value), v2 = .ref l2 ∧ fz₁ l2 o2 ∧ (∀ h : Heap, h.get? l2 = some o2 → SSq kk h l2 ys.toArray) ∧ RdL fz₁ c.sr rr ys := by
    rcases hd2 with rfl | rfl
    · simp only [Rd] at r2
      obtain ⟨l2, o2, ys, rfl, ho2, hq2, hr2⟩ := r2
      exact ⟨false, l2, o2, ys, rfl, ho2, fun h e => ⟨o2, e, hq2.1, hq2.2.2⟩, hr2⟩
    · simp only [Rd] at r2
      obtain ⟨l2, o2, ys, rfl, ho2, hq2, hr2⟩ := r2
      exact ⟨true, l2, o2, ys, rfl, ho2, fun h e => ⟨o2, e, hq2.1, hq2.2.2⟩, hr2⟩
  obtain ⟨kk, l2, o2, ys, rfl, ho2, q2, hr2⟩ := key
  refine call_zip (k := kk) (xs := xs.toArray) (ys := ys.toArray) ⟨o1, S₁.inn _ _ ho1, hq1.1, hq1.2.2⟩ (q2 _ (S₁.inn _ _ ho2)) fun h' a1 a2 a3 a4 a5 a6 => ?_
  refine wpAny_pyIter_zip a1 ?_
  have lt1 := Heap.lt_size (S₁.inn _ _ ho1)
  have lt2 := Heap.lt_size (S₁.inn _ _ ho2)
  have D : ZipApart (s₁.heap.objs.size + 4) (s₁.heap.objs.size + 2) (s₁.heap.objs.size + 3) s₁.heap.objs.size (s₁.heap.objs.size + 1) l1 l2 := by
    exact zipApart_of _ l1 l2 lt1 lt2
  have nw : ∀ b ∈ [s₁.heap.objs.size + 4, s₁.heap.objs.size + 2, s₁.heap.objs.size + 3, s₁.heap.objs.size, s₁.heap.objs.size + 1], s₁.heap.get? b = none := fun b hb => by
    refine none_ge ?_
    simp only [List.mem_cons, List.not_mem_nil, or_false] at hb
    rcases hb with rfl | rfl | rfl | rfl | rfl
    · exact Nat.le_add_right _ _
    · exact Nat.le_add_right _ _
    · exact Nat.le_add_right _ _
    · exact Nat.le_refl _
    · exact Nat.le_add_right _ _
  refine k fz₁ s₁ fz₁ _ _ _ _ _ st (Step.keep (h' := h') (t' := s₁.toks) S₁.step.src S₁.inn a6) (It.zip (j := false) (k := kk) S.room.1 D ho1 ho2 (fun h e => ⟨o1, e, hq1.1, hq1.2.2⟩) q2 hr1 hr2) ⟨a1, a2, ⟨_, _, a3⟩, a4, a5⟩ nw (fun b hb o z => ?_) q
  have h1 := nw b hb
  have h2 := S₁.inn _ _ z
  exact nomatch (h1.symm.trans h2)

noncomputable def SrcItT (c : Cx) (iter : Expr) (ρ : Rho) (P : List D → Prop) : Prop :=
  ∀ (elts : List Expr) (x1 : Nat) (tpos : Pos) (oc : Oc) (fz : Fz) (s : Shared) (Φ : Value → Shared → Prop) (E : Value → Shared → Prop), SR c oc fz ρ s →
    (∀ g s₂ g' s' I wr items St, Step c.sr fz s g s₂ → Step c.sr g s₂ g' s' → It c.prog c.w c.A c.sr (.Tuple elts x1 tpos) g' I wr items St → St 0 s'.heap → (∀ b ∈ wr, s₂.heap.get? b = none) → (∀ b ∈ wr, ∀ o, ¬ g' b o) → P items → Φ (.ref I) s') →
    wpAny c.M c.A (eval iter c.env) (fun x s₁ => wpAny c.M c.A (pyIter x) Φ E s₁) E s
theorem S_forT {c : Cx} {ρ : Rho} {oc : Oc} {pos : Pos} {iter : Expr} {elts : List Expr} {x1 : Nat} {tpos : Pos} {body : List Stmt} {Qn : Rho → Oc → Prop} {Qr : D → Prop} (hs : ∀ x, foldedSetIterable iter c.env x = pure x)
    (h : SrcItT c iter ρ fun l => Turns c (.Tuple elts x1 tpos) body Qn Qr l ρ oc) : SemS c (.For (.Tuple elts x1 tpos) iter body [] pos) ρ oc Qn Qr := by
  intro fz s Φ E S k1 k2
  refine wpAny_For (h elts x1 tpos oc fz s _ E S fun g s₂ g' s' I wr items St st₁ st₂ W hst hn hg ht => ?_) hs
  exact for_end (R := fun r s' => match r with | .ok f => Φ f s' | .error e => cameBackBy c.M c.A c.env E e s') (S.on st₁) st₂ W hst hn hg ht (fun f ρ' oc' s' sub => k1 f ρ' oc' s' fun a o z => sub _ _ (st₁.sub _ _ z)) k2

-- F17
section
variable {c : Cx} {ρ : Rho} {oc : Oc} {Q : D → Prop} {pos : Pos}
theorem O_src0 {value slice : Expr} (hs : SubS slice) (h : ∀ x : Int, 0 ≤ x → x.natAbs.log2 < 2 ^ 21 → Q (.int x)) : OpD c (subscriptTail value slice) .src (.int 0) Q := by
  intro fz s v u Φ E hi hs' hb' R ra rb kk
  simp only [Rd] at ra rb
  obtain ⟨a, rfl, e⟩ := ra; obtain ⟨t', rfl⟩ := rb
  obtain ⟨o, x, y, t, u, ho, hq, h0, h1, h2, h3⟩ := hs' a e
  have hL : s.heap.IsList a #[.int x t, .int y u] := ⟨o, ho, hq.1, hq.2⟩
  exact tail_any hL.typeIs slot_list_getitem.lookup (wpAny_getItem_list hL (by decide) (by decide) (by rfl) (kk _ _ _ _ (Step.refl hi hs') (by simp only [Rd]; exact ⟨t, rfl⟩) (h x h0 h1))) (hs _ _ _)
theorem O_src1 {value slice : Expr} (hs : SubS slice) (h : ∀ y : Int, 0 ≤ y → y < 2147483647 → Q (.int y)) : OpD c (subscriptTail value slice) .src (.int 1) Q := by
  intro fz s v u Φ E hi hs' hb' R ra rb kk
  simp only [Rd] at ra rb
  obtain ⟨a, rfl, e⟩ := ra; obtain ⟨t', rfl⟩ := rb
  obtain ⟨o, x, y, t, u, ho, hq, h0, h1, h2, h3⟩ := hs' a e
  have hL : s.heap.IsList a #[.int x t, .int y u] := ⟨o, ho, hq.1, hq.2⟩
  exact tail_any hL.typeIs slot_list_getitem.lookup (wpAny_getItem_list hL (by decide) (by decide) (by rfl) (kk _ _ _ _ (Step.refl hi hs') (by simp only [Rd]; exact ⟨u, rfl⟩) (h y h2 h3))) (hs _ _ _)

theorem src_set {fz : Fz} {s : Shared} {a : Addr} {k : Nat} {tk : Nat} (S : SR c oc fz ρ s) (e : c.sr = some a) (h' : Heap) (v : Value) (hl : ∀ xs, s.heap.IsList a xs → h'.IsList a (xs.setIfInBounds k v)) (hsb : Heap.SameBut a s.heap h')
    (hv : ∀ x y t u, 0 ≤ x → x.natAbs.log2 < 2 ^ 21 → 0 ≤ y → y < 2147483647 → ∃ x' y' t' u', (#[Value.int x t, .int y u] : Array Value).setIfInBounds k v = #[.int x' t', .int y' u'] ∧ 0 ≤ x' ∧ x'.natAbs.log2 < 2 ^ 21 ∧ 0 ≤ y' ∧ y' < 2147483647) :
    SR c oc fz ρ { s with heap := h', toks := tk } := by
  refine S.on ⟨fun _ _ z => z, fun b o z => hsb.extBut b o (fun q => S.srcN a e o (q ▸ z)) (S.inn b o z), fun b o n ho => hsb.extBut b o (fun q => n (by rw [e, q])) ho, fun _ _ z => .inl z, fun b eb => ?_, rfl⟩
  rw [e] at eb; cases eb
  obtain ⟨o, x, y, t, u, ho, hq, h0, h1, h2, h3⟩ := S.step.src a e
  obtain ⟨o', ho', hc', n', hd'⟩ := hl _ ⟨o, ho, hq.1, hq.2⟩
  obtain ⟨x', y', t', u', ev, r⟩ := hv x y t u h0 h1 h2 h3
  refine ⟨o', x', y', t', u', ho', ⟨hc', n', ?_⟩, r⟩
  rw [hd', ev]

theorem S_src {o i e : Expr} {p : Pos} {k : Int} {Qn : Rho → Oc → Prop} {Qr : D → Prop} (hsw : swapsWith e (some (.Subscript o i p)) pos.line c.env = pure false) (hk : k = 0 ∨ k = 1)
    (h : SemE c e ρ fun d => ∃ z, d = .int z ∧ 0 ≤ z ∧ (k = 0 → z.natAbs.log2 < 2 ^ 21) ∧ (k = 1 → z < 2147483647) ∧ SemE c o ρ fun d => d = .src ∧ SemE c i ρ fun d => d = .int k ∧ Qn ρ oc) :
    SemS c (.Assign [.Subscript o i p] e pos) ρ oc Qn Qr := by
  intro fz s Φ E S k1 k2
  refine wpAny_Assign_Subscript (h oc fz s _ E S fun fz₁ v d s₁ st₁ r₁ q₁ => ?_) hsw
  obtain ⟨z, rfl, hz0, hz1, hz2, q₁⟩ := q₁
  have S₁ := S.on st₁
  refine q₁ oc fz₁ s₁ _ E S₁ fun fz₂ ov d2 s₂ st₂ r₂ q₂ => ?_
  obtain ⟨rfl, q₂⟩ := q₂
  have S₂ := S₁.on st₂
  refine q₂ oc fz₂ s₂ _ E S₂ fun fz₃ iv d3 s₃ st₃ r₃ q₃ => ?_
  obtain ⟨rfl, q₃⟩ := q₃
  have S₃ := S₂.on st₃
  simp only [Rd] at r₁ r₂ r₃
  obtain ⟨t, rfl⟩ := r₁
  obtain ⟨a, rfl, e⟩ := r₂
  obtain ⟨t3, rfl⟩ := r₃
  obtain ⟨ob, x, y, tx, ty, ho, hq, h0, h1, h2, h3⟩ := S₃.step.src a e
  have hL : s₃.heap.IsList a #[.int x tx, .int y ty] := ⟨ob, ho, hq.1, hq.2⟩
  refine wpAny_setItem_list hL (by omega) (by omega) (by rcases hk with rfl | rfl <;> simp) fun h' hl' hsb => ?_
  refine k1 fz₃ ρ oc _ (fun a o z => st₃.sub _ _ (st₂.sub _ _ (st₁.sub _ _ z))) (src_set (k := k.toNat) (tk := s₃.toks) S₃ e h' (.int z t) (fun xs hx => ?_) hsb fun x y t' u g0 g1 g2 g3 => ?_) q₃
  · obtain ⟨o2, ho2, _, n2, hd2⟩ := hx
    obtain ⟨o3, ho3, _, n3, hd3⟩ := hL
    rw [ho2] at ho3; cases ho3
    rw [hd2] at hd3; cases hd3
    exact hl'
  · rcases hk with rfl | rfl
    · exact ⟨z, y, t, u, rfl, hz0, hz1 rfl, g2, g3⟩
    · exact ⟨x, z, t', t, rfl, g0, g1, hz0, hz2 rfl⟩
end
theorem S_src0 {c : Cx} {ρ : Rho} {oc : Oc} {pos : Pos} {o e : Expr} {n : Nat} {q p : Pos} {Qn : Rho → Oc → Prop} {Qr : D → Prop} (hsw : swapsWith e (some (.Subscript o (.Constant (.int 0) n q) p)) pos.line c.env = pure false)
    (h : SemE c e ρ fun d => ∃ z, d = .int z ∧ 0 ≤ z ∧ z.natAbs.log2 < 2 ^ 21 ∧ SemE c o ρ fun d => d = .src ∧ Qn ρ oc) : SemS c (.Assign [.Subscript o (.Constant (.int 0) n q) p] e pos) ρ oc Qn Qr :=
  S_src (k := 0) hsw (.inl rfl) (h.mono fun d ⟨z, e, h0, h1, h2⟩ => ⟨z, e, h0, fun _ => h1, fun q => absurd q (by decide), h2.mono fun d ⟨e, h3⟩ => ⟨e, E_int ⟨rfl, h3⟩⟩⟩)
theorem S_src1 {c : Cx} {ρ : Rho} {oc : Oc} {pos : Pos} {o e : Expr} {n : Nat} {q p : Pos} {Qn : Rho → Oc → Prop} {Qr : D → Prop} (hsw : swapsWith e (some (.Subscript o (.Constant (.int 1) n q) p)) pos.line c.env = pure false)
    (h : SemE c e ρ fun d => ∃ z, d = .int z ∧ 0 ≤ z ∧ z < 2147483647 ∧ SemE c o ρ fun d => d = .src ∧ Qn ρ oc) : SemS c (.Assign [.Subscript o (.Constant (.int 1) n q) p] e pos) ρ oc Qn Qr :=
  S_src (k := 1) hsw (.inr rfl) (h.mono fun d ⟨z, e, h0, h1, h2⟩ => ⟨z, e, h0, fun q => absurd q (by decide), fun _ => h1, h2.mono fun d ⟨e, h3⟩ => ⟨e, E_int ⟨rfl, h3⟩⟩⟩)
theorem log2_le {m n k : Nat} (h : m ≤ n) (hn : n.log2 < k) (hk : 0 < k) : m.log2 < k := by
  by_cases q : m = 0
  · subst q; simpa using hk
  · have hn0 : n ≠ 0 := by omega
    rw [Nat.log2_lt q]
    exact Nat.lt_of_le_of_lt h ((Nat.log2_lt hn0).mp hn)
theorem log2_fdiv {x b : Int} (h0 : 0 ≤ x) (hb : 0 < b) (h : x.natAbs.log2 < 2 ^ 21) : (x.fdiv b).natAbs.log2 < 2 ^ 21 := by
  refine log2_le ?_ h (by decide)
  rw [Int.fdiv_eq_ediv_of_nonneg x (by omega)]
  have h1 : 0 ≤ x / b := Int.ediv_nonneg h0 (by omega)
  have h2 : x / b ≤ x := Int.ediv_le_self b h0
  omega
theorem intBits_small {a : Int} (h0 : 0 ≤ a) (h1 : a < 2 ^ 31) : Builtin.Int.intBits a ≤ 64 := by
  unfold Builtin.Int.intBits
  split
  · omega
  · rename_i q
    have hne : a.natAbs ≠ 0 := by intro e; apply q; simp; omega
    have : a.natAbs.log2 < 31 := (Nat.log2_lt hne).mpr (by omega)
    omega
theorem mulOk_small {a b : Int} (h0 : 0 ≤ a) (h1 : a < 2 ^ 31) : IntMulOk a b := IntMulOk.of_left (intBits_small h0 h1)
theorem pylong_small {a b : Int} (h0 : 0 ≤ b) (h1 : b < 2 ^ 31) : Builtin.divisionGoesByPylong a b = false := by
  unfold Builtin.divisionGoesByPylong
  have : ¬ ((if b == 0 then 0 else b.natAbs.log2 / 30 + 1) > 300) := by
    split
    · omega
    · rename_i q
      have hne : b.natAbs ≠ 0 := by intro e; apply q; simp; omega
      have : b.natAbs.log2 < 31 := (Nat.log2_lt hne).mpr (by omega)
      omega
  simp only [this, decide_false, Bool.false_and]
theorem O_div_small {c : Cx} {Q : D → Prop} {a b : Int} (h0 : 0 < b) (h1 : b < 2 ^ 31) (h : Q (.int (a.fdiv b))) : OpD c (binaryOp .FloorDiv) (.int a) (.int b) Q :=
  O_div (by omega) (pylong_small (by omega) h1) h
theorem fmod_range {a b : Int} (hb : 0 < b) : 0 ≤ a.fmod b ∧ a.fmod b < b := by
  rw [Int.fmod_eq_emod_of_nonneg a (by omega)]
  exact ⟨Int.emod_nonneg a (by omega), Int.emod_lt_of_pos a hb⟩

-- F18
section
variable {c : Cx} {ρ : Rho} {oc : Oc} {Q : D → Prop} {pos : Pos}
/-- tuple(a list) -/
theorem L_tuple_lst {l : List D} (hsz : l.length ≤ 1000000) (h : Q (.tup l)) : OpL c (fun vs => call (.type "tuple") vs) [.lst l] Q := by
  intro fz s vs Φ E hi hs hb R r k
  simp only [RdL, Rd] at r
  obtain ⟨v, us, rfl, ⟨a, o, xs, rfl, ho, ⟨hc, _, n, hd⟩, hl⟩, rfl⟩ := r
  have hz : xs.toArray.size ≤ sizeLine := by
    rw [List.size_toArray, hl.length]
    have : (1000000 : Nat) ≤ sizeLine := by decide
    omega
  refine call_tuple_list (s := s) ⟨o, hi _ _ ho, hc, n, hd⟩ (fun h' hk => ?_) hz
  have st1 : Step c.sr fz s fz { s with heap := h', toks := s.toks } := Step.keep hs hi hk
  have st2 := Step.push (sr := c.sr) (fz := fz) (s := { s with heap := h', toks := s.toks }) (o := { cls := .type "tuple", data := .seq xs.toArray }) (h' := h'.push _) (t' := s.toks) st1.src st1.inn (fun b p hb => Heap.get?_push_of_some _ hb) (Heap.get?_push_size _ rfl)
  refine k _ _ _ _ (st1.trans st2) ?_ h
  simp only [Rd]
  exact ⟨_, _, xs, rfl, .inr ⟨rfl, rfl⟩, ⟨rfl, rfl, _, rfl⟩, hl.mono st2.sub⟩
/-- list + list -/
theorem O_add_lst {a b : List D} (hsz : a.length + b.length ≤ 1000000) (h : Q (.lst (a ++ b))) : OpD c (binaryOp .Add) (.lst a) (.lst b) Q := by
  intro fz s v u Φ E hi hs hb' R ra rb k
  simp only [Rd] at ra rb
  obtain ⟨l1, o1, xs, rfl, ho1, ⟨hc1, hd1, n1, hq1⟩, hr1⟩ := ra
  obtain ⟨l2, o2, ys, rfl, ho2, ⟨hc2, hd2, n2, hq2⟩, hr2⟩ := rb
  obtain ⟨cls, dd, data, sl⟩ := o1
  obtain ⟨cls2, dd2, data2, sl2⟩ := o2
  simp only at hc1 hq1 hc2 hq2
  subst hc1 hq1 hc2 hq2
  have hz : xs.toArray.size + ys.toArray.size ≤ sizeLine := by
    rw [List.size_toArray, List.size_toArray, hr1.length, hr2.length]
    have : (1000000 : Nat) ≤ sizeLine := by decide
    omega
  refine concat_meets ⟨_, hi _ _ ho1, rfl⟩ ⟨_, hi _ _ ho2, rfl⟩ noFill_list_add seq_list_add PySem.F.slot_list_add PySem.F.entry_list_add (PySem.F.args_list_add_2 _ _) (list_addW l1 l2 xs.toArray ys.toArray n1 n2 dd dd2 sl sl2 hz) ⟨hi _ _ ho1, hi _ _ ho2, ?_⟩
  have e : xs.toArray ++ ys.toArray = (xs ++ ys).toArray := by simp
  rw [e]
  have st2 := Step.push (sr := c.sr) (fz := fz) (s := s) (o := { cls := .type "list", data := .seq (xs ++ ys).toArray }) (h' := s.heap.push _) (t' := s.toks) hs hi (fun b p hb => Heap.get?_push_of_some _ hb) (Heap.get?_push_size _ rfl)
  refine k _ _ _ _ st2 ?_ h
  simp only [Rd]
  exact ⟨_, _, xs ++ ys, rfl, .inr ⟨rfl, rfl⟩, ⟨rfl, rfl, _, rfl⟩, (hr1.append hr2).mono st2.sub⟩
end

-- F19
theorem pick_mid (xs : List Value) : slicePick xs.toArray (some 1) (some (-1)) none = ((xs.drop 1).take (xs.length - 2)).toArray := by
  by_cases h : 2 ≤ xs.length
  · have e : sliceBounds (some 1) (some (-1)) none xs.toArray.size = sliceBounds (some ((1 : Nat) : Int)) (some ((xs.length - 1 : Nat) : Int)) none xs.toArray.size := by
      simp only [sliceBounds, Option.getD_none, List.size_toArray, show (1 : Int) > 0 by decide, if_true]
      congr 1
      congr 1
      have h1 : ¬ (((xs.length - 1 : Nat) : Int) < 0) := by omega
      simp only [h1, if_false, show (-1 : Int) < 0 by decide, if_true]
      omega
    have := slicePick_run xs.toArray 1 (xs.length - 1) (by simp) (by omega)
    unfold slicePick at this ⊢
    rw [e, this]
    congr 2
  · have hb : (sliceBounds (some 1) (some (-1)) none xs.toArray.size).2.1 ≤ (sliceBounds (some 1) (some (-1)) none xs.toArray.size).1 ∧ (sliceBounds (some 1) (some (-1)) none xs.toArray.size).2.2 = 1 := by
      simp only [sliceBounds, Option.getD_none, List.size_toArray, show (1 : Int) > 0 by decide, if_true]
      refine ⟨?_, trivial⟩
      simp only [show ¬ (1 : Int) < 0 by decide, if_false, show (-1 : Int) < 0 by decide, if_true]
      omega
    unfold slicePick
    have e2 : xs.length - 2 = 0 := by omega
    rw [e2, List.take_zero, hb.2]
    unfold sliceRange
    have : ¬ ((sliceBounds (some 1) (some (-1)) none xs.toArray.size).1 < (sliceBounds (some 1) (some (-1)) none xs.toArray.size).2.1) := by omega
    rw [List.size_toArray] at this
    simp
    intro a ha
    rw [if_neg this] at ha
    omega
theorem pick_init (xs : List Value) : slicePick xs.toArray none (some (-1)) none = (xs.take (xs.length - 1)).toArray := by
  have e : sliceBounds none (some (-1)) none xs.toArray.size = sliceBounds none (some ((xs.length - 1 : Nat) : Int)) none xs.toArray.size := by
    simp only [sliceBounds, Option.getD_none, List.size_toArray, show (1 : Int) > 0 by decide, if_true]
    congr 1
    congr 1
    have h1 : ¬ (((xs.length - 1 : Nat) : Int) < 0) := by omega
    simp only [h1, if_false, show (-1 : Int) < 0 by decide, if_true]
    omega
  have := slicePick_upto xs.toArray (xs.length - 1) (by simp)
  unfold slicePick at this ⊢
  rw [e, this]

section
variable {c : Cx} {ρ : Rho} {oc : Oc} {Q : D → Prop} {pos p : Pos}
/-- a list's slice, its ends whole numbers or none -/
theorem slice_lst {fz : Fz} {s : Shared} {value slice : Expr} {vl vu : Value} {lo hi : Option Int} {a : Addr} {o : Obj} {xs ys : List Value} {r : List D} {Φ : Value → Shared → Prop} {E : Value → Shared → Prop} (hinn : ∀ a o, fz a o → s.heap.get? a = some o) (hsr : SrcIn c.sr s.heap)
    (hs : ∀ t k, subscripted slice false (.ref t) (.ref k) = operate [.ref k, .ref t] (getItem (.ref t) (.ref k))) (ho : fz a o) (hq : SeqO "list" o xs) (pl : IsPart vl lo) (pu : IsPart vu hi) (hp : slicePick xs.toArray lo hi none = ys.toArray) (hsz : xs.length ≤ 1000000)
    (hr : RdL fz c.sr r ys) (h : Q (.lst r)) (k : ∀ fz' v d s', Step c.sr fz s fz' s' → Rd fz' c.sr d v → Q d → Φ v s') :
    wpAny c.M c.A (subscriptTail value slice (.ref a) (.ref s.heap.objs.size)) Φ E { s with heap := s.heap.push { cls := .type "slice", data := .fields #[vl, vu, .none] } } := by
  have hL : (s.heap.push { cls := .type "slice", data := .fields #[vl, vu, .none] }).IsList a xs.toArray := ⟨o, Heap.get?_push_of_some _ (hinn _ _ ho), hq.1, hq.2.2⟩
  have hz : xs.toArray.size ≤ sizeLine := by
    rw [List.size_toArray]
    have : (1000000 : Nat) ≤ sizeLine := by decide
    omega
  have st1 : Step c.sr fz s fz { s with heap := s.heap.push { cls := .type "slice", data := .fields #[vl, vu, .none] } } := Step.keep (t' := s.toks) hsr hinn fun b p hb => Heap.get?_push_of_some _ hb
  refine tail_any (s := { s with heap := s.heap.push { cls := .type "slice", data := .fields #[vl, vu, .none] } }) hL.typeIs slot_list_getitem.lookup (wpAny_getItem_list_slice hL (Heap.IsSliceOf.new ..) pl pu .none (by simp) ?_ hz) (hs _ _)
  rw [hp]
  have st2 := Step.push (sr := c.sr) (fz := fz) (s := { s with heap := s.heap.push { cls := .type "slice", data := .fields #[vl, vu, .none] } }) (o := { cls := .type "list", data := .seq ys.toArray }) (h' := (s.heap.push { cls := .type "slice", data := .fields #[vl, vu, .none] }).push _) (t' := s.toks) st1.src st1.inn (fun b p hb => Heap.get?_push_of_some _ hb) (Heap.get?_push_size _ rfl)
  refine k _ _ _ _ (st1.trans st2) ?_ h
  simp only [Rd]
  exact ⟨_, _, ys, rfl, .inr ⟨rfl, rfl⟩, ⟨rfl, rfl, _, rfl⟩, hr.mono st2.sub⟩
theorem E_init {value e : Expr} (hs : ∀ t k, subscripted (.Slice none (some e) none p) false (.ref t) (.ref k) = operate [.ref k, .ref t] (getItem (.ref t) (.ref k)))
    (h : SemE c value ρ fun d => ∃ l, d = .lst l ∧ l.length ≤ 1000000 ∧ SemE c e ρ fun d => d = .int (-1) ∧ Q (.lst (l.take (l.length - 1)))) : SemE c (.Subscript value (.Slice none (some e) none p) pos) ρ Q := by
  intro oc fz s Φ E S k
  refine Subscript_ (h oc fz s _ E S fun fz₁ v d s₁ st₁ r₁ q₁ => ?_)
  obtain ⟨l, rfl, hl, q₁⟩ := q₁
  refine wpAny_Slice (wpAny_pure (q₁ oc fz₁ s₁ _ E (S.on st₁) fun fz₂ u d s₂ st₂ r₂ q₂ => wpAny_pure ?_))
  obtain ⟨rfl, q₂⟩ := q₂
  have S₂ := (S.on st₁).on st₂
  simp only [Rd] at r₁ r₂
  obtain ⟨a, o, xs, rfl, ho, hq, hr⟩ := r₁
  obtain ⟨t, rfl⟩ := r₂
  have hr2 := (hr.mono st₂.sub).take (xs.length - 1)
  rw [hr.length] at hr2
  exact slice_lst S₂.inn S₂.step.src hs (st₂.sub _ _ ho) hq .none (.int _ _) (pick_init xs) (by rw [hr.length]; exact hl) (by rw [hr.length]; exact hr2) q₂ fun f v d s' st => k f v d s' ((st₁.trans st₂).trans st)
theorem E_mid {value e1 e : Expr} (hs : ∀ t k, subscripted (.Slice (some e1) (some e) none p) false (.ref t) (.ref k) = operate [.ref k, .ref t] (getItem (.ref t) (.ref k)))
    (h : SemE c value ρ fun d => ∃ l, d = .lst l ∧ l.length ≤ 1000000 ∧ SemE c e1 ρ fun d => d = .int 1 ∧ SemE c e ρ fun d => d = .int (-1) ∧ Q (.lst ((l.drop 1).take (l.length - 2)))) : SemE c (.Subscript value (.Slice (some e1) (some e) none p) pos) ρ Q := by
  intro oc fz s Φ E S k
  refine Subscript_ (h oc fz s _ E S fun fz₁ v d s₁ st₁ r₁ q₁ => ?_)
  obtain ⟨l, rfl, hl, q₁⟩ := q₁
  refine wpAny_Slice (q₁ oc fz₁ s₁ _ E (S.on st₁) fun fz₂ u d s₂ st₂ r₂ q₂ => ?_)
  obtain ⟨rfl, q₂⟩ := q₂
  refine q₂ oc fz₂ s₂ _ E ((S.on st₁).on st₂) fun fz₃ u3 d3 s₃ st₃ r₃ q₃ => wpAny_pure ?_
  obtain ⟨rfl, q₃⟩ := q₃
  have S₃ := ((S.on st₁).on st₂).on st₃
  simp only [Rd] at r₁ r₂ r₃
  obtain ⟨a, o, xs, rfl, ho, hq, hr⟩ := r₁
  obtain ⟨t, rfl⟩ := r₂
  obtain ⟨t3, rfl⟩ := r₃
  have hr2 := ((hr.mono (st₂.trans st₃).sub).drop 1).take (xs.length - 2)
  exact slice_lst S₃.inn S₃.step.src hs (st₃.sub _ _ (st₂.sub _ _ ho)) hq (.int _ _) (.int _ _) (pick_mid xs) (by rw [hr.length]; exact hl) (by rw [hr.length] at hr2 ⊢; exact hr2) q₃ fun f v d s' st => k f v d s' (((st₁.trans st₂).trans st₃).trans st)
end

-- F20
section
variable {prog : Program} {w : World} {A : Around} {E : Value → Shared → Prop} {s : Shared}
/-- what a slice with two written bounds asks of a row of n things -/
theorem slice_two {sl : Addr} {a b n : Int} {t u : Tok} {Q : Int × Int × Nat → Shared → Prop} (hs : s.heap.IsSliceOf sl (.int a t) (.int b u) .none)
    (h : ∀ p, Builtin.Slice.sliceAdjust (some a) (some b) 1 n = p → Q (p.1, 1, Builtin.Slice.slicePlaces p.1 p.2 1) s) : wpAny (model prog w) A (Builtin.Slice.sliceApplied (.ref sl) (pure n)) Q E s := by
  obtain ⟨o, g, -, d⟩ := hs
  have parts : wpAny (model prog w) A (Builtin.Slice.sliceFields (.ref sl)) (fun p s' => p = (.int a t, .int b u, .none) ∧ s' = s) E s :=
    wpAny_bind (wpAny_field g d rfl (wpAny_bind (wpAny_field g d rfl (wpAny_bind (wpAny_field g d rfl (wpAny_pure ⟨rfl, rfl⟩))))))
  unfold Builtin.Slice.sliceApplied
  refine wpAny_bind (wpAny_mono parts (fun p s' e => ?_) fun _ _ e => e)
  obtain ⟨rfl, rfl⟩ := e
  exact wpAny_bind (slicePart_none (wpAny_bind (slicePart_int (wpAny_bind (slicePart_int (wpAny_bind (wpAny_pure (wpAny_pure (h _ rfl)))))))))
theorem bounds_inner (n : Nat) (hn : 1 ≤ n) : Builtin.Slice.sliceAdjust (some 1) (some (-1)) 1 (n : Int) = (1, (n : Int) - 1) ∧ Builtin.Slice.slicePlaces 1 ((n : Int) - 1) 1 = n - 2 := by
  constructor
  · simp [Builtin.Slice.sliceAdjust]; omega
  · simp [Builtin.Slice.slicePlaces]; split <;> omega
theorem pick_tup (xs : List Value) (n : Nat) : ((List.range n).filterMap fun (k : Nat) => xs.toArray[((1 : Int) + (k : Int) * 1).toNat]?).toArray = ((xs.drop 1).take n).toArray := by
  have e : (fun (k : Nat) => xs.toArray[((1 : Int) + (k : Int) * 1).toNat]?) = (fun x => xs.toArray[x]?) ∘ fun k => 1 + k := by
    funext k
    have : ((1 : Int) + (k : Int) * 1).toNat = 1 + k := by omega
    rw [this]; rfl
  rw [e, ← List.filterMap_map]
  have := pick_run xs.toArray 1 n
  rw [this]
/-- t[1:-1] of a tuple that has a first and a last -/
theorem tuple_inner {t sl : Addr} {xs : List Value} {u v : Tok} {Q : Value → Shared → Prop} (ht : IsTup s.heap t xs.toArray) (hs : s.heap.IsSliceOf sl (.int 1 u) (.int (-1) v) .none) (hn : 1 ≤ xs.length)
    (h : Q (.ref s.heap.objs.size) { s with heap := s.heap.push { cls := .type "tuple", data := .seq ((xs.drop 1).take (xs.length - 2)).toArray } }) (hsz : xs.length ≤ 1000000) : wpAny (model prog w) A (getItem (.ref t) (.ref sl)) Q E s := by
  have fits : sizeOk (.seq ((xs.drop 1).take (xs.length - 2)).toArray) := by
    have line : (1000000 : Nat) ≤ sizeLine := by decide
    refine Nat.le_trans ?_ line
    simp only [List.size_toArray, List.length_take, List.length_drop]
    omega
  have ty : s.TypeIs (.ref sl) "slice" := hs.elim fun o x => ⟨o, x.1, x.2.1⟩
  refine wpAny_holding (wpAny_bind (wpAny_sequenceKey ht.typeIs (by decide) (wpAny_bind (wpAny_callSpecial?_slot (name := "__getitem__") ht.typeIs slot_tuple_getitem (wpAny_call_entry slot_tuple_getitem ht.typeIs entry_tuple_getitem ?_ (args_tuple_getitem _ _))))))
  refine wpAny_bind (wpAny_of_eq (a := (Value.ref t, [Value.ref sl])) rfl (wpAny_bind (tupleItemsOf_ ht (wpAny_bind (wpAny_typeOf ty (wpAny_bind (slice_two hs fun p e => ?_)))))))
  obtain ⟨b1, b2⟩ := bounds_inner xs.length hn
  rw [← e, List.size_toArray, b1]
  simp only [b2]
  rw [if_neg (fun q => absurd q (by simp)), pick_tup]
  exact wpAny_bind (wpAny_newObj_type (wpAny_pure ⟨_, rfl, wpAny_pure h⟩) fits)
end
section
variable {c : Cx} {ρ : Rho} {oc : Oc} {Q : D → Prop} {pos p : Pos}
theorem E_midT {value e1 e : Expr} (hs : ∀ t k, subscripted (.Slice (some e1) (some e) none p) false (.ref t) (.ref k) = operate [.ref k, .ref t] (getItem (.ref t) (.ref k)))
    (h : SemE c value ρ fun d => ∃ l, d = .tup l ∧ 1 ≤ l.length ∧ l.length ≤ 1000000 ∧ SemE c e1 ρ fun d => d = .int 1 ∧ SemE c e ρ fun d => d = .int (-1) ∧ Q (.tup ((l.drop 1).take (l.length - 2)))) : SemE c (.Subscript value (.Slice (some e1) (some e) none p) pos) ρ Q := by
  intro oc fz s Φ E S k
  refine Subscript_ (h oc fz s _ E S fun fz₁ v d s₁ st₁ r₁ q₁ => ?_)
  obtain ⟨l, rfl, hn, hl, q₁⟩ := q₁
  refine wpAny_Slice (q₁ oc fz₁ s₁ _ E (S.on st₁) fun fz₂ u d s₂ st₂ r₂ q₂ => ?_)
  obtain ⟨rfl, q₂⟩ := q₂
  refine q₂ oc fz₂ s₂ _ E ((S.on st₁).on st₂) fun fz₃ u3 d3 s₃ st₃ r₃ q₃ => wpAny_pure ?_
  obtain ⟨rfl, q₃⟩ := q₃
  have S₃ := ((S.on st₁).on st₂).on st₃
  simp only [Rd] at r₁ r₂ r₃
  obtain ⟨a, o, xs, rfl, ho, hq, hr⟩ := r₁
  obtain ⟨t, rfl⟩ := r₂
  obtain ⟨t3, rfl⟩ := r₃
  have hr2 := ((hr.mono (st₂.trans st₃).sub).drop 1).take (xs.length - 2)
  have hT : IsTup (s₃.heap.push { cls := .type "slice", data := .fields #[.int 1 t, .int (-1) t3, .none] }) a xs.toArray := ⟨o, Heap.get?_push_of_some _ (S₃.inn _ _ (st₃.sub _ _ (st₂.sub _ _ ho))), hq.1, hq.2.2⟩
  have st4 : Step c.sr fz₃ s₃ fz₃ { s₃ with heap := s₃.heap.push { cls := .type "slice", data := .fields #[.int 1 t, .int (-1) t3, .none] } } := Step.keep (t' := s₃.toks) S₃.step.src S₃.inn fun b p hb => Heap.get?_push_of_some _ hb
  refine tail_any (s := { s₃ with heap := s₃.heap.push { cls := .type "slice", data := .fields #[.int 1 t, .int (-1) t3, .none] } }) hT.typeIs slot_tuple_getitem.lookup (tuple_inner hT (Heap.IsSliceOf.new ..) (by rw [hr.length]; exact hn) ?_ (by rw [hr.length]; exact hl)) (hs _ _)
  have st5 := Step.push (sr := c.sr) (fz := fz₃) (s := { s₃ with heap := s₃.heap.push { cls := .type "slice", data := .fields #[.int 1 t, .int (-1) t3, .none] } }) (o := { cls := .type "tuple", data := .seq ((xs.drop 1).take (xs.length - 2)).toArray }) (h' := (s₃.heap.push { cls := .type "slice", data := .fields #[.int 1 t, .int (-1) t3, .none] }).push _) (t' := s₃.toks) st4.src st4.inn (fun b p hb => Heap.get?_push_of_some _ hb) (Heap.get?_push_size _ rfl)
  refine k _ _ _ _ ((((st₁.trans st₂).trans st₃).trans st4).trans st5) ?_ q₃
  simp only [Rd]
  refine ⟨_, _, _, rfl, .inr ⟨rfl, rfl⟩, ⟨rfl, rfl, _, rfl⟩, ?_⟩
  have hr3 := hr2.mono st5.sub
  have el := hr.length
  rw [show l.length = xs.length from el.symm]
  exact hr3
end

-- F21
/-- a datum is less than another, or not; m: how deep they nest -/
noncomputable def LtD (m : Nat) (a b : D) (r : Bool) : Prop := ∀ (prog : Program) (w : World) (A : Around) (fz : Fz) (sr : Option Addr) (s : Shared) (v u : Value) (Φ : Value → Shared → Prop) (E : Value → Shared → Prop),
  A.units + 100 + 10 * m < cLine → (∀ a o, fz a o → s.heap.get? a = some o) → Rd fz sr a v → Rd fz sr b u → Φ (.bool r) s → wpAny (model prog w) A (richCompare .Lt v u) Φ E s
theorem LtD.int (m : Nat) (a b : Int) : LtD m (.int a) (.int b) (decide (a < b)) := by
  intro prog w A fz sr s v u Φ E _ _ ra rb h
  simp only [Rd] at ra rb
  obtain ⟨t, rfl⟩ := ra; obtain ⟨t', rfl⟩ := rb
  exact PyProof.Rows.lt_int h
theorem LtD.str (m : Nat) (a b : Str) : LtD m (.str a) (.str b) (decide (a.cps.toList < b.cps.toList)) := by
  intro prog w A fz sr s v u Φ E _ _ ra rb h
  simp only [Rd] at ra rb
  obtain ⟨t, rfl⟩ := ra; obtain ⟨t', rfl⟩ := rb
  exact PyProof.Rows.lt_str h
theorem eq_bool {prog : Program} {w : World} {A : Around} {fz : Fz} {sr : Option Addr} {s : Shared} {v u : Value} {Φ : Bool → Shared → Prop} {E : Value → Shared → Prop} {a b : D} (hu : A.units + 100 < cLine) (hi : ∀ a o, fz a o → s.heap.get? a = some o) (ha : a.fine = true) (hb : b.fine = true) (ra : Rd fz sr a v) (rb : Rd fz sr b u) (h : Φ (a.eq b) s) :
    wpAny (model prog w) A (eqBool v u) Φ E s := by
  simp only [D.fine, Bool.and_eq_true, decide_eq_true_eq] at ha hb
  obtain ⟨as, r1⟩ := ra.reads hi ha.1
  obtain ⟨bs, r2⟩ := rb.reads hi hb.1
  have l1 := D.lay a ha.1
  have l2 := D.lay b hb.1
  exact PySem.SeqAt.eqBoolOverData prog w A E s v u a.py b.py as bs Φ r1 r2 l1.1 l2.1 (by have := Nat.min_le_left a.py.depth b.py.depth; omega) h
/-- the first pair that differs, and how it compares -/
noncomputable def LexR (m : Nat) : List D → List D → Option Bool → Prop
  | d :: ds, e :: es, o => if d.eq e = true then LexR m ds es o else ∃ r, o = some r ∧ LtD m d e r
  | _, _, o => o = none
noncomputable abbrev ltBody (x : Value × Value) (_ : Option PySem.Fin × Unit) : Sem (ForInStep (Option PySem.Fin × Unit)) := match x with
  | (x, y) => do
    let b ← eqBool x y
    if (!b) = true then
      rule "tuple.compare.by-the-first-pair-that-differs"
      let c ← richCompare CmpOp.Lt x y
      let d ← ret c
      pure (ForInStep.done (some d, ()))
    else pure (ForInStep.yield (none, ()))
theorem lt_loop {m : Nat} {prog : Program} {w : World} {A : Around} {fz : Fz} {sr : Option Addr} {s : Shared} {E : Value → Shared → Prop} (hu : A.units + 100 + 10 * m < cLine) (hi : ∀ a o, fz a o → s.heap.get? a = some o) : ∀ {ds es : List D} {vs us : List Value} {o : Option Bool} {Φ : Option PySem.Fin × Unit → Shared → Prop},
    (∀ d ∈ ds, d.fine = true) → (∀ d ∈ es, d.fine = true) → RdL fz sr ds vs → RdL fz sr es us → LexR m ds es o → Φ (o.map fun r => .done (.ret (.bool r)), ()) s → wpAny (model prog w) A (forIn (vs.zip us) (none, ()) ltBody) Φ E s
  | [], es, vs, us, o, Φ, _, _, r1, _, hl, h => by
    simp only [RdL] at r1; subst r1
    have : o = none := by cases es <;> exact hl
    subst this
    exact wpAny_pure h
  | d :: ds, [], vs, us, o, Φ, _, _, _, r2, hl, h => by
    simp only [RdL] at r2; subst r2
    have : o = none := hl
    subst this
    rw [List.zip_nil_right]
    exact wpAny_pure h
  | d :: ds, e :: es, vs, us, o, Φ, f1, f2, r1, r2, hl, h => by
    simp only [RdL] at r1 r2
    obtain ⟨v, vs', rfl, rv, r1⟩ := r1
    obtain ⟨u, us', rfl, ru, r2⟩ := r2
    rw [List.zip_cons_cons, List.forIn_cons]
    refine wpAny_bind (wpAny_bind (eq_bool (by omega) hi (f1 d (.head _)) (f2 e (.head _)) rv ru ?_))
    rw [LexR] at hl
    by_cases q : d.eq e = true
    · rw [if_pos q] at hl
      rw [q, if_neg (by simp)]
      refine wpAny_pure ?_
      exact lt_loop hu hi (fun x hx => f1 x (.tail _ hx)) (fun x hx => f2 x (.tail _ hx)) r1 r2 hl h
    · rw [if_neg q] at hl
      obtain ⟨r, rfl, hlt⟩ := hl
      have q' : d.eq e = false := by simpa using q
      rw [q', if_pos (by rfl)]
      refine wpAny_bind (wpAny_rule (wpAny_bind (hlt prog w A fz sr s v u _ E hu hi rv ru ?_)))
      exact wpAny_bind (wpAny_pure (wpAny_pure (wpAny_pure h)))
theorem LtD.tup {m : Nat} {ds es : List D} {o : Option Bool} (f1 : ∀ d ∈ ds, d.fine = true) (f2 : ∀ d ∈ es, d.fine = true) (hl : LexR m ds es o) : LtD (m + 1) (.tup ds) (.tup es) (o.getD (decide (ds.length < es.length))) := by
  intro prog w A fz sr s v u Φ E hu hi ra rb h
  simp only [Rd] at ra rb
  obtain ⟨a, oa, xs, rfl, hoa, ⟨hca, _, na, hda⟩, hra⟩ := ra
  obtain ⟨b, ob, ys, rfl, hob, ⟨hcb, _, nb, hdb⟩, hrb⟩ := rb
  have ha : IsTup s.heap a xs.toArray := ⟨oa, hi _ _ hoa, hca, na, hda⟩
  have hb : IsTup s.heap b ys.toArray := ⟨ob, hi _ _ hob, hcb, nb, hdb⟩
  refine wpAny_richCompare_same_room (T := "tuple") (op := .Lt) ha.typeIs hb.typeIs PySem.F.slot_tuple_lt (wpAny_call_entry PySem.F.slot_tuple_lt ha.typeIs PySem.F.entry_tuple_lt ?_ (PySem.F.args_tuple_lt_2 _ _)) (by omega)
  show wpAny _ _ (PySem.isInstance (.ref b) (.type "tuple") >>= _) _ _ s
  refine wpAny_bind (wpAny_isInstance (T := "tuple") (b := true) hb.typeIs PySem.F.sub_tuple_tuple ?_)
  show wpAny _ _ (Builtin.Tuple.tupleItemsOf (.ref a) >>= _) _ _ s
  refine wpAny_bind (tupleItemsOf_ ha ?_)
  refine wpAny_bind (tupleItemsOf_ hb ?_)
  refine wpAny_bind (m := forIn (xs.zip ys) (none, ()) ltBody) (lt_loop (m := m) (by show A.units + 1 + 100 + 10 * m < cLine; omega) hi f1 f2 hra hrb hl ?_)
  cases o with
  | some r => exact wpAny_pure ⟨_, rfl, (by simp), h⟩
  | none =>
    refine wpAny_pure ⟨_, rfl, (by simp [Builtin.Tuple.tupleCompareSizes]), ?_⟩
    have e : Builtin.Tuple.tupleCompareSizes .Lt xs.toArray.size ys.toArray.size = .bool (decide (ds.length < es.length)) := by
      rw [List.size_toArray, List.size_toArray, hra.length, hrb.length]; rfl
    rw [e]; exact h

-- F22
theorem lst_loop {m : Nat} (l b : Addr) (vs us : List Value) (ds es : List D) (fz : Fz) (sr : Option Addr) (n n2 : Nat) (dd dd2 : Option Addr) (sl sl2 : Array (Option Value)) (f1 : ∀ d ∈ ds, d.fine = true) (f2 : ∀ d ∈ es, d.fine = true) (r1 : RdL fz sr ds vs) (r2 : RdL fz sr es us) (o : Option Bool) (k : Nat) :
    ∀ i : Nat, ds.length - i = k → LexR m (ds.drop i) (es.drop i) o → Meets (Builtin.«list.__eq__.loop» ⟨[.ref l, .ref b, rawInt i, rawInt 0], []⟩)
      (fun A R s => s.heap.get? l = some { cls := .type "list", dict := dd, data := .seq vs.toArray n, slots := sl } ∧ s.heap.get? b = some { cls := .type "list", dict := dd2, data := .seq us.toArray n2, slots := sl2 } ∧
        A.units + 110 + 10 * m < cLine ∧ (∀ a o, fz a o → s.heap.get? a = some o) ∧ R (.ok (.ret (.bool (o.getD (decide (ds.length < es.length)))))) s) := by
  have e1 := r1.length
  have e2 := r2.length
  have fin : ∀ (A : Around) (R : Result → Shared → Prop) (s : Shared), R (.ok (.ret (.bool (decide (ds.length < es.length))))) s → R (.ok (.ret (.bool (decide (vs.toArray.size < us.toArray.size))))) s := fun A R s h => by
    rw [List.size_toArray, List.size_toArray, e1, e2]; exact h
  induction k with
  | zero =>
    intro i hk hx prog w A R s h
    obtain ⟨hp, g, d, tk, os⟩ := s; obtain ⟨hl, hb, hu, hi, h⟩ := h
    wp_walk using wpAny_loadPart' hl, wpAny_loadPart' hb
    have hi1 : vs.toArray[((i : Nat) : Int).toNat]? = none := by simp; omega
    have hd : ds.drop i = [] := by simp; omega
    rw [hd] at hx
    have ho : o = none := by cases h : es.drop i <;> (rw [h] at hx; exact hx)
    subst ho
    rw [hi1]
    wp_walk using wpAny_loadPart' hl, wpAny_loadPart' hb
    exact fin A R _ h
  | succ k ih =>
    intro i hk hx prog w A R s h
    obtain ⟨hp, g, d, tk, os⟩ := s; obtain ⟨hl, hb, hu, hi, h⟩ := h
    wp_walk using wpAny_loadPart' hl, wpAny_loadPart' hb
    have hlt : i < ds.length := by omega
    have hdd : ds.drop i = ds[i] :: ds.drop (i + 1) := List.drop_eq_getElem_cons hlt
    obtain ⟨v, hv, rv⟩ := r1.get (i := i) (List.getElem?_eq_getElem hlt)
    have hi1 : vs.toArray[((i : Nat) : Int).toNat]? = some v := by simpa using hv
    have hc : ((i : Int) + 1) = ((i + 1 : Nat) : Int) := by push_cast; rfl
    rw [hdd] at hx
    by_cases hlt2 : i < es.length
    · have hee : es.drop i = es[i] :: es.drop (i + 1) := List.drop_eq_getElem_cons hlt2
      obtain ⟨u, hu2, ru⟩ := r2.get (i := i) (List.getElem?_eq_getElem hlt2)
      have hi2 : us.toArray[((i : Nat) : Int).toNat]? = some u := by simpa using hu2
      rw [hee, LexR] at hx
      rw [hi1, hi2]
      refine wpAny_bind (eq_bool (by show A.units + 1 + 100 < cLine; omega) hi (f1 _ (List.getElem_mem hlt)) (f2 _ (List.getElem_mem hlt2)) rv ru ?_)
      by_cases q : ds[i].eq es[i] = true
      · rw [if_pos q] at hx
        rw [q]
        wp_walk
        rw [hc]
        exact ⟨plainId_quiet PySem.MeetsSeq3.plain_eq_loop _, codeAny_builtin PySem.MeetsSeq3.entry_eq_loop (by
          rw [Around.under_plainId PySem.MeetsSeq3.plain_eq_loop _]
          exact ih (i + 1) (by omega) hx prog w A R _ ⟨hl, hb, hu, hi, h⟩)⟩
      · rw [if_neg q] at hx
        obtain ⟨r, rfl, hlt3⟩ := hx
        have q' : ds[i].eq es[i] = false := by simpa using q
        rw [q']
        wp_walk using wpAny_loadPart' hl, wpAny_loadPart' hb
        rw [hi1, hi2]
        refine wpAny_bind (hlt3 prog w _ fz sr _ v u _ _ (by show A.units + 1 + 100 + 10 * m < cLine; omega) hi rv ru ?_)
        wp_walk
        exact h
    · have hee : es.drop i = [] := by simp; omega
      have hi2 : us.toArray[((i : Nat) : Int).toNat]? = none := by simp; omega
      rw [hee] at hx
      have ho : o = none := hx
      subst ho
      rw [hi1, hi2]
      wp_walk using wpAny_loadPart' hl, wpAny_loadPart' hb
      exact fin A R _ h

-- F23
open PySem.MeetsSeq3 in
theorem list_ltM {m : Nat} (l b : Addr) (vs us : List Value) (ds es : List D) (fz : Fz) (sr : Option Addr) (n n2 : Nat) (dd dd2 : Option Addr) (sl sl2 : Array (Option Value)) (f1 : ∀ d ∈ ds, d.fine = true) (f2 : ∀ d ∈ es, d.fine = true) (r1 : RdL fz sr ds vs) (r2 : RdL fz sr es us) (o : Option Bool) (hx : LexR m ds es o) :
    Meets (Builtin.«list.__lt__» ⟨[.ref l, .ref b], []⟩)
      (fun A R s => s.heap.get? l = some { cls := .type "list", dict := dd, data := .seq vs.toArray n, slots := sl } ∧ s.heap.get? b = some { cls := .type "list", dict := dd2, data := .seq us.toArray n2, slots := sl2 } ∧
        A.units + 110 + 10 * m < cLine ∧ (∀ a o, fz a o → s.heap.get? a = some o) ∧ R (.ok (.ret (.bool (o.getD (decide (ds.length < es.length)))))) s) := by
  intro prog w A R s h
  obtain ⟨hp, g, d, tk, os⟩ := s; obtain ⟨hl, hb, hu, hi, h⟩ := h
  have f3 := AutoSeq1.sub_list_list
  wp_walk using wpAny_loadPart' hl, wpAny_loadPart' hb
  exact ⟨plainId_quiet plain_eq_loop _, codeAny_builtin entry_eq_loop (by
    rw [Around.under_plainId plain_eq_loop _]
    exact lst_loop l b vs us ds es fz sr n n2 dd dd2 sl sl2 f1 f2 r1 r2 o _ 0 rfl (by simpa using hx) prog w A R _ ⟨hl, hb, hu, hi, h⟩)⟩
theorem LtD.lst {m : Nat} {ds es : List D} {o : Option Bool} (f1 : ∀ d ∈ ds, d.fine = true) (f2 : ∀ d ∈ es, d.fine = true) (hl : LexR m ds es o) : LtD (m + 1) (.lst ds) (.lst es) (o.getD (decide (ds.length < es.length))) := by
  intro prog w A fz sr s v u Φ E hu hi ra rb h
  simp only [Rd] at ra rb
  obtain ⟨a, oa, xs, rfl, hoa, ⟨hca, _, na, hda⟩, hra⟩ := ra
  obtain ⟨b, ob, ys, rfl, hob, ⟨hcb, _, nb, hdb⟩, hrb⟩ := rb
  obtain ⟨cls, dd, data, sl⟩ := oa
  obtain ⟨cls2, dd2, data2, sl2⟩ := ob
  simp only at hca hda hcb hdb
  subst hca hda hcb hdb
  exact richCompare_meets_room (op := .Lt) ⟨_, hi _ _ hoa, rfl⟩ ⟨_, hi _ _ hob, rfl⟩ F.slot_list_lt F.entry_list_lt (F.args_list_lt_2 _ _) (list_ltM (m := m) a b xs ys ds es fz sr na nb dd dd2 sl sl2 f1 f2 hra hrb o hl)
    ⟨hi _ _ hoa, hi _ _ hob, by omega, hi, ⟨by simp, h⟩⟩ (by omega)

noncomputable def ltL (f : D → D → Option Bool) : List D → List D → Option Bool
  | d :: ds, e :: es => if d.eq e = true then (ltL f ds es) else f d e
  | [], [] => some false
  | [], _ :: _ => some true
  | _ :: _, [] => some false
/-- `<` on data, where it is told -/
noncomputable def ltB : Nat → D → D → Option Bool
  | n, a, b => match a, b with
    | .int a, .int b => some (decide (a < b))
    | .str a, .str b => some (decide (a.cps.toList < b.cps.toList))
    | .tup a, .tup b => match n with
      | 0 => none
      | n + 1 => ltL (ltB n) a b
    | .lst a, .lst b => match n with
      | 0 => none
      | n + 1 => ltL (ltB n) a b
    | _, _ => none
theorem D.fine_mem {l : List D} (h : FineL l) : ∀ d ∈ l, d.fine = true := fun d hd => by
  obtain ⟨h1, h2⟩ := h d hd
  unfold D.fine; rw [h1, decide_eq_true (by omega)]; rfl
theorem D.fineL_tup : ∀ {l : List D}, D.oks l = true → D.deps l ≤ 59 → FineL l
  | [], _, _ => fun d hd => by simp at hd
  | x :: l, h1, h2 => fun d hd => by
    simp only [D.oks, Bool.and_eq_true] at h1
    simp only [D.deps] at h2
    rcases List.mem_cons.mp hd with rfl | hd
    · exact ⟨h1.1, by omega⟩
    · exact D.fineL_tup h1.2 (by omega) d hd
theorem D.fine_tup_inv {l : List D} (h : (D.tup l).fine = true) : FineL l := by
  simp only [D.fine, Bool.and_eq_true, D.ok, D.dep] at h
  have h2 := of_decide_eq_true h.2
  exact D.fineL_tup h.1 (by omega)
theorem D.fine_lst_inv {l : List D} (h : (D.lst l).fine = true) : FineL l := by
  simp only [D.fine, Bool.and_eq_true, D.ok, D.dep] at h
  have h2 := of_decide_eq_true h.2
  exact D.fineL_tup h.1 (by omega)
theorem D.fine_list {l : List D} (h : FineL l) : ∀ d ∈ l, d.fine = true := D.fine_mem h
theorem ltL_sound {n : Nat} {f : D → D → Option Bool} (hf : ∀ a b r, a.fine = true → b.fine = true → f a b = some r → LtD n a b r) : ∀ (a b : List D) (r : Bool), (∀ d ∈ a, d.fine = true) → (∀ d ∈ b, d.fine = true) → ltL f a b = some r → ∃ o : Option Bool, LexR n a b o ∧ o.getD (decide (a.length < b.length)) = r
  | d :: ds, e :: es, r, ha, hb, h => by
    rw [ltL] at h
    by_cases q : d.eq e = true
    · rw [if_pos q] at h
      obtain ⟨o, h1, h2⟩ := ltL_sound hf ds es r (fun x hx => ha x (.tail _ hx)) (fun x hx => hb x (.tail _ hx)) h
      refine ⟨o, ?_, ?_⟩
      · rw [LexR, if_pos q]; exact h1
      · rw [← h2]
        have : decide ((d :: ds).length < (e :: es).length) = decide (ds.length < es.length) := decide_eq_decide.mpr (by simp)
        rw [this]
    · rw [if_neg q] at h
      refine ⟨some r, ?_, rfl⟩
      rw [LexR, if_neg q]
      exact ⟨r, rfl, hf d e r (ha d (.head _)) (hb e (.head _)) h⟩
  | [], [], r, _, _, h => by
    rw [ltL] at h; cases h; exact ⟨none, rfl, rfl⟩
  | [], _ :: _, r, _, _, h => by
    rw [ltL] at h; cases h; exact ⟨none, rfl, by simp⟩
  | _ :: _, [], r, _, _, h => by
    rw [ltL] at h; cases h; exact ⟨none, rfl, by simp⟩
theorem ltB_sound : ∀ (n : Nat) (a b : D) (r : Bool), a.fine = true → b.fine = true → ltB n a b = some r → LtD n a b r
  | n, a, b, r, ha, hb, h => by
    unfold ltB at h
    split at h
    · cases h; exact LtD.int n _ _
    · cases h; exact LtD.str n _ _
    · split at h
      · cases h
      · rename_i n
        have fa := D.fine_list (D.fine_tup_inv ha)
        have fb := D.fine_list (D.fine_tup_inv hb)
        obtain ⟨o, h1, h2⟩ := ltL_sound (ltB_sound n) _ _ r fa fb h
        rw [← h2]
        exact LtD.tup fa fb h1
    · split at h
      · cases h
      · rename_i n
        have fa := D.fine_list (D.fine_lst_inv ha)
        have fb := D.fine_list (D.fine_lst_inv hb)
        obtain ⟨o, h1, h2⟩ := ltL_sound (ltB_sound n) _ _ r fa fb h
        rw [← h2]
        exact LtD.lst fa fb h1
    · cases h
theorem O_lt_data {c : Cx} {Q : D → Prop} {a b : D} {r : Bool} (n : Nat) (hn : n ≤ 10) (ha : a.fine = true) (hb : b.fine = true) (h : ltB n a b = some r) (q : Q (.bool r)) : OpD c (compareOp .Lt) a b Q := by
  intro fz s v u Φ E hi hs hb' R ra rb k
  show wpAny c.M c.A (richCompare .Lt v u) Φ E s
  have hu := R.units
  have hu2 : c.A.units + 100 + 10 * n < cLine := by
    have := R.2.2
    show _ < 9900
    omega
  exact ltB_sound n a b r ha hb h c.prog c.w c.A fz c.sr s v u Φ E hu2 hi ra rb (k _ _ _ _ (Step.refl hi hs) (by simp [Rd]) q)

-- F24
section
variable {c : Cx} {ρ : Rho} {oc : Oc} {x : Str} {d : D} {pos p : Pos}
/-- a new list becomes a name's own -/
theorem SR.own {fz : Fz} {s : Shared} {a : Addr} {o : Obj} {m : Str → Option Value} {h' : Heap} {t : Nat} (S : SR c none fz ρ s) (hx : c.env.kindOf x = some .local) (hρ : ρ x = none) (ho : s.heap.get? a = some o) (hq : SeqO "list" o [])
    (hf : ∀ p, ¬ fz a p) (hl : a ≠ c.env.locals) (hsr : c.sr ≠ some a) (h0 : c.s0.heap.get? a = none) (hc : ∀ y ca, c.env.cells.lookup y = some ca → a ≠ ca) (hr : ∀ p ∈ c.rs, a ≠ p.1)
    (hm : s.heap.Ns c.env.locals m) (hm2 : ∀ x d, ρ x = some d → c.env.kindOf x = some .local → ∃ v, m x = some v ∧ Rd fz c.sr d v)
    (hn : h'.Ns c.env.locals fun y => if y = x then some (.ref a) else m y) (hs : Heap.SameBut c.env.locals s.heap h') : SR c (some (x, [])) fz ρ { s with heap := h', toks := t } := by
  have same : ∀ b, b ≠ c.env.locals → ∀ o, s.heap.get? b = some o → h'.get? b = some o := fun b hb o e => (hs.2 b hb).trans e
  have X := S.step
  refine ⟨⟨X.sub, fun a o e => ?_, fun b o n e => ?_, X.fresh, fun a e => ?_, ?_⟩, S.room, S.bs, S.srcF, S.src0, ⟨_, hn, fun y d' e k => ?_, ?_⟩, fun y d' e k => ?_, S.locF, S.locS, S.locN, fun y ca e => ?_, S.cellA, fun p hp => ?_, S.fun_, S.glob, S.bltn⟩
  · exact same a (fun q => S.locF o (q ▸ e)) o (X.inn a o e)
  · refine same b (fun q => ?_) o (X.kept b o n e)
    rw [q, S.locN] at e; cases e
  · obtain ⟨o, z, y, t, u, ho', r⟩ := X.src a e
    exact ⟨o, z, y, t, u, same a (fun q => S.locS (q ▸ e)) o ho', r⟩
  · rw [X.shape]
  · have q : y ≠ x := fun q => by rw [q, hρ] at e; cases e
    obtain ⟨v', h1, h2⟩ := hm2 y d' e k
    exact ⟨v', by simp [q, h1], h2⟩
  · exact ⟨a, o, [], by simp, hx, same a hl o ho, hq, by simp [RdL], hf, hl, hsr, h0, hc, hr⟩
  · have hyx : y ≠ x := fun q => by rw [q, hx] at k; cases k
    obtain ⟨ca, v', h1, h2, h3⟩ := S.cells y d' e k
    exact ⟨ca, v', h1, IsCell.keeps' h2 (same ca (S.cellI _ _ h1).2.1), h3⟩
  · obtain ⟨⟨v', h1⟩, h2, r⟩ := S.cellI y ca e
    exact ⟨⟨v', IsCell.keeps' h1 (same ca h2)⟩, h2, r⟩
  · obtain ⟨h1, h2, h3, h4, r⟩ := S.rsI p hp
    exact ⟨same _ h4 _ h1, h2, h3, h4, r⟩
theorem SR.loc_at {fz : Fz} {s : Shared} (S : SR c oc fz ρ s) : ∃ o, s.heap.get? c.env.locals = some o := by
  obtain ⟨m, ⟨o, _, _, ho, _⟩, _⟩ := S.ns
  exact ⟨o, ho⟩
/-- an address that held nothing when a state stood is no one's -/
theorem SR.fresh_at {fz : Fz} {s : Shared} {a : Addr} (S : SR c none fz ρ s) (hN : s.heap.get? a = none) : (∀ p, ¬ fz a p) ∧ a ≠ c.env.locals ∧ c.sr ≠ some a ∧ c.s0.heap.get? a = none ∧ (∀ y ca, c.env.cells.lookup y = some ca → a ≠ ca) ∧ (∀ p ∈ c.rs, a ≠ p.1) := by
  refine ⟨fun p hp => ?_, fun q => ?_, fun q => ?_, S.step.none S.src0 hN, fun y ca e q => ?_, fun p hp q => ?_⟩
  · have := S.inn _ _ hp; rw [hN] at this; cases this
  · obtain ⟨o, ho⟩ := S.loc_at; rw [← q, hN] at ho; cases ho
  · obtain ⟨o2, _, _, _, _, ho, _⟩ := S.step.src _ q; rw [hN] at ho; cases ho
  · obtain ⟨⟨v, o, ho, _⟩, _⟩ := S.cellI y ca e; rw [← q, hN] at ho; cases ho
  · have := (S.rsI p hp).1; rw [← q, hN] at this; cases this
/-- names that take a new list -/
theorem store_own {fz : Fz} {s : Shared} {a : Addr} {o : Obj} {Φ : Unit → Shared → Prop} {E : Value → Shared → Prop} (S : SR c none fz ρ s) (hx : c.env.kindOf x = some .local) (hρ : ρ x = none) (ho : s.heap.get? a = some o) (hq : SeqO "list" o [])
    (hf : (∀ p, ¬ fz a p) ∧ a ≠ c.env.locals ∧ c.sr ≠ some a ∧ c.s0.heap.get? a = none ∧ (∀ y ca, c.env.cells.lookup y = some ca → a ≠ ca) ∧ (∀ p ∈ c.rs, a ≠ p.1))
    (k : ∀ s', SR c (some (x, [])) fz ρ s' → Φ () s') : wpAny c.M c.A (storeName c.env x (.ref a)) Φ E s := by
  obtain ⟨m, hm, hm2, _⟩ := S.ns
  obtain ⟨f1, f2, f3, f4, f5, f6⟩ := hf
  refine wpAny_storeName_local hx hm (fun h' hn hs => k _ (S.own hx hρ ho hq f1 f2 f3 f4 f5 f6 hm hm2 hn hs)) ?_
  rw [S.fun_]; rfl
theorem S_own {lp : Pos} {Qn : Rho → Oc → Prop} {Qr : D → Prop} (hsw : swapsWith (.List [] lp) (some (.Name x p)) pos.line c.env = pure false) (hx : c.env.kindOf x = some .local) (hρ : ρ x = none) (h : Qn ρ (some (x, []))) :
    SemS c (.Assign [.Name x p] (.List [] lp) pos) ρ none Qn Qr := by
  intro fz s Φ E S k1 k2
  have hN := none_size s.heap
  refine wpAny_Assign_Name (wpAny_List_spliced (Calls.spliced_nil ⟨by decide, ?_⟩)) hsw
  have st := Step.keep (h' := s.heap.push { cls := .type "list", data := .seq ([] : List Value).toArray }) (t' := s.toks) S.step.src S.inn fun b p hb => Heap.get?_push_of_some _ hb
  exact store_own (S.on st) hx hρ (Heap.get?_push_size _ rfl) ⟨rfl, rfl, _, rfl⟩ (S.fresh_at hN) fun s' S' => k1 _ _ _ _ (fun _ _ z => z) S' h

/-- an own list grows -/
theorem SR.grow {fz : Fz} {s : Shared} {a : Addr} {l : List D} {v : Value} {o' : Obj} {vs : List Value} {h' : Heap} {t : Nat} (S : SR c (some (x, l)) fz ρ s) (hr : Rd fz c.sr d v) (ha : ∃ m, s.heap.Ns c.env.locals m ∧ m x = some (.ref a))
    (hv : ∃ o, s.heap.get? a = some o ∧ SeqO "list" o vs) (ho : h'.get? a = some o') (hq : SeqO "list" o' (vs ++ [v])) (hsb : Heap.ExtBut a s.heap h') : SR c (some (x, l ++ [d])) fz ρ { s with heap := h', toks := t } := by
  obtain ⟨m, hn, hm, hown⟩ := S.ns
  obtain ⟨b, o, us, h1, h2, h3, h4, h5, h6, h7, h8, h9, h10, h11⟩ := hown
  obtain ⟨m', hn', hma⟩ := ha
  have hmm : m' x = m x := by
    obtain ⟨o1, es1, ep1, ho1, hd1, _, hf1⟩ := hn'
    obtain ⟨o2, es2, ep2, ho2, hd2, _, hf2⟩ := id hn
    rw [ho1] at ho2; cases ho2
    rw [hd1] at hd2; cases hd2
    rw [← hf1, ← hf2]
  rw [hma, h1] at hmm
  cases hmm
  obtain ⟨o2, ho2, hq2⟩ := hv
  rw [h3] at ho2; cases ho2
  have huv : us = vs := by
    obtain ⟨_, _, n1, e1⟩ := h4
    obtain ⟨_, _, n2, e2⟩ := hq2
    rw [e1] at e2
    simp only [Data.seq.injEq] at e2
    simpa using e2.1
  subst huv
  have same : ∀ b, b ≠ a → ∀ o, s.heap.get? b = some o → h'.get? b = some o := fun b hb o e => hsb b o hb e
  have X := S.step
  refine ⟨⟨X.sub, fun b o e => ?_, fun b o n e => ?_, X.fresh, fun b e => ?_, ?_⟩, S.room, S.bs, S.srcF, S.src0, ⟨m, ?_, hm, ?_⟩, fun y d' e k => ?_, S.locF, S.locS, S.locN, fun y ca e => ?_, S.cellA, fun p hp => ?_, S.fun_, S.glob, S.bltn⟩
  · exact same b (fun q => h6 o (q ▸ e)) o (X.inn b o e)
  · refine same b (fun q => ?_) o (X.kept b o n e)
    rw [q, h9] at e; cases e
  · obtain ⟨o, z, y, t, u, ho', r⟩ := X.src b e
    exact ⟨o, z, y, t, u, same b (fun q => h8 (q ▸ e)) o ho', r⟩
  · show _ = _
    rw [X.shape]
  · obtain ⟨oL, es, ep, hoL, r⟩ := hn
    exact ⟨oL, es, ep, same _ (Ne.symm h7) _ hoL, r⟩
  · exact ⟨a, o', us ++ [v], h1, h2, ho, hq, h5.append ⟨v, [], rfl, hr, rfl⟩, h6, h7, h8, h9, h10, h11⟩
  · obtain ⟨ca, v', e1, e2, e3⟩ := S.cells y d' e k
    exact ⟨ca, v', e1, IsCell.keeps' e2 (same ca fun q => h10 _ _ e1 q.symm), e3⟩
  · obtain ⟨⟨v', e1⟩, e2, r⟩ := S.cellI y ca e
    exact ⟨⟨v', IsCell.keeps' e1 (same ca fun q => h10 _ _ e q.symm)⟩, e2, r⟩
  · obtain ⟨e1, e2, e3, e4, r⟩ := S.rsI p hp
    exact ⟨same _ (fun q => h11 p hp q.symm) _ e1, e2, e3, e4, r⟩
theorem SR.own_at {fz : Fz} {s : Shared} {l : List D} (S : SR c (some (x, l)) fz ρ s) : ∃ m a o vs, s.heap.Ns c.env.locals m ∧ m x = some (.ref a) ∧ c.env.kindOf x = some .local ∧ s.heap.get? a = some o ∧ SeqO "list" o vs ∧ RdL fz c.sr l vs := by
  obtain ⟨m, hn, hm, hown⟩ := S.ns
  obtain ⟨a, o, vs, h1, h2, h3, h4, h5, _⟩ := hown
  exact ⟨m, a, o, vs, hn, h1, h2, h3, h4, h5⟩
theorem S_append {elt : Expr} {np apos cpos : Pos} {l : List D} {Qn : Rho → Oc → Prop} {Qr : D → Prop} (hi : interactive c.env = false) (hs : swapsWith (.Call (.Attribute (.Name x np) "append" apos) [elt] [] cpos) none pos.line c.env = pure false)
    (hd : (x == ("__debug__" : Str)) = false) (hbase : attributeBase (.Name x np) "append" c.env (eval (.Name x np) c.env) = eval (.Name x np) c.env)
    (hfew : ((backTo cpos (starEach [elt] c.env)).all (fun x => !x.1) && (backToKw cpos (keywordEach [] c.env)).all (fun x => x.1.isSome)
      && decide (([elt] : List Expr).length + ([] : List Keyword).length + (if ([] : List Keyword).isEmpty then 0 else 1) < 30)) = true)
    (hline : (apos.endLine == cpos.line) = true) (htrees : backTo cpos (starEach [elt] c.env) = [(false, eval elt c.env)]) (hsz : l.length ≤ 1000000)
    (h : SemE c elt ρ fun d => Qn ρ (some (x, l ++ [d]))) : SemS c (.Expr (.Call (.Attribute (.Name x np) "append" apos) [elt] [] cpos) pos) ρ (some (x, l)) Qn Qr := by
  intro fz s Φ E S k1 k2
  refine wpAny_Expr_any (wpAny_Call_append hbase hfew hline htrees ?_) hi hs
  obtain ⟨m, a, o, vs, hn, hm, hx, ho, hq, hr⟩ := S.own_at
  refine wpAny_Name (wpAny_loadName_local S.fun_ hx hn hm ?_) hd
  refine ⟨a, vs.toArray, rfl, ⟨o, hq.2.2.choose, ho, hq.1, hq.2.1, hq.2.2.choose_spec⟩, ?_⟩
  refine h _ fz s _ E S fun fz₁ v d s₁ st r q => ?_
  have S₁ := S.on st
  obtain ⟨m₁, a₁, o₁, vs₁, hn₁, hm₁, _, ho₁, hq₁, hr₁⟩ := S₁.own_at
  have hn2 : s₁.heap.Ns c.env.locals m := by
    obtain ⟨oL, es, ep, hoL, r⟩ := hn
    exact ⟨oL, es, ep, st.kept _ _ S.locS hoL, r⟩
  have haa : a = a₁ := by
    have hmm : m₁ x = m x := by
      obtain ⟨o1, es1, ep1, ho1, hd1, _, hf1⟩ := id hn₁
      obtain ⟨o2, es2, ep2, ho2, hd2, _, hf2⟩ := hn2
      rw [ho1] at ho2; cases ho2
      rw [hd1] at hd2; cases hd2
      rw [← hf1, ← hf2]
    rw [hm, hm₁] at hmm
    cases hmm; rfl
  subst haa
  refine list_append_plainL ⟨o₁, hq₁.2.2.choose, ho₁, hq₁.1, hq₁.2.1, hq₁.2.2.choose_spec⟩ (fun h' hp hsb => ?_) ?_
  · obtain ⟨o', n', e1, e2, e3, e4⟩ := hp
    exact k1 _ _ _ _ st.sub (S₁.grow (t := s₁.toks) r ⟨m₁, hn₁, hm₁⟩ ⟨o₁, ho₁, hq₁⟩ e1 ⟨e2, e3, n', by rw [e4]; simp⟩ hsb.extBut) q
  · rw [List.size_toArray, hr₁.length]
    have : (1000000 : Nat) ≤ sizeLine := by decide
    omega
/-- the own list is done: it stands from now on -/
theorem SR.freeze {fz : Fz} {s : Shared} {l : List D} (S : SR c (some (x, l)) fz ρ s) : ∃ g, (∀ a o, fz a o → g a o) ∧ SR c none g (ρ.set x (.lst l)) s := by
  obtain ⟨m, hn, hm, hown⟩ := S.ns
  obtain ⟨a, o, vs, h1, h2, h3, h4, h5, h6, h7, h8, h9, h10, h11⟩ := hown
  have X := S.step
  have sub : ∀ b p, fz b p → fz.add a o b p := fun b p z => .inl z
  have new : ∀ b, (∀ p, ¬ fz b p) → b ≠ a → ∀ p, ¬ fz.add a o b p := fun b h1 h2 p z => by
    rcases z with z | ⟨z, _⟩
    · exact h1 p z
    · exact h2 z
  refine ⟨fz.add a o, sub, ⟨fun b p z => sub _ _ (X.sub b p z), fun b p z => ?_, X.kept, fun b p z => ?_, X.src, X.shape⟩, S.room, S.bs, S.srcF, S.src0, ⟨m, hn, fun y d' e k => ?_, trivial⟩, fun y d' e k => ?_, new _ S.locF (Ne.symm h7), S.locS, S.locN, fun y ca e => ?_, S.cellA, fun p hp => ?_, S.fun_, S.glob, S.bltn⟩
  · rcases z with z | ⟨rfl, rfl⟩
    · exact X.inn b p z
    · exact h3
  · rcases z with z | ⟨rfl, rfl⟩
    · exact X.fresh b p z
    · exact .inr h9
  · by_cases q : y = x
    · subst q
      simp only [Rho.set, if_true] at e
      cases e
      refine ⟨_, h1, ?_⟩
      simp only [Rd]
      exact ⟨a, o, vs, rfl, .inr ⟨rfl, rfl⟩, h4, h5.mono sub⟩
    · simp only [Rho.set, if_neg q] at e
      obtain ⟨v, e1, e2⟩ := hm y d' e k
      exact ⟨v, e1, e2.mono sub⟩
  · have hyx : y ≠ x := fun q => by rw [q, h2] at k; cases k
    simp only [Rho.set, if_neg hyx] at e
    obtain ⟨ca, v', e1, e2, e3⟩ := S.cells y d' e k
    exact ⟨ca, v', e1, e2, e3.mono sub⟩
  · obtain ⟨e1, e2, e3, e4, e5⟩ := S.cellI y ca e
    exact ⟨e1, e2, e3, new _ e4 (fun q => h10 _ _ e q.symm), e5⟩
  · obtain ⟨e1, e2, e3, e4, e5, e6⟩ := S.rsI p hp
    exact ⟨e1, e2, new _ e3 (fun q => h11 p hp q.symm), e4, e5, e6⟩
theorem B_freeze {b : List Stmt} {l : List D} {Qn : Rho → Oc → Prop} {Qr : D → Prop} (h : SemB c b (ρ.set x (.lst l)) none Qn Qr) : SemB c b ρ (some (x, l)) Qn Qr := by
  intro fz s Φ E S k1 k2
  obtain ⟨g, sub, S'⟩ := S.freeze
  exact h g s Φ E S' (fun f ρ' oc' s' sb => k1 f ρ' oc' s' fun a o z => sb a o (sub a o z)) k2

/-- names stored from the last to the first -/
noncomputable def SemNs (c : Cx) : List Str → List D → Rho → Oc → (Rho → Prop) → Prop
  | [], _, ρ, _, Q => Q ρ
  | x :: xs, d :: ds, ρ, oc, Q => SemN c x d ρ oc fun ρ' => SemNs c xs ds ρ' oc Q
  | _ :: _, [], ρ, _, Q => Q ρ
theorem names_store {Φ : Unit → Shared → Prop} {E : Value → Shared → Prop} : ∀ {xs : List Str} {ds : List D} {vs : List Value} {ρ : Rho} {fz : Fz} {s : Shared} {Q : Rho → Prop}, SR c oc fz ρ s → RdL fz c.sr ds vs → SemNs c xs ds ρ oc Q → (∀ ρ' s', SR c oc fz ρ' s' → Q ρ' → Φ () s') → wpAny c.M c.A (assignInOrder (xs.map fun n => bindName c.env n) vs) Φ E s
  | [], ds, vs, ρ, fz, s, Q, S, r, h, k => by
    cases vs <;> exact wpAny_pure (k _ _ S h)
  | x :: xs, [], vs, ρ, fz, s, Q, S, r, h, k => by
    simp only [RdL] at r; subst r
    exact wpAny_pure (k _ _ S h)
  | x :: xs, d :: ds, vs, ρ, fz, s, Q, S, r, h, k => by
    simp only [RdL] at r
    obtain ⟨v, us, rfl, r1, r2⟩ := r
    exact wpAny_assignInOrder_more (wpAny_bindName (h fz s v _ E S r1 fun ρ' s' S' q => names_store S' r2 q k))
theorem RdL.snoc {f : Fz} {sr : Option Addr} : ∀ {ds : List D} {vs : List Value}, RdL f sr ds vs → RdL f sr ds.reverse vs.reverse
  | [], _, h => by simp only [RdL] at h; subst h; simp [RdL]
  | d :: ds, vs, h => by
    simp only [RdL] at h
    obtain ⟨v, r, rfl, h1, h2⟩ := h
    simp only [List.reverse_cons]
    exact (RdL.snoc h2).append ⟨v, [], rfl, h1, rfl⟩
theorem S_assignSw {es ts : List Expr} {k k2 : Nat} {tp : Pos} {names : List Str} {Qn : Rho → Oc → Prop} {Qr : D → Prop} (h1 : swapsWithSole [.Tuple ts k p] (.Tuple es k2 tp) pos.line c.env = pure false) (h2 : swappedStores [.Tuple ts k p] (.Tuple es k2 tp) c.env = pure (some names))
    (hl : names.length = es.length) (hsz : es.length ≤ 1000)
    (h : SemL c tp es ρ fun ds => SemNs c names.reverse ds.reverse ρ oc fun ρ' => Qn ρ' oc) : SemS c (.Assign [.Tuple ts k p] (.Tuple es k2 tp) pos) ρ oc Qn Qr := by
  intro fz s Φ E S k1 k2'
  refine Assign_Tuple_swapped (names := names) (wpAny_Tuple_spliced (h oc fz s _ E S fun fz₁ vs ds s₁ st₁ r₁ ln q => ⟨by rw [ln]; exact Nat.le_trans hsz (by decide), ?_⟩)) h1 h2
  have st₂ := Step.push (sr := c.sr) (fz := fz₁) (s := s₁) (o := { cls := .type "tuple", data := .seq vs.toArray }) (h' := s₁.heap.push _) (t' := s₁.toks) st₁.src st₁.inn (fun b p hb => Heap.get?_push_of_some _ hb) (Heap.get?_push_size _ rfl)
  have hT : IsTup (s₁.heap.push { cls := .type "tuple", data := .seq vs.toArray }) s₁.heap.objs.size vs.toArray := ⟨_, Heap.get?_push_size _ rfl, rfl, _, rfl⟩
  have hn : names.length = vs.toArray.size := by rw [List.size_toArray, ln, hl]
  rw [hn]
  refine unpackItems_tuple S.room.1 (s := { s₁ with heap := s₁.heap.push { cls := .type "tuple", data := .seq vs.toArray } }) hT fun h' hk => ?_
  have st₃ := Step.keep (s := { s₁ with heap := s₁.heap.push { cls := .type "tuple", data := .seq vs.toArray }, toks := s₁.toks }) (h' := h') (t' := s₁.toks) st₂.src st₂.inn fun b o e => hk b o (Nat.ne_of_lt (Heap.lt_size e)) e
  have S₃ := (S.on ((st₁.trans st₂).trans st₃))
  show wpAny _ _ (assignInOrder _ vs.reverse) _ _ _
  exact names_store S₃ ((r₁.mono st₂.sub).snoc) q fun ρ' s' S' q' => k1 _ _ _ _ (fun a o z => st₂.sub _ _ (st₁.sub _ _ z)) S' q'
end

-- F25
section
variable {c : Cx} {ρ : Rho} {oc : Oc} {x : Str} {d : D} {pos p : Pos}
/-- x, y = (e, []) -/
theorem S_own2 {e : Expr} {ts : List Expr} {y : Str} {k k2 : Nat} {tp lp : Pos} {Qn : Rho → Oc → Prop} {Qr : D → Prop} (h1 : swapsWithSole [.Tuple ts k p] (.Tuple [e, .List [] lp] k2 tp) pos.line c.env = pure false) (h2 : swappedStores [.Tuple ts k p] (.Tuple [e, .List [] lp] k2 tp) c.env = pure (some [x, y]))
    (hs1 : starEach [e, .List [] lp] c.env = (false, eval e c.env) :: starEach [.List [] lp] c.env) (hs2 : starEach [.List [] lp] c.env = (false, eval (.List [] lp) c.env) :: starEach [] c.env)
    (hy : c.env.kindOf y = some .local) (hρ : ρ y = none) (h : SemE c e ρ fun d => SemN c x d ρ (some (y, [])) fun ρ' => Qn ρ' (some (y, []))) : SemS c (.Assign [.Tuple ts k p] (.Tuple [e, .List [] lp] k2 tp) pos) ρ none Qn Qr := by
  intro fz s Φ E S k1 k2'
  refine Assign_Tuple_swapped (names := [x, y]) (wpAny_Tuple_spliced (spliced_more (h none fz s _ E S fun fz₁ v d s₁ st₁ r₁ q => ?_) hs1)) h1 h2
  refine spliced_more (wpAny_List_spliced (Calls.spliced_nil ⟨by decide, ?_⟩)) hs2
  have S₁ := S.on st₁
  have hN := none_size s₁.heap
  have st₂ := Step.keep (h' := s₁.heap.push { cls := .type "list", data := .seq ([] : List Value).toArray }) (t' := s₁.toks) S₁.step.src S₁.inn fun b p hb => Heap.get?_push_of_some _ hb
  refine Calls.spliced_nil ⟨by show 2 ≤ sizeLine; decide, ?_⟩
  have hT : IsTup ((s₁.heap.push { cls := .type "list", data := .seq ([] : List Value).toArray }).push { cls := .type "tuple", data := .seq [v, .ref s₁.heap.objs.size].toArray }) (s₁.heap.push { cls := .type "list", data := .seq ([] : List Value).toArray }).objs.size [v, .ref s₁.heap.objs.size].toArray := ⟨_, Heap.get?_push_size _ rfl, rfl, _, rfl⟩
  rw [show [x, y].length = [v, Value.ref s₁.heap.objs.size].toArray.size from rfl]
  refine unpackItems_tuple S.room.1 (s := { s₁ with heap := ((s₁.heap.push { cls := .type "list", data := .seq ([] : List Value).toArray }).push { cls := .type "tuple", data := .seq [v, .ref s₁.heap.objs.size].toArray }) }) hT fun h' hk => ?_
  have hk2 : ∀ b o, s₁.heap.get? b = some o → h'.get? b = some o := fun b o e => by
    have e' := Heap.get?_push_of_some { cls := .type "tuple", data := .seq [v, .ref s₁.heap.objs.size].toArray } (Heap.get?_push_of_some { cls := .type "list", data := .seq ([] : List Value).toArray } e)
    exact hk b o (Nat.ne_of_lt (Heap.lt_size e')) e'
  have hL : h'.get? s₁.heap.objs.size = some { cls := .type "list", data := .seq ([] : List Value).toArray } := by
    have e' := Heap.get?_push_of_some { cls := .type "tuple", data := .seq [v, .ref s₁.heap.objs.size].toArray } (Heap.get?_push_size (o := { cls := .type "list", data := .seq ([] : List Value).toArray }) s₁.heap rfl)
    exact hk _ _ (Nat.ne_of_lt (Heap.lt_size e')) e'
  have st₃ : Step c.sr fz₁ s₁ fz₁ { s₁ with heap := h', toks := s₁.toks } := Step.keep S₁.step.src S₁.inn hk2
  show wpAny _ _ (assignInOrder [bindName c.env y, bindName c.env x] [.ref s₁.heap.objs.size, v]) _ _ _
  refine wpAny_assignInOrder_more (wpAny_bindName (store_own (S₁.on st₃) hy hρ hL ⟨rfl, rfl, _, rfl⟩ (S₁.fresh_at hN) fun s₄ S₄ => ?_))
  refine wpAny_assignInOrder_more (wpAny_bindName (q fz₁ s₄ v _ E S₄ (r₁.mono st₃.sub) fun ρ' s₅ S₅ q₅ => ?_))
  exact wpAny_pure (k1 _ _ _ _ (fun a o z => st₁.sub _ _ z) S₅ q₅)
/-- x, y = ([], e) -/
theorem S_own1 {e : Expr} {ts : List Expr} {y : Str} {k k2 : Nat} {tp lp : Pos} {Qn : Rho → Oc → Prop} {Qr : D → Prop} (h1 : swapsWithSole [.Tuple ts k p] (.Tuple [.List [] lp, e] k2 tp) pos.line c.env = pure false) (h2 : swappedStores [.Tuple ts k p] (.Tuple [.List [] lp, e] k2 tp) c.env = pure (some [x, y]))
    (hs1 : starEach [.List [] lp, e] c.env = (false, eval (.List [] lp) c.env) :: starEach [e] c.env) (hs2 : starEach [e] c.env = (false, eval e c.env) :: starEach [] c.env)
    (hx : c.env.kindOf x = some .local) (h : ∀ rs, SemE (c.withRs rs) e ρ fun d => SemN (c.withRs rs) y d ρ none fun ρ' => ρ' x = none ∧ Qn ρ' (some (x, []))) : SemS c (.Assign [.Tuple ts k p] (.Tuple [.List [] lp, e] k2 tp) pos) ρ none Qn Qr := by
  intro fz s Φ E S k1 k2'
  have hN := none_size s.heap
  have st₀ := Step.keep (h' := s.heap.push { cls := .type "list", data := .seq ([] : List Value).toArray }) (t' := s.toks) S.step.src S.inn fun b p hb => Heap.get?_push_of_some _ hb
  have F := S.fresh_at hN
  have S₀ : SR (c.on [(s.heap.objs.size, { cls := .type "list", data := .seq ([] : List Value).toArray })]) none fz ρ { s with heap := s.heap.push { cls := .type "list", data := .seq ([] : List Value).toArray }, toks := s.toks } :=
    S.addRs st₀ (fun p hp => by simp at hp; subst hp; exact hN) (fun p hp => by simp at hp; subst hp; exact F.1) (fun p hp => by simp at hp; subst hp; exact Heap.get?_push_size _ rfl)
  refine Assign_Tuple_swapped (names := [x, y]) (wpAny_Tuple_spliced (spliced_more (wpAny_List_spliced (Calls.spliced_nil ⟨by decide, ?_⟩)) hs1)) h1 h2
  refine spliced_more (h ([(s.heap.objs.size, _)] ++ c.rs) none fz _ _ E S₀ fun fz₁ v d s₁ st₁ r₁ q => ?_) hs2
  have S₁ := S₀.on st₁
  refine Calls.spliced_nil ⟨by show 2 ≤ sizeLine; decide, ?_⟩
  have hT : IsTup (s₁.heap.push { cls := .type "tuple", data := .seq [.ref s.heap.objs.size, v].toArray }) s₁.heap.objs.size [.ref s.heap.objs.size, v].toArray := ⟨_, Heap.get?_push_size _ rfl, rfl, _, rfl⟩
  rw [show [x, y].length = [Value.ref s.heap.objs.size, v].toArray.size from rfl]
  refine unpackItems_tuple S.room.1 (s := { s₁ with heap := s₁.heap.push { cls := .type "tuple", data := .seq [.ref s.heap.objs.size, v].toArray } }) hT fun h' hk => ?_
  have hk2 : ∀ b o, s₁.heap.get? b = some o → h'.get? b = some o := fun b o e => by
    have e' := Heap.get?_push_of_some { cls := .type "tuple", data := .seq [.ref s.heap.objs.size, v].toArray } e
    exact hk b o (Nat.ne_of_lt (Heap.lt_size e')) e'
  have st₃ : Step c.sr fz₁ s₁ fz₁ { s₁ with heap := h', toks := s₁.toks } := Step.keep S₁.step.src S₁.inn hk2
  have S₃ := S₁.on st₃
  have R := S₃.rsI _ (List.mem_append_left _ (.head _))
  have SD : SR c none fz₁ ρ { s₁ with heap := h', toks := s₁.toks } := S₃.dropRs
  show wpAny _ _ (assignInOrder [bindName c.env y, bindName c.env x] [v, .ref s.heap.objs.size]) _ _ _
  have key : ∀ ρ' s₄, SR (c.on [(s.heap.objs.size, { cls := .type "list", data := .seq ([] : List Value).toArray })]) none fz₁ ρ' s₄ → (ρ' x = none ∧ Qn ρ' (some (x, []))) → wpAny c.M c.A (assignInOrder [bindName c.env x] [.ref s.heap.objs.size]) (fun _ s' => Φ .next s') E s₄ := fun ρ' s₄ S₄ q₄ => by
    have R₄ := S₄.rsI _ (List.mem_append_left _ (.head _))
    refine wpAny_assignInOrder_more (wpAny_bindName (store_own S₄.dropRs hx q₄.1 R₄.1 ⟨rfl, rfl, _, rfl⟩ ⟨R₄.2.2.1, R₄.2.2.2.1, R₄.2.2.2.2.1, R₄.2.1, R₄.2.2.2.2.2, F.2.2.2.2.2⟩ fun s₅ S₅ => ?_))
    exact wpAny_pure (k1 _ _ _ _ (fun a o z => st₁.sub _ _ z) S₅ q₄.2)
  exact wpAny_assignInOrder_more (wpAny_bindName (q fz₁ _ v _ E S₃ r₁ fun ρ' s₄ S₄ q₄ => key ρ' s₄ S₄ q₄))
end

-- F26
section
variable {c : Cx} {ρ : Rho} {oc : Oc} {Q : D → Prop} {x : Str} {d : D} {pos p : Pos} {mg mb : Str → Option Value}
theorem A_tupleL {Qn : Rho → Prop} {ts : List Expr} {k : Nat} {ds : List D} (hl : (assignEach ts c.env).length = ds.length) (hf : (assignEach ts c.env).findIdx? (·.1) = none) (h : SemAs c ts ds ρ oc Qn) : SemA c (.Tuple ts k pos) (.lst ds) ρ oc Qn := by
  intro fz s v Φ E S r kk
  simp only [Rd] at r
  obtain ⟨a, o, vs, rfl, ho, ⟨hc, _, n, hd⟩, hr⟩ := r
  have many : (assignEach ts c.env).length = vs.toArray.size := by rw [List.size_toArray, hr.length]; exact hl
  rw [arm_assign_Tuple]
  refine wpAny_bind (wpAny_standAt ?_)
  unfold unpack
  rw [many, hf]
  refine wpAny_bind (wpAny_holding (kun_itemsOf S.room.1 ⟨o, S.inn _ _ ho, hc, n, hd⟩ fun h' hk => ?_))
  have st : Step c.sr fz s fz { s with heap := h', toks := s.toks } := Step.keep S.step.src S.inn fun b o e => hk b o (Nat.ne_of_lt (Heap.lt_size e)) e
  exact h fz _ vs Φ E (S.on st) (by simpa using hr) kk

noncomputable def isTxt (x : Str) : Value → Bool
  | .str y _ => y == x
  | _ => false
theorem RdL.str_at {fz : Fz} {sr : Option Addr} : ∀ {xs : List Str} {vs : List Value} {v : Value}, RdL fz sr (xs.map .str) vs → v ∈ vs → ∃ y t, v = .str y t ∧ y ∈ xs
  | [], vs, v, h, hv => by simp only [List.map_nil, RdL] at h; subst h; simp at hv
  | x :: xs, vs, v, h, hv => by
    simp only [List.map_cons, RdL, Rd] at h
    obtain ⟨u, us, rfl, ⟨t, rfl⟩, h2⟩ := h
    rcases List.mem_cons.mp hv with rfl | hv
    · exact ⟨x, t, rfl, .head _⟩
    · obtain ⟨y, t', e, hy⟩ := RdL.str_at h2 hv
      exact ⟨y, t', e, .tail _ hy⟩
theorem E_index_of {o e : Expr} {apos : Pos} (hbase : attributeBase o "index" c.env (eval o c.env) = eval o c.env)
    (hfew : ((backTo pos (starEach [e] c.env)).all (fun x => !x.1) && (backToKw pos (keywordEach [] c.env)).all (fun x => x.1.isSome)
      && decide ([e].length + ([] : List Keyword).length + (if ([] : List Keyword).isEmpty then 0 else 1) < 30)) = true)
    (hline : (apos.endLine == pos.line) = true) (hst : starEach [e] c.env = (false, eval e c.env) :: starEach [] c.env) (hpl : (backTo pos (starEach [] c.env)).any (·.1) = false)
    (h : SemE c o ρ fun dd => ∃ xs : List Str, dd = .lst (xs.map .str) ∧ (∀ y ∈ xs, PyData.strOk y = true) ∧ SemE c e ρ fun d => ∃ x j, d = .str x ∧ PyData.strOk x = true ∧ xs[j]? = some x ∧ j < 1000000 ∧ (∀ m, m < j → xs[m]? ≠ some x) ∧ Q (.int (j : Nat))) :
    SemE c (.Call (.Attribute o "index" apos) [e] [] pos) ρ Q := by
  intro oc fz s Φ E S k
  refine wpAny_Call_method hbase hfew hline PySem.F.plainAttrs_list PySem.F.slot_list_index PySem.F.type_list_index (h oc fz s _ E S fun fz₁ v d s₁ st₁ r₁ q₁ => ?_)
  obtain ⟨xs, rfl, hok, q₁⟩ := q₁
  simp only [Rd] at r₁
  obtain ⟨a, ob, vs, rfl, ho, hq, hr⟩ := r₁
  have S₁ := S.on st₁
  have hT : s₁.TypeIs (.ref a) "list" := ⟨ob, S₁.inn _ _ ho, hq.1⟩
  refine ⟨hT, fun b eb => ?_, callWith_self (spliced_more (q₁ oc fz₁ s₁ _ E S₁ fun fz₂ u ds s₂ st₂ r₂ q₂ => Calls.spliced_nil ?_) hst) hst hpl⟩
  · cases eb; exact ⟨ob, S₁.inn _ _ ho, hq.2.1⟩
  obtain ⟨x, j, rfl, hx, hj, hj2, hno, q₂⟩ := q₂
  simp only [Rd] at r₂
  obtain ⟨t, rfl⟩ := r₂
  have S₂ := S₁.on st₂
  have ho₂ := S₂.inn _ _ (st₂.sub _ _ ho)
  obtain ⟨hc, hdn, n, hdt⟩ := hq
  obtain ⟨cls, dd, data, sl⟩ := ob
  simp only at hc hdn hdt
  subst hc hdn hdt
  have hjl : j < xs.length := (List.getElem?_eq_some_iff.mp hj).1
  have hvl : vs.length = xs.length := by rw [hr.length, List.length_map]
  have at_ : ∀ m (hm : m < xs.length), ∃ t', vs[m]? = some (.str xs[m] t') := fun m hm => by
    obtain ⟨v, hv, rv⟩ := hr.get (i := m) (d := .str xs[m]) (by simp [hm])
    simp only [Rd] at rv
    obtain ⟨t', rfl⟩ := rv
    exact ⟨t', hv⟩
  have size : vs.toArray.size = xs.length := by rw [List.size_toArray, hvl]
  refine call_meets PySem.F.slot_list_index ⟨_, ho₂, rfl⟩ PySem.F.entry_list_index (PySem.F.args_list_index_2 _ _) (SeqAt.list_indexAt a vs.toArray n none sl (.str x t) (isTxt x) j (by rw [size]; exact hjl) (by omega) ?_ fun m hm hlt => ?_) ⟨ho₂, fun y hy prog w E' Q' hq' => ?_, ?_⟩
  · obtain ⟨t', e'⟩ := at_ j hjl
    have e2 : vs.toArray[j]'(by rw [size]; exact hjl) = .str xs[j] t' := by
      have := (List.getElem?_eq_some_iff.mp e').2
      simpa using this
    rw [e2]
    have := (List.getElem?_eq_some_iff.mp hj).2
    rw [this]
    show (x == x) = true
    exact beq_self_eq_true x
  · have hm' : m < xs.length := by rw [← size]; exact hm
    obtain ⟨t', e'⟩ := at_ m hm'
    have e2 : vs.toArray[m]'hm = .str xs[m] t' := by
      have := (List.getElem?_eq_some_iff.mp e').2
      simpa using this
    rw [e2]
    show (xs[m] == x) = false
    rw [beq_eq_false_iff_ne]
    intro e3
    exact hno m hlt (by rw [List.getElem?_eq_getElem hm', e3])
  · obtain ⟨y', t', rfl, hy'⟩ := hr.str_at (by simpa using hy)
    refine eq_bool (fz := fz₂) (sr := c.sr) (a := .str y') (b := .str x) (by have := S.room.2.2; show c.A.units + 1 + 100 < 9900; omega) S₂.inn (by simp [D.fine, D.ok, D.dep, hok _ hy']) (by simp [D.fine, D.ok, D.dep, hx]) (by simp [Rd]) (by simp [Rd]) hq'
  · exact k fz₂ _ _ _ ((st₁.trans st₂).trans (Step.same S₂.inn S₂.step.src)) (by simp [Rd]) q₂
/-- the numbers from a by steps of st -/
noncomputable def stepsD (a st : Int) (n : Nat) : List D := (List.range n).map fun (i : Nat) => D.int (a + (i : Int) * st)
theorem RdL.of_items {fz : Fz} {sr : Option Addr} : ∀ {ds : List D} {vs : List Value}, vs.length = ds.length → (∀ (i : Nat) (v : Value) (d : D), vs[i]? = some v → ds[i]? = some d → Rd fz sr d v) → RdL fz sr ds vs
  | [], [], _, _ => by simp [RdL]
  | [], _ :: _, h, _ => by simp at h
  | _ :: _, [], h, _ => by simp at h
  | d :: ds, v :: vs, h, k => ⟨v, vs, rfl, k 0 v d rfl rfl, RdL.of_items (by simpa using h) fun i v d e1 e2 => k (i + 1) v d (by simpa using e1) (by simpa using e2)⟩
theorem E_list_range {fl fr : Str} {p1 p2 pos2 : Pos} {e1 e2 e3 : Expr} (hx : c.env.kindOf fl = some .globalImplicit) (hd : (fl == ("__debug__" : Str)) = false) (hxr : c.env.kindOf fr = some .globalImplicit) (hdr : (fr == ("__debug__" : Str)) = false) (G : c.base.Ns mainGlobals mg) (B : c.base.Ns builtinsNs mb)
    (hm : mg fl = none) (hb : mb fl = some (.type "list")) (hmr : mg fr = none) (hbr : mb fr = some (.type "range"))
    (hst0 : starEach [.Call (.Name fr p2) [e1, e2, e3] [] pos2] c.env = (false, eval (.Call (.Name fr p2) [e1, e2, e3] [] pos2) c.env) :: starEach [] c.env) (hpl0 : ((backTo pos (starEach [] c.env)).any fun x => x.1) = false)
    (hst : starEach [e1, e2, e3] c.env = (false, eval e1 c.env) :: starEach [e2, e3] c.env) (hpl : ((backTo pos2 (starEach [e2, e3] c.env)).any fun x => x.1) = false)
    (h : SemL c pos2 [e1, e2, e3] ρ fun ds => ∃ a b st : Int, ∃ n : Nat, ds = [.int a, .int b, .int st] ∧ 0 < st ∧ st < 2 ^ 31 ∧ Builtin.Range.small a b st = true ∧ Builtin.Range.rangeSize a b st = n ∧ n ≤ 1000000 ∧ Q (.lst (stepsD a st n))) :
    SemE c (.Call (.Name fl p1) [.Call (.Name fr p2) [e1, e2, e3] [] pos2] [] pos) ρ Q := by
  intro oc fz s Φ E S k
  refine wpAny_Call_NameR (builtin_name S hx hd G B hm hb ?_)
  refine PyProof.Rows.callWith_type1 (spliced_more ?_ hst0) hst0 hpl0
  refine wpAny_Call_NameR (builtin_name S hxr hdr G B hmr hbr ?_)
  refine PyProof.Rows.callWith_type1 (h oc fz s _ E S fun fz₁ vs ds s₁ st r _ q => ?_) hst hpl
  obtain ⟨a, b, stp, n, rfl, h0, h1, hs, hn, hlen, q⟩ := q
  simp only [RdL, Rd] at r
  obtain ⟨v, us, rfl, ⟨t, rfl⟩, v', us', rfl, ⟨t', rfl⟩, v'', us'', rfl, ⟨t'', rfl⟩, rfl⟩ := r
  have S₁ := S.on st
  refine call_range_3 (by omega) ?_ (.inl (pylong_small (by omega) h1))
  refine Calls.spliced_nil ?_
  have st₂ : Step c.sr fz₁ s₁ fz₁ { s₁ with heap := s₁.heap.push { cls := .type "range", data := .fields #[.int a t, .int b t', .int stp t''] }, toks := s₁.toks } := Step.keep S₁.step.src S₁.inn fun _ _ e => Heap.get?_push_of_some _ e
  have S₂ := S₁.on st₂
  refine call_list_range (s := { s₁ with heap := s₁.heap.push { cls := .type "range", data := .fields #[.int a t, .int b t', .int stp t''] }, toks := s₁.toks }) S.room.1 (IsRange.new ..) hs hn (by omega) fun h' tk acc' c' hk hl hi => ?_
  have hN := none_size (s₁.heap.push { cls := .type "range", data := .fields #[.int a t, .int b t', .int stp t''] })
  have st₃ := Step.push (sr := c.sr) (fz := fz₁) (s := { s₁ with heap := s₁.heap.push { cls := .type "range", data := .fields #[.int a t, .int b t', .int stp t''] }, toks := s₁.toks }) (t' := tk) st₂.src st₂.inn hk hl
  refine k _ _ _ _ ((st.trans st₂).trans st₃) ?_ q
  simp only [Rd]
  refine ⟨_, _, acc'.toList, rfl, .inr ⟨rfl, rfl⟩, ⟨rfl, rfl, c', by simp⟩, RdL.of_items ?_ fun i v d e1 e2 => ?_⟩
  · rw [Array.length_toList, hi.1]; simp [stepsD]
  · obtain ⟨t9, rfl⟩ := hi.2 i v (by simpa using e1)
    simp only [stepsD, List.getElem?_map, Option.map_eq_some_iff] at e2
    obtain ⟨j, hj, rfl⟩ := e2
    obtain ⟨hj1, hj2⟩ := List.getElem?_eq_some_iff.mp hj
    simp at hj1 hj2
    subst hj2
    simp [Rd]
end
theorem rho_nset {ρ : Rho} {x y : Str} {d' : D} (h : y ≠ x) (e : ρ y = none) : (ρ.set x d') y = none := by simp [Rho.set, h, e]
theorem rho_n0 {y : Str} : rho0 y = none := rfl

-- P1
noncomputable def vst (k : Nat) : Stmt := (view.main.body).getD k (.Pass default)
noncomputable def stBody : Stmt → List Stmt
  | .FunctionDef _ _ b _ _ _ _ _ _ _ => b
  | _ => []
noncomputable def stScope : Stmt → Scope
  | .FunctionDef _ _ _ _ _ _ sc _ _ _ => sc
  | _ => default
noncomputable def stParams : Stmt → Arguments
  | .FunctionDef _ ps _ _ _ _ _ _ _ _ => ps
  | _ => default
noncomputable def stPos : Stmt → Pos
  | .FunctionDef _ _ _ _ _ _ _ _ _ p => p
  | _ => default
structure Wd (w : World) (base : Heap) (mg mb : Str → Option Value) : Prop where
  T : ∃ loose mean, Top view loose mean mg mb base
  X : (frag w.params).In base
section
variable {w : World} {base : Heap} {mg mb : Str → Option Value} (W : Wd w base mg mb)
include W
theorem Wd.G : base.Ns mainGlobals mg := by obtain ⟨_, _, T⟩ := W.T; exact T.g
theorem Wd.B : base.Ns builtinsNs mb := by obtain ⟨_, _, T⟩ := W.T; exact T.b
theorem Wd.nog {x : Str} (e : nsIn (frag w.params) mainGlobals x = some none) : mg x = none := mg_none_of W.X W.G e
theorem Wd.blt {x : Str} {v : Value} (hn : x ≠ "__name__") (hv : bootBuiltins x = some v) : mb x = some v := by obtain ⟨_, _, T⟩ := W.T; exact (T.builtins x hn).trans hv
theorem Wd.len0 : mg "len" = none := W.nog (by kernel_rfl)
theorem Wd.len1 : mb "len" = some (.builtin "len") := W.blt (by decide) (by boot_by_name)
theorem Wd.isi0 : mg "isinstance" = none := W.nog (by kernel_rfl)
theorem Wd.isi1 : mb "isinstance" = some (.builtin "isinstance") := W.blt (by decide) (by boot_by_name)
theorem Wd.int0 : mg "int" = none := W.nog (by kernel_rfl)
theorem Wd.int1 : mb "int" = some (.type "int") := W.blt (by decide) (by boot_by_name)
theorem Wd.bool0 : mg "bool" = none := W.nog (by kernel_rfl)
theorem Wd.bool1 : mb "bool" = some (.type "bool") := W.blt (by decide) (by boot_by_name)
theorem Wd.str0 : mg "str" = none := W.nog (by kernel_rfl)
theorem Wd.str1 : mb "str" = some (.type "str") := W.blt (by decide) (by boot_by_name)
theorem Wd.tuple0 : mg "tuple" = none := W.nog (by kernel_rfl)
theorem Wd.tuple1 : mb "tuple" = some (.type "tuple") := W.blt (by decide) (by boot_by_name)
theorem Wd.range0 : mg "range" = none := W.nog (by kernel_rfl)
theorem Wd.range1 : mb "range" = some (.type "range") := W.blt (by decide) (by boot_by_name)
theorem Wd.ord0 : mg "ord" = none := W.nog (by kernel_rfl)
theorem Wd.ord1 : mb "ord" = some (.builtin "ord") := W.blt (by decide) (by boot_by_name)
theorem Wd.chr0 : mg "chr" = none := W.nog (by kernel_rfl)
theorem Wd.chr1 : mb "chr" = some (.builtin "chr") := W.blt (by decide) (by boot_by_name)
theorem Wd.max0 : mg "max" = none := W.nog (by kernel_rfl)
theorem Wd.max1 : mb "max" = some (.builtin "max") := W.blt (by decide) (by boot_by_name)
theorem Wd.zip0 : mg "zip" = none := W.nog (by kernel_rfl)
theorem Wd.zip1 : mb "zip" = some (.type "zip") := W.blt (by decide) (by boot_by_name)
theorem Wd.list0 : mg "list" = none := W.nog (by kernel_rfl)
theorem Wd.list1 : mb "list" = some (.type "list") := W.blt (by decide) (by boot_by_name)
end
noncomputable def dbg_ : Str := "__debug__"

theorem mem_vst (k : Nat) (nm : Str) (h1 : (view.main.body)[k]? = some (vst k)) (h2 : (match vst k with
  | .FunctionDef name _ _ _ _ _ _ _ _ pos => (match view.theDef name with
    | some (a, b, sc) => (match a.defaults, kwLiteralsOf? a.kwonlyargs a.kw_defaults with
      | [], some [] => some (⟨name, a, b, sc, pos⟩ : DefRec)
      | _, _ => none)
    | none => none)
  | _ => none) = some ⟨nm, stParams (vst k), stBody (vst k), stScope (vst k), stPos (vst k)⟩) : (⟨nm, stParams (vst k), stBody (vst k), stScope (vst k), stPos (vst k)⟩ : DefRec) ∈ recsOf view :=
  List.mem_filterMap.mpr ⟨vst k, List.mem_of_getElem? h1, h2⟩

section
variable {c : Cx} {ρ : Rho} {oc : Oc} {Q : D → Prop} {mg mb : Str → Option Value} {p tp pos : Pos} {e : Expr} {es : List Expr}
theorem E_isi_int (W : Wd c.w c.base mg mb) (hx : c.env.kindOf "isinstance" = some .globalImplicit) (hx2 : c.env.kindOf "int" = some .globalImplicit)
    (hst : starEach [e, .Name "int" tp] c.env = (false, eval e c.env) :: starEach [.Name "int" tp] c.env) (hst2 : starEach [.Name "int" tp] c.env = (false, eval (.Name "int" tp) c.env) :: starEach [] c.env) (hpl : ((backTo pos (starEach [.Name "int" tp] c.env)).any fun x => x.1) = false)
    (h : SemE c e ρ fun d => Q (.bool d.isInt)) : SemE c (.Call (.Name "isinstance" p) [e, .Name "int" tp] [] pos) ρ Q :=
  E_isi (T := "int") hx (by decide +kernel) W.G W.B W.isi0 W.isi1 hx2 (by decide +kernel) W.int0 W.int1 (by simp) hst hst2 hpl h
theorem E_isi_bool (W : Wd c.w c.base mg mb) (hx : c.env.kindOf "isinstance" = some .globalImplicit) (hx2 : c.env.kindOf "bool" = some .globalImplicit)
    (hst : starEach [e, .Name "bool" tp] c.env = (false, eval e c.env) :: starEach [.Name "bool" tp] c.env) (hst2 : starEach [.Name "bool" tp] c.env = (false, eval (.Name "bool" tp) c.env) :: starEach [] c.env) (hpl : ((backTo pos (starEach [.Name "bool" tp] c.env)).any fun x => x.1) = false)
    (h : SemE c e ρ fun d => Q (.bool d.isBool)) : SemE c (.Call (.Name "isinstance" p) [e, .Name "bool" tp] [] pos) ρ Q :=
  E_isi (T := "bool") hx (by decide +kernel) W.G W.B W.isi0 W.isi1 hx2 (by decide +kernel) W.bool0 W.bool1 (by simp) hst hst2 hpl h
theorem E_isi_str (W : Wd c.w c.base mg mb) (hx : c.env.kindOf "isinstance" = some .globalImplicit) (hx2 : c.env.kindOf "str" = some .globalImplicit)
    (hst : starEach [e, .Name "str" tp] c.env = (false, eval e c.env) :: starEach [.Name "str" tp] c.env) (hst2 : starEach [.Name "str" tp] c.env = (false, eval (.Name "str" tp) c.env) :: starEach [] c.env) (hpl : ((backTo pos (starEach [.Name "str" tp] c.env)).any fun x => x.1) = false)
    (h : SemE c e ρ fun d => Q (.bool d.isStr)) : SemE c (.Call (.Name "isinstance" p) [e, .Name "str" tp] [] pos) ρ Q :=
  E_isi (T := "str") hx (by decide +kernel) W.G W.B W.isi0 W.isi1 hx2 (by decide +kernel) W.str0 W.str1 (by simp) hst hst2 hpl h
theorem E_isi_tuple (W : Wd c.w c.base mg mb) (hx : c.env.kindOf "isinstance" = some .globalImplicit) (hx2 : c.env.kindOf "tuple" = some .globalImplicit)
    (hst : starEach [e, .Name "tuple" tp] c.env = (false, eval e c.env) :: starEach [.Name "tuple" tp] c.env) (hst2 : starEach [.Name "tuple" tp] c.env = (false, eval (.Name "tuple" tp) c.env) :: starEach [] c.env) (hpl : ((backTo pos (starEach [.Name "tuple" tp] c.env)).any fun x => x.1) = false)
    (h : SemE c e ρ fun d => Q (.bool d.isTup)) : SemE c (.Call (.Name "isinstance" p) [e, .Name "tuple" tp] [] pos) ρ Q :=
  E_isi (T := "tuple") hx (by decide +kernel) W.G W.B W.isi0 W.isi1 hx2 (by decide +kernel) W.tuple0 W.tuple1 (by simp) hst hst2 hpl h
theorem E_len (W : Wd c.w c.base mg mb) (hx : c.env.kindOf "len" = some .globalImplicit) (hst : starEach (e :: es) c.env = (false, eval e c.env) :: starEach es c.env) (hpl : ((backTo pos (starEach es c.env)).any fun x => x.1) = false)
    (h : SemL c pos (e :: es) ρ fun ds => OpL c (fun vs => call (.builtin "len") vs) ds Q) : SemE c (.Call (.Name "len" p) (e :: es) [] pos) ρ Q :=
  E_builtin hx (by decide +kernel) W.G W.B W.len0 W.len1 hst hpl h
theorem E_ord (W : Wd c.w c.base mg mb) (hx : c.env.kindOf "ord" = some .globalImplicit) (hst : starEach (e :: es) c.env = (false, eval e c.env) :: starEach es c.env) (hpl : ((backTo pos (starEach es c.env)).any fun x => x.1) = false)
    (h : SemL c pos (e :: es) ρ fun ds => OpL c (fun vs => call (.builtin "ord") vs) ds Q) : SemE c (.Call (.Name "ord" p) (e :: es) [] pos) ρ Q :=
  E_builtin hx (by decide +kernel) W.G W.B W.ord0 W.ord1 hst hpl h
theorem E_chr (W : Wd c.w c.base mg mb) (hx : c.env.kindOf "chr" = some .globalImplicit) (hst : starEach (e :: es) c.env = (false, eval e c.env) :: starEach es c.env) (hpl : ((backTo pos (starEach es c.env)).any fun x => x.1) = false)
    (h : SemL c pos (e :: es) ρ fun ds => OpL c (fun vs => call (.builtin "chr") vs) ds Q) : SemE c (.Call (.Name "chr" p) (e :: es) [] pos) ρ Q :=
  E_builtin hx (by decide +kernel) W.G W.B W.chr0 W.chr1 hst hpl h
theorem E_max (W : Wd c.w c.base mg mb) (hx : c.env.kindOf "max" = some .globalImplicit) (hst : starEach (e :: es) c.env = (false, eval e c.env) :: starEach es c.env) (hpl : ((backTo pos (starEach es c.env)).any fun x => x.1) = false)
    (h : SemL c pos (e :: es) ρ fun ds => OpL c (fun vs => call (.builtin "max") vs) ds Q) : SemE c (.Call (.Name "max" p) (e :: es) [] pos) ρ Q :=
  E_builtin hx (by decide +kernel) W.G W.B W.max0 W.max1 hst hpl h
theorem E_tupleT (W : Wd c.w c.base mg mb) (hx : c.env.kindOf "tuple" = some .globalImplicit) (hst : starEach (e :: es) c.env = (false, eval e c.env) :: starEach es c.env) (hpl : ((backTo pos (starEach es c.env)).any fun x => x.1) = false)
    (h : SemL c pos (e :: es) ρ fun ds => OpL c (fun vs => call (.type "tuple") vs) ds Q) : SemE c (.Call (.Name "tuple" p) (e :: es) [] pos) ρ Q :=
  E_type hx (by decide +kernel) W.G W.B W.tuple0 W.tuple1 hst hpl h
theorem gint_of {K : Frag} {x : Str} {i : Int} (e : (match nsIn K mainGlobals x with | some (some (.int j _)) => j == i | _ => false) = true) : ∃ t, nsIn K mainGlobals x = some (some (.int i t)) := by
  split at e
  · rename_i j t h; exact ⟨t, by rw [h, eq_of_beq e]⟩
  · cases e
theorem gstr_of {K : Frag} {x i : Str} (e : (match nsIn K mainGlobals x with | some (some (.str j _)) => j == i | _ => false) = true) : ∃ t, nsIn K mainGlobals x = some (some (.str i t)) := by
  split at e
  · rename_i j t h; exact ⟨t, by rw [h, eq_of_beq e]⟩
  · cases e
theorem E_MOST_WORD (W : Wd c.w c.base mg mb) (hx : c.env.kindOf "MOST_WORD" = some .globalImplicit) (h : Q (.int 32)) : SemE c (.Name "MOST_WORD" pos) ρ Q := by
  obtain ⟨t, e⟩ := gint_of (K := frag c.w.params) (x := "MOST_WORD") (i := 32) (by kernel_rfl)
  exact E_global hx W.G (mg_of W.X W.G e) (fun fz _ => by simp [Rd]) (by decide +kernel) h
theorem E_MOST_TEXT (W : Wd c.w c.base mg mb) (hx : c.env.kindOf "MOST_TEXT" = some .globalImplicit) (h : Q (.int 120)) : SemE c (.Name "MOST_TEXT" pos) ρ Q := by
  obtain ⟨t, e⟩ := gint_of (K := frag c.w.params) (x := "MOST_TEXT") (i := 120) (by kernel_rfl)
  exact E_global hx W.G (mg_of W.X W.G e) (fun fz _ => by simp [Rd]) (by decide +kernel) h
noncomputable def nameSigns : Str := "abcdefghijklmnopqrstuvwxyzABCDEFGHIJKLMNOPQRSTUVWXYZ0123456789-_"
theorem E_NAME_SIGNS (W : Wd c.w c.base mg mb) (hx : c.env.kindOf "NAME_SIGNS" = some .globalImplicit) (h : Q (.str nameSigns)) : SemE c (.Name "NAME_SIGNS" pos) ρ Q := by
  obtain ⟨t, e⟩ := gstr_of (K := frag c.w.params) (x := "NAME_SIGNS") (i := nameSigns) (by kernel_rfl)
  exact E_global hx W.G (mg_of W.X W.G e) (fun fz _ => by simp [Rd]) (by decide +kernel) h
noncomputable def pair (a b : Int) : D := .tup [.int a, .int b]
noncomputable def boundKeys : List Str := ["<vlan>", "<port>", "<row>", "<queue>", "<mirror>"]
noncomputable def boundVals : List D := [pair 1 4094, pair 1 512, pair 1 9999, pair 0 7, pair 1 8]
theorem E_INDEX_BOUNDS (W : Wd c.w c.base mg mb) (hx : c.env.kindOf "INDEX_BOUNDS" = some .globalImplicit) (h : Q (.dic c.w.params boundKeys boundVals)) : SemE c (.Name "INDEX_BOUNDS" pos) ρ Q := by
  obtain ⟨v, e, r⟩ := dictAt_sound (K := frag c.w.params) (x := "INDEX_BOUNDS") (P := c.w.params) (ks := boundKeys) (ds := boundVals) (by kernel_rfl) (by kernel_rfl) (by kernel_rfl) W.X
  exact E_global hx W.G (mg_of W.X W.G e) (fun fz hb => r fz c.sr hb) (by decide +kernel) h
noncomputable def sh (p : List Str) (k : List D) : List Str × List D := (p, k)
noncomputable def shapeTab : List (List Str × List D) :=
  sh ["host"] [.str "name"] ::
  sh ["bridge", "priority"] [.str "number", .int 0, .int 61440, .int 4096] ::
  sh ["spanning", "mode"] [.str "word", .tup [.str "off", .str "old", .str "rapid", .str "mst"]] ::
  sh ["spanning", "hello"] [.str "number", .int 1, .int 10, .int 1] ::
  sh ["spanning", "age"] [.str "number", .int 6, .int 40, .int 1] ::
  sh ["spanning", "delay"] [.str "number", .int 4, .int 30, .int 1] ::
  sh ["spanning", "hold"] [.str "number", .int 1, .int 10, .int 1] ::
  sh ["region", "name"] [.str "name"] ::
  sh ["region", "revision"] [.str "number", .int 0, .int 65535, .int 1] ::
  sh ["map", "<vlan>", "instance"] [.str "number", .int 0, .int 64, .int 1] ::
  sh ["table", "age"] [.str "number", .int 10, .int 1000000, .int 1] ::
  sh ["table", "most"] [.str "number", .int 1, .int 65536, .int 1] ::
  sh ["vlan", "<vlan>", "kind"] [.str "word", .tup [.str "plain", .str "primary", .str "isolated", .str "community"]] ::
  sh ["vlan", "<vlan>", "name"] [.str "text"] ::
  sh ["vlan", "<vlan>", "fid"] [.str "number", .int 1, .int 4094, .int 1] ::
  sh ["vlan", "<vlan>", "primary"] [.str "number", .int 1, .int 4094, .int 1] ::
  sh ["port", "<port>", "up"] [.str "truth"] ::
  sh ["port", "<port>", "speed"] [.str "number", .int 10, .int 400000, .int 1] ::
  sh ["port", "<port>", "name"] [.str "text"] ::
  sh ["port", "<port>", "native"] [.str "number", .int 0, .int 4094, .int 1] ::
  sh ["port", "<port>", "tagged"] [.str "numbers", .int 1, .int 4094] ::
  sh ["port", "<port>", "untagged"] [.str "numbers", .int 1, .int 4094] ::
  sh ["port", "<port>", "admit"] [.str "word", .tup [.str "all", .str "tagged", .str "untagged"]] ::
  sh ["port", "<port>", "filter"] [.str "truth"] ::
  sh ["port", "<port>", "cost"] [.str "number", .int 1, .int 200000000, .int 1] ::
  sh ["port", "<port>", "priority"] [.str "number", .int 0, .int 240, .int 16] ::
  sh ["port", "<port>", "edge"] [.str "truth"] ::
  sh ["port", "<port>", "guard"] [.str "word", .tup [.str "none", .str "root", .str "bpdu", .str "loop"]] ::
  sh ["port", "<port>", "limit"] [.str "number", .int 0, .int 65536, .int 1] ::
  sh ["port", "<port>", "storm"] [.str "number", .int 0, .int 1000000000, .int 1] ::
  sh ["port", "<port>", "bundle"] [.str "number", .int 0, .int 128, .int 1] ::
  sh ["port", "<port>", "list"] [.str "name"] ::
  sh ["port", "<port>", "tunnel"] [.str "number", .int 0, .int 4094, .int 1] ::
  sh ["port", "<port>", "host"] [.str "number", .int 1, .int 4094, .int 1] ::
  sh ["port", "<port>", "promiscuous"] [.str "number", .int 1, .int 4094, .int 1] ::
  sh ["list", "<name>", "<row>"] [.str "text", .int 300] ::
  sh ["mirror", "<mirror>", "goal"] [.str "number", .int 1, .int 512, .int 1] ::
  sh ["mirror", "<mirror>", "received"] [.str "numbers", .int 1, .int 512] ::
  sh ["mirror", "<mirror>", "sent"] [.str "numbers", .int 1, .int 512] ::
  sh ["queue", "<queue>", "weight"] [.str "number", .int 0, .int 255, .int 1] ::
  sh ["lldp", "on"] [.str "truth"] ::
  sh ["lldp", "hold"] [.str "number", .int 2, .int 10, .int 1] ::
  sh ["snooping", "on"] [.str "truth"] :: []
noncomputable def shapesD : List D := shapeTab.map fun p => .tup [.tup (p.1.map .str), .tup p.2]
noncomputable def rowKeys : List Str := ["host", "bridge", "spanning", "region", "map", "table", "vlan", "port", "list", "mirror", "queue", "lldp", "snooping"]
noncomputable def rowsOf (x : Str) : List D := (shapeTab.zipIdx.filter fun q => q.1.1.head? == some x).map fun q => .tup [.int (q.2 : Int), .tup (q.1.1.map .str), .tup q.1.2]
noncomputable def rowVals : List D := rowKeys.map fun x => .lst (rowsOf x)
theorem E_SHAPE_ROWS (W : Wd c.w c.base mg mb) (hx : c.env.kindOf "SHAPE_ROWS" = some .globalImplicit) (h : Q (.dic c.w.params rowKeys rowVals)) : SemE c (.Name "SHAPE_ROWS" pos) ρ Q := by
  obtain ⟨v, e, r⟩ := dictAt_sound (K := frag c.w.params) (x := "SHAPE_ROWS") (P := c.w.params) (ks := rowKeys) (ds := rowVals) (by kernel_rfl) (by kernel_rfl) (by kernel_rfl) W.X
  exact E_global hx W.G (mg_of W.X W.G e) (fun fz hb => r fz c.sr hb) (by decide +kernel) h
noncomputable def globV (K : Frag) (x : Str) : Option D := match nsIn K mainGlobals x with | some (some v) => readV 8 K v | _ => none
theorem globV_sound {K : Frag} {base : Heap} {x : Str} {d : D} (e : globV K x = some d) (X : K.In base) : ∃ v, nsIn K mainGlobals x = some (some v) ∧ ∀ (fz : Fz) sr, (∀ a o, base.get? a = some o → fz a o) → Rd fz sr d v := by
  unfold globV at e
  split at e
  · rename_i v h; exact ⟨v, h, fun fz sr hb => readV_sound X hb 8 v d e⟩
  · cases e
theorem E_SHAPES (W : Wd c.w c.base mg mb) (hx : c.env.kindOf "SHAPES" = some .globalImplicit) (h : Q (.tup shapesD)) : SemE c (.Name "SHAPES" pos) ρ Q := by
  obtain ⟨v, e, r⟩ := globV_sound (K := frag c.w.params) (x := "SHAPES") (d := .tup shapesD) (by kernel_rfl) W.X
  exact E_global hx W.G (mg_of W.X W.G e) (fun fz hb => r fz c.sr hb) (by decide +kernel) h
theorem Src_rangeW {P : List D → Prop} (W : Wd c.w c.base mg mb) (hx : c.env.kindOf "range" = some .globalImplicit) (hst : starEach (e :: es) c.env = (false, eval e c.env) :: starEach es c.env) (hpl : ((backTo pos (starEach es c.env)).any fun x => x.1) = false)
    (h : SemL c pos (e :: es) ρ fun ds => ∃ a b : Int, ((ds = [.int b] ∧ a = 0) ∨ ds = [.int a, .int b]) ∧ -(2 ^ 62) ≤ a ∧ a < 2 ^ 62 ∧ -(2 ^ 62) ≤ b ∧ b < 2 ^ 62 ∧ P (intsD a (b - a).toNat)) : SrcIt c (.Call (.Name "range" p) (e :: es) [] pos) ρ P :=
  Src_range hx (by decide +kernel) W.G W.B W.range0 W.range1 hst hpl h
theorem E_dictW {keys : List (Option Expr)} {values : List Expr} (W : Wd c.w c.base mg mb) (hall : keys.all (·.isSome) = true) (hl : (keys.length == values.length) = true) (h0 : keys.isEmpty = false) (hlen : Nat.ble keys.length 15 = true)
    (h : SemP c pos keys values ρ fun xs ds => xs.Nodup ∧ Q (.dic c.w.params xs ds)) : SemE c (.Dict keys values pos) ρ Q :=
  E_dict W.G hall (eq_of_beq hl) (fun e => by rw [e] at h0; simp at h0) (Nat.le_of_ble_eq_true hlen) h
theorem E_callW {f : Str} {n : Nat} {sp : List D → (D → Prop) → Prop} (W : Wd c.w c.base mg mb) (F : FnAt c.prog c.w c.base mg f n sp) (hx : c.env.kindOf f = some .globalImplicit) (hd : (f == ("__debug__" : Str)) = false)
    (hn : Nat.ble n c.n = true) (hst : starEach (e :: es) c.env = (false, eval e c.env) :: starEach es c.env) (h : SemL c pos (e :: es) ρ fun ds => sp ds Q) : SemE c (.Call (.Name f p) (e :: es) [] pos) ρ Q :=
  E_call hx hd W.G F (Nat.le_of_ble_eq_true hn) hst h
theorem E_call0W {f : Str} {n : Nat} {sp : List D → (D → Prop) → Prop} (W : Wd c.w c.base mg mb) (F : FnAt c.prog c.w c.base mg f n sp) (hx : c.env.kindOf f = some .globalImplicit) (hd : (f == ("__debug__" : Str)) = false)
    (hn : Nat.ble n c.n = true) (h : sp [] Q) : SemE c (.Call (.Name f p) [] [] pos) ρ Q :=
  E_call0 hx hd W.G F (Nat.le_of_ble_eq_true hn) h
end
theorem mem10 : (⟨"is_whole", stParams (vst 10), stBody (vst 10), stScope (vst 10), stPos (vst 10)⟩ : DefRec) ∈ recsOf view := mem_vst 10 _ (by kernel_rfl) (by kernel_rfl)
theorem mem11 : (⟨"is_name", stParams (vst 11), stBody (vst 11), stScope (vst 11), stPos (vst 11)⟩ : DefRec) ∈ recsOf view := mem_vst 11 _ (by kernel_rfl) (by kernel_rfl)
theorem mem12 : (⟨"is_plain_text", stParams (vst 12), stBody (vst 12), stScope (vst 12), stPos (vst 12)⟩ : DefRec) ∈ recsOf view := mem_vst 12 _ (by kernel_rfl) (by kernel_rfl)
theorem mem13 : (⟨"fits_index", stParams (vst 13), stBody (vst 13), stScope (vst 13), stPos (vst 13)⟩ : DefRec) ∈ recsOf view := mem_vst 13 _ (by kernel_rfl) (by kernel_rfl)
theorem mem14 : (⟨"fits_shape", stParams (vst 14), stBody (vst 14), stScope (vst 14), stPos (vst 14)⟩ : DefRec) ∈ recsOf view := mem_vst 14 _ (by kernel_rfl) (by kernel_rfl)
theorem mem15 : (⟨"is_ascending", stParams (vst 15), stBody (vst 15), stScope (vst 15), stPos (vst 15)⟩ : DefRec) ∈ recsOf view := mem_vst 15 _ (by kernel_rfl) (by kernel_rfl)
theorem mem16 : (⟨"fits_kind", stParams (vst 16), stBody (vst 16), stScope (vst 16), stPos (vst 16)⟩ : DefRec) ∈ recsOf view := mem_vst 16 _ (by kernel_rfl) (by kernel_rfl)
theorem mem17 : (⟨"part_order", stParams (vst 17), stBody (vst 17), stScope (vst 17), stPos (vst 17)⟩ : DefRec) ∈ recsOf view := mem_vst 17 _ (by kernel_rfl) (by kernel_rfl)
theorem mem18 : (⟨"path_order", stParams (vst 18), stBody (vst 18), stScope (vst 18), stPos (vst 18)⟩ : DefRec) ∈ recsOf view := mem_vst 18 _ (by kernel_rfl) (by kernel_rfl)
theorem mem19 : (⟨"_law_pool", stParams (vst 19), stBody (vst 19), stScope (vst 19), stPos (vst 19)⟩ : DefRec) ∈ recsOf view := mem_vst 19 _ (by kernel_rfl) (by kernel_rfl)
theorem mem20 : (⟨"_law_take", stParams (vst 20), stBody (vst 20), stScope (vst 20), stPos (vst 20)⟩ : DefRec) ∈ recsOf view := mem_vst 20 _ (by kernel_rfl) (by kernel_rfl)
theorem mem21 : (⟨"_law_one", stParams (vst 21), stBody (vst 21), stScope (vst 21), stPos (vst 21)⟩ : DefRec) ∈ recsOf view := mem_vst 21 _ (by kernel_rfl) (by kernel_rfl)
theorem mem22 : (⟨"_law_is_name", stParams (vst 22), stBody (vst 22), stScope (vst 22), stPos (vst 22)⟩ : DefRec) ∈ recsOf view := mem_vst 22 _ (by kernel_rfl) (by kernel_rfl)
theorem mem23 : (⟨"_law_is_plain", stParams (vst 23), stBody (vst 23), stScope (vst 23), stPos (vst 23)⟩ : DefRec) ∈ recsOf view := mem_vst 23 _ (by kernel_rfl) (by kernel_rfl)
theorem mem24 : (⟨"_law_fits", stParams (vst 24), stBody (vst 24), stScope (vst 24), stPos (vst 24)⟩ : DefRec) ∈ recsOf view := mem_vst 24 _ (by kernel_rfl) (by kernel_rfl)
theorem mem25 : (⟨"_law_part", stParams (vst 25), stBody (vst 25), stScope (vst 25), stPos (vst 25)⟩ : DefRec) ∈ recsOf view := mem_vst 25 _ (by kernel_rfl) (by kernel_rfl)
theorem mem26 : (⟨"_law_texts_right", stParams (vst 26), stBody (vst 26), stScope (vst 26), stPos (vst 26)⟩ : DefRec) ∈ recsOf view := mem_vst 26 _ (by kernel_rfl) (by kernel_rfl)
theorem mem27 : (⟨"_law_shape_right", stParams (vst 27), stBody (vst 27), stScope (vst 27), stPos (vst 27)⟩ : DefRec) ∈ recsOf view := mem_vst 27 _ (by kernel_rfl) (by kernel_rfl)
theorem mem28 : (⟨"_law_thing", stParams (vst 28), stBody (vst 28), stScope (vst 28), stPos (vst 28)⟩ : DefRec) ∈ recsOf view := mem_vst 28 _ (by kernel_rfl) (by kernel_rfl)
theorem mem29 : (⟨"_law_kind_right", stParams (vst 29), stBody (vst 29), stScope (vst 29), stPos (vst 29)⟩ : DefRec) ∈ recsOf view := mem_vst 29 _ (by kernel_rfl) (by kernel_rfl)
theorem mem30 : (⟨"_law_part_key", stParams (vst 30), stBody (vst 30), stScope (vst 30), stPos (vst 30)⟩ : DefRec) ∈ recsOf view := mem_vst 30 _ (by kernel_rfl) (by kernel_rfl)
theorem mem31 : (⟨"_law_path", stParams (vst 31), stBody (vst 31), stScope (vst 31), stPos (vst 31)⟩ : DefRec) ∈ recsOf view := mem_vst 31 _ (by kernel_rfl) (by kernel_rfl)
theorem mem32 : (⟨"_law_orders_right", stParams (vst 32), stBody (vst 32), stScope (vst 32), stPos (vst 32)⟩ : DefRec) ∈ recsOf view := mem_vst 32 _ (by kernel_rfl) (by kernel_rfl)
theorem mem33 : (⟨"_law_told_right", stParams (vst 33), stBody (vst 33), stScope (vst 33), stPos (vst 33)⟩ : DefRec) ∈ recsOf view := mem_vst 33 _ (by kernel_rfl) (by kernel_rfl)
theorem mem34 : (⟨"law", stParams (vst 34), stBody (vst 34), stScope (vst 34), stPos (vst 34)⟩ : DefRec) ∈ recsOf view := mem_vst 34 _ (by kernel_rfl) (by kernel_rfl)

section
theorem rho_h1 {ρ : Rho} {y x1 : Str} {d d1 : D} (h : y ≠ x1) : ((ρ.set y d).set x1 d1) y = some d := rho_miss h rho_hit
theorem rho_h2 {ρ : Rho} {y x1 x2 : Str} {d d1 d2 : D} (h : y ≠ x1 ∧ y ≠ x2) : (((ρ.set y d).set x2 d2).set x1 d1) y = some d := rho_miss h.1 (rho_h1 h.2)
theorem rho_h3 {ρ : Rho} {y x1 x2 x3 : Str} {d d1 d2 d3 : D} (h : y ≠ x1 ∧ y ≠ x2 ∧ y ≠ x3) : ((((ρ.set y d).set x3 d3).set x2 d2).set x1 d1) y = some d := rho_miss h.1 (rho_h2 h.2)
theorem rho_h4 {ρ : Rho} {y x1 x2 x3 x4 : Str} {d d1 d2 d3 d4 : D} (h : y ≠ x1 ∧ y ≠ x2 ∧ y ≠ x3 ∧ y ≠ x4) : (((((ρ.set y d).set x4 d4).set x3 d3).set x2 d2).set x1 d1) y = some d := rho_miss h.1 (rho_h3 h.2)
theorem rho_a1 {ρ : Rho} {y x1 : Str} {d d1 : D} (h : y ≠ x1) (e : ρ y = some d) : ((ρ).set x1 d1) y = some d := rho_miss h e
theorem rho_a2 {ρ : Rho} {y x1 x2 : Str} {d d1 d2 : D} (h : y ≠ x1 ∧ y ≠ x2) (e : ρ y = some d) : (((ρ).set x2 d2).set x1 d1) y = some d := rho_miss h.1 (rho_a1 h.2 e)
theorem rho_a3 {ρ : Rho} {y x1 x2 x3 : Str} {d d1 d2 d3 : D} (h : y ≠ x1 ∧ y ≠ x2 ∧ y ≠ x3) (e : ρ y = some d) : ((((ρ).set x3 d3).set x2 d2).set x1 d1) y = some d := rho_miss h.1 (rho_a2 h.2 e)

-- P2
section
theorem fn_is_whole {w : World} {base : Heap} {mg mb : Str → Option Value} (W : Wd w base mg mb) : FnAt PySem.Challenge.rw_xm0979_01.prog w base mg "is_whole" 1 (fun ds Q => ∃ d, ds = [d] ∧ Q (.bool (d.isInt && !d.isBool))) := by
  obtain ⟨loose, mean, T⟩ := W.T
  refine fn_plain T mem10 ["worth"] (fun pm cd doc vs h => by match vs, h with | [v], _ => kernel_rfl) (by kernel_rfl) (by kernel_rfl) (by kernel_rfl) (by kernel_rfl) (by decide +kernel) (fun A L a cd sr fz s ds Q ⟨d, e, q⟩ => ?_)
  subst e
  refine ⟨rfl, ?_⟩
  rw [rhoOf1]
  conv => arg 2; whnf
  with_reducible
    refine B_cons ?_
    refine S_return ?_
    refine E_and ?_
    refine E_isi_int (by assumption) (by kernel_rfl) (by kernel_rfl) (by kernel_rfl) (by kernel_rfl) (by kernel_rfl) ?_
    refine E_local (by kernel_rfl!) rho_hit (by kernel_rfl) ?_
    refine ⟨_, rfl, ?_⟩
    refine And.intro ?_ ?_
    refine fun _ => ?_
    refine E_bool1 ?_
    refine E_not ?_
    refine E_isi_bool (by assumption) (by kernel_rfl) (by kernel_rfl) (by kernel_rfl) (by kernel_rfl) (by kernel_rfl) ?_
    refine E_local (by kernel_rfl!) rho_hit (by kernel_rfl) ?_
    refine ⟨_, rfl, ?_⟩
    rotate_left
    refine fun _ => ?_
    rotate_left
  all_goals simp_all


end

-- P3
section
noncomputable def inNames (c : Nat) : Bool := !(Builtin.Str.occurrences nameSigns ⟨#[c]⟩ 0 nameSigns.length 1).isEmpty
noncomputable def isName : D → Bool
  | .str x => decide (1 ≤ x.length) && decide (x.length ≤ 32) && x.cps.toList.all inNames
  | _ => false
noncomputable def D.c0 : D → Nat | .str s => s.cps.getD 0 0 | _ => 0
theorem filter_signs (p : Nat → Bool) (x : Str) : ((signsD x).filter fun d => !p d.c0).isEmpty = x.cps.toList.all p := by
  unfold signsD
  generalize x.cps.toList = l
  induction l with
  | nil => rfl
  | cons a l ih =>
    rw [List.map_cons, List.filter_cons]
    by_cases h : p a = true
    · have e : (!p (D.c0 (.str ⟨#[a]⟩))) = false := by show (!p a) = false; rw [h]; rfl
      rw [if_neg (by rw [e]; simp), List.all_cons, h, Bool.true_and]; exact ih
    · have e : (!p (D.c0 (.str ⟨#[a]⟩))) = true := by show (!p a) = true; simp [h]
      rw [if_pos e, List.all_cons]; simp [h]
theorem fn_is_name {w : World} {base : Heap} {mg mb : Str → Option Value} (W : Wd w base mg mb) : FnAt PySem.Challenge.rw_xm0979_01.prog w base mg "is_name" 1 (fun ds Q => ∃ d, ds = [d] ∧ TextOk d ∧ Q (.bool (isName d))) := by
  obtain ⟨loose, mean, T⟩ := W.T
  refine fn_plain T mem11 ["worth"] (fun pm cd doc vs h => by match vs, h with | [v], _ => kernel_rfl) (by kernel_rfl) (by kernel_rfl) (by kernel_rfl) (by kernel_rfl) (by decide +kernel) (fun A L a cd sr fz s ds Q ⟨d, e, hs, q⟩ => ?_)
  subst e
  refine ⟨rfl, ?_⟩
  rw [rhoOf1]
  conv => arg 2; whnf
  by_cases hx : ∃ x, d = .str x
  · obtain ⟨x, rfl⟩ := hx
    obtain ⟨hl, hk⟩ := hs x rfl
    with_reducible
      refine B_cons ?_
      refine S_if ?_
      refine C_or ?_
      refine C_not ?_
      refine C_val (by kernel_rfl) ?_
      refine E_isi_str (by assumption) (by kernel_rfl) (by kernel_rfl) (by kernel_rfl) (by kernel_rfl) (by kernel_rfl) ?_
      refine E_local (by kernel_rfl!) rho_hit (by kernel_rfl) ?_
      refine ⟨_, rfl, ?_⟩
      refine And.intro ?_ ?_
    with_reducible refine dead ?_
    rfl
    with_reducible
      refine fun _ => ?_
      refine C_or ?_
      refine C_not ?_
      refine C_chain (by kernel_rfl) ?_
      refine E_int ?_
      refine E_len (by assumption) (by kernel_rfl) (by kernel_rfl) (by kernel_rfl) ?_
      refine L_cons ?_ (by kernel_rfl)
      refine E_local (by kernel_rfl!) rho_hit (by kernel_rfl) ?_
      refine L_nil ?_
      refine L_len_str ?_ ?_
    assumption
    with_reducible
      refine O_le ?_
      refine ⟨_, rfl, ?_⟩
      refine And.intro ?_ ?_
      refine fun _ => ?_
      refine And.intro ?_ ?_
      refine fun _ => ?_
      refine And.intro ?_ ?_
      refine fun _ => ?_
      refine B_cons ?_
      refine S_return ?_
      refine E_bool ?_
      rotate_left
    with_reducible refine dead ?_
    rfl
    with_reducible refine dead ?_
    rfl
    with_reducible
      refine fun _ => ?_
      refine E_MOST_WORD (by assumption) (by kernel_rfl) ?_
      refine O_le ?_
      refine ⟨_, rfl, ?_⟩
      refine And.intro ?_ ?_
      refine fun _ => ?_
      refine And.intro ?_ ?_
      refine fun _ => ?_
      refine B_cons ?_
      refine S_return ?_
      refine E_bool ?_
      rotate_left
    with_reducible refine dead ?_
    rfl
    with_reducible
      refine fun _ => ?_
      refine C_or_nil ?_
      refine And.intro ?_ ?_
    with_reducible refine dead ?_
    rfl
    with_reducible
      refine fun _ => ?_
      refine B_nil ?_
      refine B_cons ?_
      refine S_return ?_
      refine E_cmp (by kernel_rfl) ?_
      refine E_comp (by intro _; kernel_rfl) (CompScope.of (by kernel_rfl) (by kernel_rfl)) ?_
      refine Src_of ?_
      refine E_local (by kernel_rfl!) rho_hit (by kernel_rfl) ?_
      refine SrcD.str ?_
      refine And.intro ?_ ?_
      rotate_left
      refine fun _ => ?_
      refine fun _ => ?_
      refine fun _ => ?_
      rotate_left
    all_goals try exact hl
    · refine qb q ?_; simp only [isName]; simp at *; omega
    · refine qb q ?_; simp only [isName]; simp at *; omega
    · rw [signs_len]; simp at *; omega
    · refine comp_filter (fun d => !inNames d.c0) id (fun _ => True) _ (fun d hd ρ _ rs => ?_) _ _ trivial ?_
      · simp only [signsD, List.mem_map] at hd
        obtain ⟨c, hc, rfl⟩ := hd
        with_reducible
          refine A_local (by kernel_rfl!) (by first | (simp; done) | (intro p e; cases e; dsimp only; decide +kernel)) ?_
          refine And.intro ?_ ?_
        assumption
        with_reducible
          refine T_one ?_
          refine C_cmp (by kernel_rfl) ?_
          refine E_local (by kernel_rfl!) rho_hit (by kernel_rfl) ?_
          refine E_NAME_SIGNS (by assumption) (by kernel_rfl) ?_
          refine O_notin_str ?_
          refine ⟨_, rfl, ?_⟩
          refine And.intro ?_ ?_
          rotate_left
          refine fun _ => ?_
          refine E_local (by kernel_rfl!) rho_hit (by kernel_rfl) ?_
        rfl
        all_goals first | trivial | simp [inNames, D.c0]
      · skip
        with_reducible
          refine E_list ?_ (by decide)
          refine L_nil ?_
          refine O_eq_nil ?_ ?_
          rotate_left
          rotate_left
        · intro d hd
          simp at hd
          exact signs_ok hk d hd.1
        · rw [List.nil_append, List.map_id, filter_signs]
          refine qb q ?_; simp only [isName]; simp at *; omega
  · have e : d.isStr = false := by cases d <;> first | rfl | exact absurd ⟨_, rfl⟩ hx
    have e2 : isName d = false := by cases d <;> first | rfl | exact absurd ⟨_, rfl⟩ hx
    rw [e2] at q
    with_reducible
      refine B_cons ?_
      refine S_if ?_
      refine C_or ?_
      refine C_not ?_
      refine C_val (by kernel_rfl) ?_
      refine E_isi_str (by assumption) (by kernel_rfl) (by kernel_rfl) (by kernel_rfl) (by kernel_rfl) (by kernel_rfl) ?_
      refine E_local (by kernel_rfl!) rho_hit (by kernel_rfl) ?_
      refine ⟨_, rfl, ?_⟩
      refine And.intro ?_ ?_
      refine fun _ => ?_
      refine And.intro ?_ ?_
      refine fun _ => ?_
      refine B_cons ?_
      refine S_return ?_
      refine E_bool ?_
    assumption
    with_reducible refine dead ?_
    rfl
    with_reducible refine dead_nt ?_
    assumption
    all_goals first | exact q | simp_all


end

-- P4
section
noncomputable def plainSign (c : Nat) : Bool := !decide ([c] < [32]) && !decide ([126] < [c])
noncomputable def isPlain (d : D) (most : Int) : Bool := match d with
  | .str x => decide ((x.length : Int) ≤ most) && x.cps.toList.all plainSign
  | _ => false
theorem fn_is_plain_text {w : World} {base : Heap} {mg mb : Str → Option Value} (W : Wd w base mg mb) : FnAt PySem.Challenge.rw_xm0979_01.prog w base mg "is_plain_text" 1 (fun ds Q => ∃ d most, ds = [d, .int most] ∧ most ≤ 100000 ∧ TextOk d ∧ Q (.bool (isPlain d most))) := by
  obtain ⟨loose, mean, T⟩ := W.T
  refine fn_plain T mem12 ["worth", "most"] (fun pm cd doc vs h => by match vs, h with | [v, u], _ => kernel_rfl) (by kernel_rfl) (by kernel_rfl) (by kernel_rfl) (by kernel_rfl) (by decide +kernel) (fun A L a cd sr fz s ds Q ⟨d, most, e, hm, hs, q⟩ => ?_)
  subst e
  refine ⟨rfl, ?_⟩
  rw [rhoOf2]
  conv => arg 2; whnf
  by_cases hx : ∃ x, d = .str x
  · obtain ⟨x, rfl⟩ := hx
    obtain ⟨hl, hk⟩ := hs x rfl
    with_reducible
      refine B_cons ?_
      refine S_if ?_
      refine C_or ?_
      refine C_not ?_
      refine C_val (by kernel_rfl) ?_
      refine E_isi_str (by assumption) (by kernel_rfl) (by kernel_rfl) (by kernel_rfl) (by kernel_rfl) (by kernel_rfl) ?_
      refine E_local (by kernel_rfl!) (rho_h1 (by decide +kernel)) (by kernel_rfl) ?_
      refine ⟨_, rfl, ?_⟩
      refine And.intro ?_ ?_
    with_reducible refine dead ?_
    rfl
    with_reducible
      refine fun _ => ?_
      refine C_or ?_
      refine C_cmp (by kernel_rfl) ?_
      refine E_len (by assumption) (by kernel_rfl) (by kernel_rfl) (by kernel_rfl) ?_
      refine L_cons ?_ (by kernel_rfl)
      refine E_local (by kernel_rfl!) (rho_h1 (by decide +kernel)) (by kernel_rfl) ?_
      refine L_nil ?_
      refine L_len_str ?_ ?_
    assumption
    with_reducible
      refine E_local (by kernel_rfl!) rho_hit (by kernel_rfl) ?_
      refine O_gt ?_
      refine ⟨_, rfl, ?_⟩
      refine And.intro ?_ ?_
      refine fun _ => ?_
      refine And.intro ?_ ?_
      refine fun _ => ?_
      refine B_cons ?_
      refine S_return ?_
      refine E_bool ?_
      rotate_left
    with_reducible refine dead ?_
    rfl
    with_reducible
      refine fun _ => ?_
      refine C_or_nil ?_
      refine And.intro ?_ ?_
    with_reducible refine dead ?_
    rfl
    with_reducible
      refine fun _ => ?_
      refine B_nil ?_
      refine B_cons ?_
      refine S_return ?_
      refine E_cmp (by kernel_rfl) ?_
      refine E_comp (by intro _; kernel_rfl) (CompScope.of (by kernel_rfl) (by kernel_rfl)) ?_
      refine Src_of ?_
      refine E_local (by kernel_rfl!) (rho_h1 (by decide +kernel)) (by kernel_rfl) ?_
      refine SrcD.str ?_
      refine And.intro ?_ ?_
      rotate_left
      refine fun _ => ?_
      refine fun _ => ?_
      refine fun _ => ?_
      rotate_left
    · refine qb q ?_; simp only [isPlain]; simp at *; omega
    · rw [signs_len]; simp at *; omega
    · refine comp_filter (fun d => !plainSign d.c0) id (fun _ => True) _ (fun d hd ρ _ rs => ?_) _ _ trivial ?_
      · simp only [signsD, List.mem_map] at hd
        obtain ⟨c, hc, rfl⟩ := hd
        with_reducible
          refine A_local (by kernel_rfl!) (by first | (simp; done) | (intro p e; cases e; dsimp only; decide +kernel)) ?_
          refine And.intro ?_ ?_
        assumption
        with_reducible
          refine T_one ?_
          refine C_not ?_
          refine C_chain (by kernel_rfl) ?_
          refine E_str ?_
          refine E_local (by kernel_rfl!) rho_hit (by kernel_rfl) ?_
          refine O_le_str ?_
          refine ⟨_, rfl, ?_⟩
          refine And.intro ?_ ?_
          refine fun _ => ?_
          refine And.intro ?_ ?_
          rotate_left
          refine fun _ => ?_
          refine E_local (by kernel_rfl!) rho_hit (by kernel_rfl) ?_
        rfl
        with_reducible
          refine fun _ => ?_
          refine E_str ?_
          refine O_le_str ?_
          refine ⟨_, rfl, ?_⟩
          refine And.intro ?_ ?_
          rotate_left
          refine fun _ => ?_
          refine E_local (by kernel_rfl!) rho_hit (by kernel_rfl) ?_
        rfl
        · rename_i hh
          have h2 : (!decide ([c] < [32])) = false := hh
          show (!false) = !plainSign c
          unfold plainSign; rw [h2]; rfl
        · rename_i hh
          have h2 : (!decide ([c] < [32])) = true := hh
          show (!!decide ([126] < [c])) = !plainSign c
          unfold plainSign; rw [h2]; rfl
      · skip
        with_reducible
          refine E_list ?_ (by decide)
          refine L_nil ?_
          refine O_eq_nil ?_ ?_
          rotate_left
          rotate_left
        · intro d hd
          simp at hd
          exact signs_ok hk d hd.1
        · rw [List.nil_append, List.map_id, filter_signs]
          refine qb q ?_; simp only [isPlain]; simp at *; omega
  · have e : d.isStr = false := by cases d <;> first | rfl | exact absurd ⟨_, rfl⟩ hx
    have e2 : isPlain d most = false := by cases d <;> first | rfl | exact absurd ⟨_, rfl⟩ hx
    rw [e2] at q
    with_reducible
      refine B_cons ?_
      refine S_if ?_
      refine C_or ?_
      refine C_not ?_
      refine C_val (by kernel_rfl) ?_
      refine E_isi_str (by assumption) (by kernel_rfl) (by kernel_rfl) (by kernel_rfl) (by kernel_rfl) (by kernel_rfl) ?_
      refine E_local (by kernel_rfl!) (rho_h1 (by decide +kernel)) (by kernel_rfl) ?_
      refine ⟨_, rfl, ?_⟩
      refine And.intro ?_ ?_
      refine fun _ => ?_
      refine And.intro ?_ ?_
      refine fun _ => ?_
      refine B_cons ?_
      refine S_return ?_
      refine E_bool ?_
    assumption
    with_reducible refine dead ?_
    rfl
    with_reducible refine dead_nt ?_
    assumption
    all_goals first | exact q | simp_all


end

-- P5
section
noncomputable def lawSign (c : Nat) : Bool := (decide ((48 : Int) ≤ (c : Int)) && decide ((c : Int) ≤ 57) || (decide ((65 : Int) ≤ (c : Int)) && decide ((c : Int) ≤ 90) || (decide ((97 : Int) ≤ (c : Int)) && decide ((c : Int) ≤ 122) || ((c : Int) == 45 || ((c : Int) == 95 || false)))))
noncomputable def lawName (x : Str) : Bool := x.cps.toList.all lawSign && decide (0 < x.length) && decide (x.length < 33)
theorem all_signs (p : Nat → Bool) (x : Str) : ((signsD x).all fun d => p d.c0) = x.cps.toList.all p := by
  unfold signsD
  generalize x.cps.toList = l
  induction l with
  | nil => rfl
  | cons a l ih => rw [List.map_cons, List.all_cons, List.all_cons, ih]; rfl
theorem fn_law_is_name {w : World} {base : Heap} {mg mb : Str → Option Value} (W : Wd w base mg mb) : FnAt PySem.Challenge.rw_xm0979_01.prog w base mg "_law_is_name" 1 (fun ds Q => ∃ x, ds = [.str x] ∧ x.length < 2 ^ 62 ∧ Q (.bool (lawName x))) := by
  obtain ⟨loose, mean, T⟩ := W.T
  refine fn_plain T mem22 ["text"] (fun pm cd doc vs h => by match vs, h with | [v], _ => kernel_rfl) (by kernel_rfl) (by kernel_rfl) (by kernel_rfl) (by kernel_rfl) (by decide +kernel) (fun A L a cd sr fz s ds Q ⟨x, e, hl, q⟩ => ?_)
  subst e
  refine ⟨rfl, ?_⟩
  rw [rhoOf1]
  conv => arg 2; whnf
  with_reducible
    refine B_cons ?_
    refine S_for (by intro _; kernel_rfl) ?_
    refine Src_of ?_
    refine E_local (by kernel_rfl!) rho_hit (by kernel_rfl) ?_
    refine SrcD.str ?_
    rotate_left
  refine turns_all (fun d => lawSign d.c0) (fun r => r = .bool false) (fun ρ => ρ "text" = some (.str x)) _ (fun d hd ρ hρ rs => ?_) (fun r hR ha => ?_) (fun ρ hρ ha => ?_) _ rho_hit
  · simp only [signsD, List.mem_map] at hd
    obtain ⟨c, hc, rfl⟩ := hd
    with_reducible
      refine A_local (by kernel_rfl!) (by first | (simp; done) | (intro p e; cases e; dsimp only; decide +kernel)) ?_
      refine B_cons ?_
      refine S_assign (by kernel_rfl!) ?_
      refine E_ord (by assumption) (by kernel_rfl) (by kernel_rfl) (by kernel_rfl) ?_
      refine L_cons ?_ (by kernel_rfl)
      refine E_local (by kernel_rfl!) rho_hit (by kernel_rfl) ?_
      refine L_nil ?_
      refine L_ord ?_ ?_
    rfl
    with_reducible
      refine N_local (by kernel_rfl!) (by first | (simp; done) | (intro p e; cases e; dsimp only; decide +kernel)) ?_
      refine B_cons ?_
      refine S_if ?_
      refine C_not ?_
    refine SemC.mono (C_or_eq (C_chain_eq 48 c 57 (by kernel_rfl) ?_ ?_ ?_) (C_or_eq (C_chain_eq 65 c 90 (by kernel_rfl) ?_ ?_ ?_) (C_or_eq (C_chain_eq 97 c 122 (by kernel_rfl) ?_ ?_ ?_) (C_or_eq (C_eqi c 45 (by kernel_rfl) ?_ ?_) (C_or_eq (C_eqi c 95 (by kernel_rfl) ?_ ?_) C_or_end))))) (fun b hb => ?_)
    with_reducible
      refine E_int ?_
      rfl
      refine E_local (by kernel_rfl!) rho_hit (by kernel_rfl) ?_
    rfl
    with_reducible
      refine E_int ?_
      rfl
      refine E_int ?_
      rfl
      refine E_local (by kernel_rfl!) rho_hit (by kernel_rfl) ?_
    rfl
    with_reducible
      refine E_int ?_
      rfl
      refine E_int ?_
      rfl
      refine E_local (by kernel_rfl!) rho_hit (by kernel_rfl) ?_
    rfl
    with_reducible
      refine E_int ?_
      rfl
      refine E_local (by kernel_rfl!) rho_hit (by kernel_rfl) ?_
    rfl
    with_reducible
      refine E_int ?_
      rfl
      refine E_local (by kernel_rfl!) rho_hit (by kernel_rfl) ?_
    rfl
    with_reducible
      refine E_int ?_
      rfl
      refine And.intro ?_ ?_
      refine fun _ => ?_
      refine B_cons ?_
      refine S_return ?_
      refine E_bool ?_
      refine And.intro ?_ ?_
      rotate_left
      rfl
      refine fun _ => ?_
      refine B_nil ?_
      refine B_nil ?_
      refine And.intro ?_ ?_
      rotate_left
      refine And.intro ?_ ?_
    assumption
    with_reducible
      rfl
    · have e : b = lawSign c := hb
      show lawSign c = false
      rw [← e]; rename_i h; simpa using h
    · have e : b = lawSign c := hb
      show lawSign c = true
      rw [← e]; rename_i h; simpa using h
  · subst hR; refine qb q ?_; rw [all_signs] at ha; simp only [lawName, ha, Bool.false_and]
  · rw [all_signs] at ha
    with_reducible
      refine B_cons ?_
      refine S_return ?_
      refine E_chain (by kernel_rfl) ?_
      refine E_int ?_
      refine E_len (by assumption) (by kernel_rfl) (by kernel_rfl) (by kernel_rfl) ?_
      refine L_cons ?_ (by kernel_rfl)
      refine E_local (by kernel_rfl!) (by assumption) (by kernel_rfl) ?_
      refine L_nil ?_
      refine L_len_str ?_ ?_
    assumption
    with_reducible
      refine O_lt ?_
      refine ⟨_, rfl, ?_⟩
      refine And.intro ?_ ?_
      refine fun _ => ?_
      rotate_left
      refine fun _ => ?_
      refine E_int ?_
      refine O_lt ?_
      rotate_left
    all_goals (refine qb q (Bool.eq_iff_iff.mpr ?_); simp only [lawName, ha]; simp at *; omega)


end

-- P6
section
noncomputable def lawPlainSign (c : Nat) : Bool := !(decide ((c : Int) < 32)) && !(decide ((126 : Int) < c))
noncomputable def lawPlain (x : Str) (most : Int) : Bool := decide ((x.length : Int) ≤ most) && x.cps.toList.all lawPlainSign
theorem fn_law_is_plain {w : World} {base : Heap} {mg mb : Str → Option Value} (W : Wd w base mg mb) : FnAt PySem.Challenge.rw_xm0979_01.prog w base mg "_law_is_plain" 1 (fun ds Q => ∃ x most, ds = [.str x, .int most] ∧ most ≤ 100000 ∧ x.length < 2 ^ 62 ∧ PyData.strOk x = true ∧ Q (.bool (lawPlain x most))) := by
  obtain ⟨loose, mean, T⟩ := W.T
  refine fn_plain T mem23 ["text", "most"] (fun pm cd doc vs h => by match vs, h with | [v, u], _ => kernel_rfl) (by kernel_rfl) (by kernel_rfl) (by kernel_rfl) (by kernel_rfl) (by decide +kernel) (fun A L a cd sr fz s ds Q ⟨x, most, e, hm, hl, hk, q⟩ => ?_)
  subst e
  refine ⟨rfl, ?_⟩
  rw [rhoOf2]
  conv => arg 2; whnf
  with_reducible
    refine B_cons ?_
    refine S_return ?_
    refine E_and ?_
    refine E_cmp (by kernel_rfl) ?_
    refine E_len (by assumption) (by kernel_rfl) (by kernel_rfl) (by kernel_rfl) ?_
    refine L_cons ?_ (by kernel_rfl)
    refine E_local (by kernel_rfl!) (rho_h1 (by decide +kernel)) (by kernel_rfl) ?_
    refine L_nil ?_
    refine L_len_str ?_ ?_
  assumption
  with_reducible
    refine E_local (by kernel_rfl!) rho_hit (by kernel_rfl) ?_
    refine O_le ?_
    refine ⟨_, rfl, ?_⟩
    refine And.intro ?_ ?_
    refine fun _ => ?_
    refine E_bool1 ?_
    refine E_cmp (by kernel_rfl) ?_
    refine E_comp (by intro _; kernel_rfl) (CompScope.of (by kernel_rfl) (by kernel_rfl)) ?_
    refine Src_of ?_
    refine E_local (by kernel_rfl!) (rho_h1 (by decide +kernel)) (by kernel_rfl) ?_
    refine SrcD.str ?_
    refine And.intro ?_ ?_
    rotate_left
    refine fun _ => ?_
    refine fun _ => ?_
    refine fun _ => ?_
    rotate_left
    refine fun _ => ?_
    rotate_left
  · rw [signs_len]; simp at *; omega
  · refine comp_filter (fun d => !lawPlainSign d.c0) id (fun _ => True) _ (fun d hd ρ _ rs => ?_) _ _ trivial ?_
    · simp only [signsD, List.mem_map] at hd
      obtain ⟨c, hc, rfl⟩ := hd
      with_reducible
        refine A_local (by kernel_rfl!) (by first | (simp; done) | (intro p e; cases e; dsimp only; decide +kernel)) ?_
        refine And.intro ?_ ?_
      assumption
      with_reducible
        refine T_one ?_
        refine C_or ?_
        refine C_cmp (by kernel_rfl) ?_
        refine E_ord (by assumption) (by kernel_rfl) (by kernel_rfl) (by kernel_rfl) ?_
        refine L_cons ?_ (by kernel_rfl)
        refine E_local (by kernel_rfl!) rho_hit (by kernel_rfl) ?_
        refine L_nil ?_
        refine L_ord ?_ ?_
      rfl
      with_reducible
        refine E_int ?_
        refine O_lt ?_
        refine ⟨_, rfl, ?_⟩
        refine And.intro ?_ ?_
        refine fun _ => ?_
        refine And.intro ?_ ?_
        rotate_left
        refine fun _ => ?_
        refine E_local (by kernel_rfl!) rho_hit (by kernel_rfl) ?_
      rfl
      with_reducible
        refine fun _ => ?_
        refine C_or ?_
        refine C_cmp (by kernel_rfl) ?_
        refine E_ord (by assumption) (by kernel_rfl) (by kernel_rfl) (by kernel_rfl) ?_
        refine L_cons ?_ (by kernel_rfl)
        refine E_local (by kernel_rfl!) rho_hit (by kernel_rfl) ?_
        refine L_nil ?_
        refine L_ord ?_ ?_
      rfl
      with_reducible
        refine E_int ?_
        refine O_gt ?_
        refine ⟨_, rfl, ?_⟩
        refine And.intro ?_ ?_
        refine fun _ => ?_
        refine And.intro ?_ ?_
        rotate_left
        refine fun _ => ?_
        refine E_local (by kernel_rfl!) rho_hit (by kernel_rfl) ?_
      rfl
      with_reducible
        refine fun _ => ?_
        refine C_or_nil ?_
        refine And.intro ?_ ?_
        rotate_left
        refine fun _ => ?_
        refine E_local (by kernel_rfl!) rho_hit (by kernel_rfl) ?_
      rfl
      · rename_i h
        have h : decide ((c : Int) < 32) = true := h
        show true = !lawPlainSign c
        simp only [lawPlainSign, h]; rfl
      · rename_i h h2
        have h : decide ((c : Int) < 32) = false := h
        have h2 : decide ((126 : Int) < c) = true := h2
        show true = !lawPlainSign c
        simp only [lawPlainSign, h, h2]; rfl
      · rename_i h h2
        have h : decide ((c : Int) < 32) = false := h
        have h2 : decide ((126 : Int) < c) = false := h2
        show false = !lawPlainSign c
        simp only [lawPlainSign, h, h2]; rfl
    · skip
      with_reducible
        refine E_list ?_ (by decide)
        refine L_nil ?_
        refine O_eq_nil ?_ ?_
        rotate_left
        rotate_left
      · intro d hd
        simp at hd
        exact signs_ok hk d hd.1
      · rw [List.nil_append, List.map_id, filter_signs]
        refine qb q ?_; simp only [lawPlain]; simp at *; omega
  · refine qb q ?_; simp only [lawPlain]; simp at *; omega


end

-- P7
section
noncomputable def boundsOf (wd : Str) : Int × Int := if wd = "<vlan>" then (1, 4094) else if wd = "<port>" then (1, 512) else if wd = "<row>" then (1, 9999) else if wd = "<queue>" then (0, 7) else (1, 8)
noncomputable def fitsIndex (wd : Str) (d : D) : Bool := if wd = "<name>" then isName d else match d with
  | .int i => decide ((boundsOf wd).1 ≤ i) && decide (i ≤ (boundsOf wd).2)
  | _ => false
noncomputable def angles : List Str := "<name>" :: boundKeys
theorem look_bounds {wd : Str} (h : wd ∈ boundKeys) : lookupD boundKeys boundVals wd = some (.tup [.int (boundsOf wd).1, .int (boundsOf wd).2]) ∧ PyData.strOk wd = true ∧ (wd == "<name>") = false := by
  simp only [boundKeys, List.mem_cons, List.not_mem_nil, or_false] at h
  rcases h with rfl | rfl | rfl | rfl | rfl
  · exact ⟨by kernel_rfl!, by kernel_rfl!, by kernel_rfl!⟩
  · exact ⟨by kernel_rfl!, by kernel_rfl!, by kernel_rfl!⟩
  · exact ⟨by kernel_rfl!, by kernel_rfl!, by kernel_rfl!⟩
  · exact ⟨by kernel_rfl!, by kernel_rfl!, by kernel_rfl!⟩
  · exact ⟨by kernel_rfl!, by kernel_rfl!, by kernel_rfl!⟩
theorem fn_fits_index {w : World} {base : Heap} {mg mb : Str → Option Value} (W : Wd w base mg mb) : FnAt PySem.Challenge.rw_xm0979_01.prog w base mg "fits_index" 2 (fun ds Q => ∃ wd d, ds = [.str wd, d] ∧ wd ∈ angles ∧ TextOk d ∧ Q (.bool (fitsIndex wd d))) := by
  have F1 := fn_is_whole W
  have F2 := fn_is_name W
  obtain ⟨loose, mean, T⟩ := W.T
  refine fn_plain T mem13 ["word", "part"] (fun pm cd doc vs h => by match vs, h with | [v, u], _ => kernel_rfl) (by kernel_rfl) (by kernel_rfl) (by kernel_rfl) (by kernel_rfl) (by decide +kernel) (fun A L a cd sr fz s ds Q ⟨wd, d, e, hw, hd, q⟩ => ?_)
  subst e
  refine ⟨rfl, ?_⟩
  rw [rhoOf2]
  conv => arg 2; whnf
  rcases List.mem_cons.mp hw with rfl | hw
  · skip
    with_reducible
      refine B_cons ?_
      refine S_if ?_
      refine C_cmp (by kernel_rfl) ?_
      refine E_local (by kernel_rfl!) (rho_h1 (by decide +kernel)) (by kernel_rfl) ?_
      refine E_str ?_
      refine O_eq_str (by first | assumption | kernel_rfl!) (by first | assumption | kernel_rfl!) ?_
      refine ⟨_, rfl, ?_⟩
      refine And.intro ?_ ?_
      refine fun _ => ?_
      refine B_cons ?_
      refine S_return ?_
      refine E_callW (by assumption) (by assumption) (by kernel_rfl) (by kernel_rfl) (by kernel_rfl) (by kernel_rfl) ?_
      refine L_cons ?_ (by kernel_rfl)
      refine E_local (by kernel_rfl!) rho_hit (by kernel_rfl) ?_
      refine L_nil ?_
      refine ⟨_, rfl, ?_⟩
      refine And.intro ?_ ?_
    assumption
    assumption
    with_reducible refine dead ?_
    rfl
  · obtain ⟨h1, h2, h3⟩ := look_bounds hw
    have hne : wd ≠ "<name>" := fun e => by rw [e] at h3; simp at h3
    by_cases hx : ∃ i, d = .int i
    · obtain ⟨i, rfl⟩ := hx
      have q : Q (.bool (decide ((boundsOf wd).1 ≤ i) && decide (i ≤ (boundsOf wd).2))) := by unfold fitsIndex at q; rw [if_neg hne] at q; exact q
      with_reducible
        refine B_cons ?_
        refine S_if ?_
        refine C_cmp (by kernel_rfl) ?_
        refine E_local (by kernel_rfl!) (rho_h1 (by decide +kernel)) (by kernel_rfl) ?_
        refine E_str ?_
        refine O_eq_str (by first | assumption | kernel_rfl!) (by first | assumption | kernel_rfl!) ?_
        refine ⟨_, rfl, ?_⟩
        refine And.intro ?_ ?_
      with_reducible refine dead_f ?_
      assumption
      with_reducible
        refine fun _ => ?_
        refine B_nil ?_
        refine B_cons ?_
        refine S_assignT (by kernel_rfl) (by kernel_rfl!) ?_
        refine E_index ?_
        refine E_INDEX_BOUNDS (by assumption) (by kernel_rfl) ?_
        refine E_local (by kernel_rfl!) (rho_h1 (by decide +kernel)) (by kernel_rfl) ?_
        refine O_dic_item (by intro _ _ _; kernel_rfl) (by assumption) ?_
        refine A_tuple (by kernel_rfl) (by kernel_rfl) ?_
        refine As_cons (by kernel_rfl) ?_
        refine A_local (by kernel_rfl!) (by first | (simp; done) | (intro p e; cases e; dsimp only; decide +kernel)) ?_
        refine As_cons (by kernel_rfl) ?_
        refine A_local (by kernel_rfl!) (by first | (simp; done) | (intro p e; cases e; dsimp only; decide +kernel)) ?_
        refine As_nil ?_
        refine B_cons ?_
        refine S_return ?_
        refine E_and ?_
        refine E_callW (by assumption) (by assumption) (by kernel_rfl) (by kernel_rfl) (by kernel_rfl) (by kernel_rfl) ?_
        refine L_cons ?_ (by kernel_rfl)
        refine E_local (by kernel_rfl!) (rho_h2 (by decide +kernel)) (by kernel_rfl) ?_
        refine L_nil ?_
        refine ⟨_, rfl, ?_⟩
        refine ⟨_, rfl, ?_⟩
        refine And.intro ?_ ?_
        refine fun _ => ?_
        refine E_bool1 ?_
        refine E_chain (by kernel_rfl) ?_
        refine E_local (by kernel_rfl!) (rho_h1 (by decide +kernel)) (by kernel_rfl) ?_
        refine E_local (by kernel_rfl!) (rho_h2 (by decide +kernel)) (by kernel_rfl) ?_
        refine O_le ?_
        refine ⟨_, rfl, ?_⟩
        refine And.intro ?_ ?_
        refine fun _ => ?_
        rotate_left
        refine fun _ => ?_
        refine E_local (by kernel_rfl!) rho_hit (by kernel_rfl) ?_
        refine O_le ?_
        rotate_left
      with_reducible refine dead ?_
      rfl
      · refine qb q ?_; rename_i h; rw [h]; rfl
      · refine qb q ?_; rename_i h; rw [h]; rfl
    · have e1 : (d.isInt && !d.isBool) = false := by cases d <;> first | rfl | exact absurd ⟨_, rfl⟩ hx
      have e2 : fitsIndex wd d = false := by
        unfold fitsIndex; rw [if_neg hne]
        cases d <;> first | rfl | exact absurd ⟨_, rfl⟩ hx
      rw [e2] at q
      with_reducible
        refine B_cons ?_
        refine S_if ?_
        refine C_cmp (by kernel_rfl) ?_
        refine E_local (by kernel_rfl!) (rho_h1 (by decide +kernel)) (by kernel_rfl) ?_
        refine E_str ?_
        refine O_eq_str (by first | assumption | kernel_rfl!) (by first | assumption | kernel_rfl!) ?_
        refine ⟨_, rfl, ?_⟩
        refine And.intro ?_ ?_
      with_reducible refine dead_f ?_
      assumption
      with_reducible
        refine fun _ => ?_
        refine B_nil ?_
        refine B_cons ?_
        refine S_assignT (by kernel_rfl) (by kernel_rfl!) ?_
        refine E_index ?_
        refine E_INDEX_BOUNDS (by assumption) (by kernel_rfl) ?_
        refine E_local (by kernel_rfl!) (rho_h1 (by decide +kernel)) (by kernel_rfl) ?_
        refine O_dic_item (by intro _ _ _; kernel_rfl) (by assumption) ?_
        refine A_tuple (by kernel_rfl) (by kernel_rfl) ?_
        refine As_cons (by kernel_rfl) ?_
        refine A_local (by kernel_rfl!) (by first | (simp; done) | (intro p e; cases e; dsimp only; decide +kernel)) ?_
        refine As_cons (by kernel_rfl) ?_
        refine A_local (by kernel_rfl!) (by first | (simp; done) | (intro p e; cases e; dsimp only; decide +kernel)) ?_
        refine As_nil ?_
        refine B_cons ?_
        refine S_return ?_
        refine E_and ?_
        refine E_callW (by assumption) (by assumption) (by kernel_rfl) (by kernel_rfl) (by kernel_rfl) (by kernel_rfl) ?_
        refine L_cons ?_ (by kernel_rfl)
        refine E_local (by kernel_rfl!) (rho_h2 (by decide +kernel)) (by kernel_rfl) ?_
        refine L_nil ?_
        refine ⟨_, rfl, ?_⟩
        refine ⟨_, rfl, ?_⟩
        refine And.intro ?_ ?_
      with_reducible refine dead_f ?_
      assumption
      with_reducible
        refine fun _ => ?_
      assumption


end

-- P8
section
noncomputable def lawFits (wd sort : Str) (d : D) : Bool := if wd = "<name>" then sort == "text" && (match d with | .str x => lawName x | _ => false) else sort == "number" && (match d with
  | .int i => decide ((boundsOf wd).1 ≤ i) && decide (i ≤ (boundsOf wd).2)
  | _ => false)
structure PartOk (sort : Str) (d : D) : Prop where
  sok : PyData.strOk sort = true
  text : (sort == "text") = true → ∃ x, d = .str x ∧ x.length < 2 ^ 62
  number : (sort == "number") = true → ∃ i, d = .int i
theorem fn_law_fits {w : World} {base : Heap} {mg mb : Str → Option Value} (W : Wd w base mg mb) : FnAt PySem.Challenge.rw_xm0979_01.prog w base mg "_law_fits" 2 (fun ds Q => ∃ wd sort d, ds = [.str wd, .tup [.str sort, d]] ∧ wd ∈ angles ∧ PartOk sort d ∧ Q (.bool (lawFits wd sort d))) := by
  have F1 := fn_law_is_name W
  obtain ⟨loose, mean, T⟩ := W.T
  refine fn_plain T mem24 ["word", "part"] (fun pm cd doc vs h => by match vs, h with | [v, u], _ => kernel_rfl) (by kernel_rfl) (by kernel_rfl) (by kernel_rfl) (by kernel_rfl) (by decide +kernel) (fun A L a cd sr fz s ds Q ⟨wd, sort, d, e, hw, ⟨h4, h5, h6⟩, q⟩ => ?_)
  subst e
  refine ⟨rfl, ?_⟩
  rw [rhoOf2]
  conv => arg 2; whnf
  rcases List.mem_cons.mp hw with rfl | hw
  · cases hs : (sort == ("text" : Str)) with
    | true =>
      obtain ⟨x, rfl, hl⟩ := h5 hs
      have q : Q (.bool (lawName x)) := by unfold lawFits at q; rw [if_pos rfl, hs] at q; exact q
      with_reducible
        refine B_cons ?_
        refine S_if ?_
        refine C_cmp (by kernel_rfl) ?_
        refine E_local (by kernel_rfl!) (rho_h1 (by decide +kernel)) (by kernel_rfl) ?_
        refine E_str ?_
        refine O_eq_str (by first | assumption | kernel_rfl!) (by first | assumption | kernel_rfl!) ?_
        refine ⟨_, rfl, ?_⟩
        refine And.intro ?_ ?_
        refine fun _ => ?_
        refine B_cons ?_
        refine S_return ?_
        refine E_and ?_
        refine E_cmp (by kernel_rfl) ?_
        refine E_index ?_
        refine E_local (by kernel_rfl!) rho_hit (by kernel_rfl) ?_
        refine E_int ?_
        refine O_tup0 (by intro _ _ _; kernel_rfl) ?_
        refine E_str ?_
        refine O_eq_str (by first | assumption | kernel_rfl!) (by first | assumption | kernel_rfl!) ?_
        refine ⟨_, rfl, ?_⟩
        refine And.intro ?_ ?_
        refine fun _ => ?_
        refine E_bool1 ?_
        refine E_callW (by assumption) (by assumption) (by kernel_rfl) (by kernel_rfl) (by kernel_rfl) (by kernel_rfl) ?_
        refine L_cons ?_ (by kernel_rfl)
        refine E_index ?_
        refine E_local (by kernel_rfl!) rho_hit (by kernel_rfl) ?_
        refine E_int ?_
        refine O_tup1 (by intro _ _ _; kernel_rfl) ?_
        refine L_nil ?_
        refine ⟨_, rfl, ?_⟩
        refine And.intro ?_ ?_
      assumption
      assumption
      with_reducible refine dead_t ?_
      assumption
      with_reducible refine dead ?_
      rfl
    | false =>
      have q : Q (.bool false) := by unfold lawFits at q; rw [if_pos rfl, hs] at q; exact q
      with_reducible
        refine B_cons ?_
        refine S_if ?_
        refine C_cmp (by kernel_rfl) ?_
        refine E_local (by kernel_rfl!) (rho_h1 (by decide +kernel)) (by kernel_rfl) ?_
        refine E_str ?_
        refine O_eq_str (by first | assumption | kernel_rfl!) (by first | assumption | kernel_rfl!) ?_
        refine ⟨_, rfl, ?_⟩
        refine And.intro ?_ ?_
        refine fun _ => ?_
        refine B_cons ?_
        refine S_return ?_
        refine E_and ?_
        refine E_cmp (by kernel_rfl) ?_
        refine E_index ?_
        refine E_local (by kernel_rfl!) rho_hit (by kernel_rfl) ?_
        refine E_int ?_
        refine O_tup0 (by intro _ _ _; kernel_rfl) ?_
        refine E_str ?_
        refine O_eq_str (by first | assumption | kernel_rfl!) (by first | assumption | kernel_rfl!) ?_
        refine ⟨_, rfl, ?_⟩
        refine And.intro ?_ ?_
      with_reducible refine dead_f ?_
      assumption
      with_reducible
        refine fun _ => ?_
      assumption
      with_reducible refine dead ?_
      rfl
  · obtain ⟨h1, h2, h3⟩ := look_bounds hw
    have hne : wd ≠ "<name>" := fun e => by rw [e] at h3; simp at h3
    with_reducible
      refine B_cons ?_
      refine S_if ?_
      refine C_cmp (by kernel_rfl) ?_
      refine E_local (by kernel_rfl!) (rho_h1 (by decide +kernel)) (by kernel_rfl) ?_
      refine E_str ?_
      refine O_eq_str (by first | assumption | kernel_rfl!) (by first | assumption | kernel_rfl!) ?_
      refine ⟨_, rfl, ?_⟩
      refine And.intro ?_ ?_
    with_reducible refine dead_f ?_
    assumption
    with_reducible
      refine fun _ => ?_
      refine B_nil ?_
      refine B_cons ?_
      refine S_assign (by kernel_rfl!) ?_
      refine E_dictW (by assumption) (by kernel_rfl) (by kernel_rfl) (by kernel_rfl) (by kernel_rfl) ?_
      refine P_cons ?_
      refine E_str ?_
      refine ⟨_, rfl, ?_⟩
      refine E_tuple ?_ (by decide)
      refine L_cons ?_ (by kernel_rfl)
      refine E_int ?_
      refine L_cons ?_ (by kernel_rfl)
      refine E_int ?_
      refine L_nil ?_
      refine P_cons ?_
      refine E_str ?_
      refine ⟨_, rfl, ?_⟩
      refine E_tuple ?_ (by decide)
      refine L_cons ?_ (by kernel_rfl)
      refine E_int ?_
      refine L_cons ?_ (by kernel_rfl)
      refine E_int ?_
      refine L_nil ?_
      refine P_cons ?_
      refine E_str ?_
      refine ⟨_, rfl, ?_⟩
      refine E_tuple ?_ (by decide)
      refine L_cons ?_ (by kernel_rfl)
      refine E_int ?_
      refine L_cons ?_ (by kernel_rfl)
      refine E_int ?_
      refine L_nil ?_
      refine P_cons ?_
      refine E_str ?_
      refine ⟨_, rfl, ?_⟩
      refine E_tuple ?_ (by decide)
      refine L_cons ?_ (by kernel_rfl)
      refine E_int ?_
      refine L_cons ?_ (by kernel_rfl)
      refine E_int ?_
      refine L_nil ?_
      refine P_cons ?_
      refine E_str ?_
      refine ⟨_, rfl, ?_⟩
      refine E_tuple ?_ (by decide)
      refine L_cons ?_ (by kernel_rfl)
      refine E_int ?_
      refine L_cons ?_ (by kernel_rfl)
      refine E_int ?_
      refine L_nil ?_
      refine P_nil ?_
      refine And.intro ?_ ?_
    with_reducible show List.Nodup _
    decide +kernel
    with_reducible
      refine N_local (by kernel_rfl!) (by first | (simp; done) | (intro p e; cases e; dsimp only; decide +kernel)) ?_
      refine B_cons ?_
      refine S_assignT (by kernel_rfl) (by kernel_rfl!) ?_
      refine E_index ?_
      refine E_local (by kernel_rfl!) rho_hit (by kernel_rfl) ?_
      refine E_local (by kernel_rfl!) (rho_h2 (by decide +kernel)) (by kernel_rfl) ?_
      rotate_left
    refine O_dic_item (d := .tup [.int (boundsOf wd).1, .int (boundsOf wd).2]) (by intro _ _ _; kernel_rfl) h1 ?_
    cases hs : (sort == ("number" : Str)) with
    | true =>
      obtain ⟨i, rfl⟩ := h6 hs
      have q : Q (.bool (decide ((boundsOf wd).1 ≤ i) && decide (i ≤ (boundsOf wd).2))) := by unfold lawFits at q; rw [if_neg hne, hs] at q; exact q
      with_reducible
        refine A_tuple (by kernel_rfl) (by kernel_rfl) ?_
        refine As_cons (by kernel_rfl) ?_
        refine A_local (by kernel_rfl!) (by first | (simp; done) | (intro p e; cases e; dsimp only; decide +kernel)) ?_
        refine As_cons (by kernel_rfl) ?_
        refine A_local (by kernel_rfl!) (by first | (simp; done) | (intro p e; cases e; dsimp only; decide +kernel)) ?_
        refine As_nil ?_
        refine B_cons ?_
        refine S_return ?_
        refine E_and ?_
        refine E_cmp (by kernel_rfl) ?_
        refine E_index ?_
        refine E_local (by kernel_rfl!) (rho_h3 (by decide +kernel)) (by kernel_rfl) ?_
        refine E_int ?_
        refine O_tup0 (by intro _ _ _; kernel_rfl) ?_
        refine E_str ?_
        refine O_eq_str (by first | assumption | kernel_rfl!) (by first | assumption | kernel_rfl!) ?_
        refine ⟨_, rfl, ?_⟩
        refine And.intro ?_ ?_
        refine fun _ => ?_
        refine E_bool1 ?_
        refine E_chain (by kernel_rfl) ?_
        refine E_local (by kernel_rfl!) (rho_h1 (by decide +kernel)) (by kernel_rfl) ?_
        refine E_index ?_
        refine E_local (by kernel_rfl!) (rho_h3 (by decide +kernel)) (by kernel_rfl) ?_
        refine E_int ?_
        refine O_tup1 (by intro _ _ _; kernel_rfl) ?_
        refine O_le ?_
        refine ⟨_, rfl, ?_⟩
        refine And.intro ?_ ?_
        refine fun _ => ?_
        rotate_left
        refine fun _ => ?_
        refine E_local (by kernel_rfl!) rho_hit (by kernel_rfl) ?_
        refine O_le ?_
        rotate_left
      with_reducible refine dead_t ?_
      assumption
      · refine qb q ?_; rename_i h; rw [h]; rfl
      · refine qb q ?_; rename_i h; rw [h]; rfl
    | false =>
      have q : Q (.bool false) := by unfold lawFits at q; rw [if_neg hne, hs] at q; exact q
      with_reducible
        refine A_tuple (by kernel_rfl) (by kernel_rfl) ?_
        refine As_cons (by kernel_rfl) ?_
        refine A_local (by kernel_rfl!) (by first | (simp; done) | (intro p e; cases e; dsimp only; decide +kernel)) ?_
        refine As_cons (by kernel_rfl) ?_
        refine A_local (by kernel_rfl!) (by first | (simp; done) | (intro p e; cases e; dsimp only; decide +kernel)) ?_
        refine As_nil ?_
        refine B_cons ?_
        refine S_return ?_
        refine E_and ?_
        refine E_cmp (by kernel_rfl) ?_
        refine E_index ?_
        refine E_local (by kernel_rfl!) (rho_h3 (by decide +kernel)) (by kernel_rfl) ?_
        refine E_int ?_
        refine O_tup0 (by intro _ _ _; kernel_rfl) ?_
        refine E_str ?_
        refine O_eq_str (by first | assumption | kernel_rfl!) (by first | assumption | kernel_rfl!) ?_
        refine ⟨_, rfl, ?_⟩
        refine And.intro ?_ ?_
      with_reducible refine dead_f ?_
      assumption
      with_reducible
        refine fun _ => ?_
      assumption


end

-- P9
section
theorem cellsFrom_has : ∀ {names : List (Str × NameKind)} {k : Nat} {cs : List (Str × Addr)} {x : Str}, (names.lookup x = some .cell ∨ (cs.lookup x).isSome = true) → ((cellsFrom k names cs).lookup x).isSome = true
  | [], k, cs, x, h => by
    rcases h with h | h
    · simp at h
    · simpa [cellsFrom] using h
  | (n, kd) :: r, k, cs, x, h => by
    rw [cellsFrom]
    have hc : ∀ a, (List.lookup x ((n, a) :: cs)).isSome = true ∨ (List.lookup x ((n, a) :: cs)) = cs.lookup x := fun a => by
      rw [List.lookup_cons]
      cases x == n
      · exact .inr rfl
      · exact .inl rfl
    rcases h with h | h
    · rw [List.lookup_cons] at h
      cases hx : x == n with
      | true =>
        rw [hx] at h
        cases h
        rw [if_pos (by rfl)]
        exact cellsFrom_has (.inr (by rw [List.lookup_cons, hx]; rfl))
      | false =>
        rw [hx] at h
        split
        · exact cellsFrom_has (.inl h)
        · exact cellsFrom_has (.inl h)
    · split
      · refine cellsFrom_has (.inr ?_)
        rcases hc k with q | q
        · exact q
        · rw [q]; exact h
      · exact cellsFrom_has (.inr h)
noncomputable def fallP (l : List Int) (d : D) : Bool := match d with
  | .int i => decide (l.getD i.toNat 0 ≤ l.getD (i - 1).toNat 0)
  | _ => false
noncomputable def ascB (l : List Int) : Bool := ((intsD 1 (l.length - 1)).filter (fallP l)).isEmpty
theorem O_tup_at {c : Cx} {Q : D → Prop} {value slice : Expr} {l : List Int} {k : Int} (hs : SubS slice) (h0 : 0 ≤ k) (h1 : k < l.length) (h2 : l.length < 2 ^ 62) (h : Q (.int (l.getD k.toNat 0))) : OpD c (subscriptTail value slice) (.tup (l.map .int)) (.int k) Q := by
  refine O_tup_item (j := k.toNat) (d := .int (l.getD k.toNat 0)) hs (by omega) (by omega) ?_ ?_ h
  · unfold seqIndex?
    simp only [show ¬ k < 0 by omega, if_false, List.length_map, decide_eq_true h0, decide_eq_true h1, Bool.and_self, if_true]
  · rw [List.getElem?_map]
    have : k.toNat < l.length := by omega
    simp [this]
theorem mem_ints {a : Int} {n : Nat} {d : D} (h : d ∈ intsD a n) : ∃ i, d = .int i ∧ a ≤ i ∧ i < a + n := by
  simp only [intsD, List.mem_map, List.mem_range] at h
  obtain ⟨j, hj, rfl⟩ := h
  exact ⟨_, rfl, by omega, by omega⟩
theorem fn_is_ascending {w : World} {base : Heap} {mg mb : Str → Option Value} (W : Wd w base mg mb) : FnAt PySem.Challenge.rw_xm0979_01.prog w base mg "is_ascending" 1 (fun ds Q => ∃ l : List Int, ds = [.tup (l.map .int)] ∧ l.length ≤ 100000 ∧ Q (.bool (ascB l))) := by
  obtain ⟨loose, mean, T⟩ := W.T
  refine fn_cells T mem15 "worth" (fun pm cd doc v => by kernel_rfl) (fun L => .inr ⟨by kernel_rfl, by kernel_rfl⟩) (fun L x h => cellsFrom_has (.inl h)) (by kernel_rfl) (by kernel_rfl) (by kernel_rfl) (fun A L a pm cd doc sr fz s d Q hq => ?_) (fun ds Q ⟨l, e, _⟩ => ⟨_, e⟩)
  obtain ⟨l, e, hl, q⟩ := hq
  cases e
  rw [rhoOf1]
  conv => arg 2; whnf
  with_reducible
    refine B_cons ?_
    refine S_return ?_
    refine E_cmp (by kernel_rfl) ?_
    refine E_comp (by intro _; kernel_rfl) (CompScope.of (by kernel_rfl) (by kernel_rfl)) ?_
    refine Src_rangeW (by assumption) (by kernel_rfl) (by kernel_rfl) (by kernel_rfl) ?_
    refine L_cons ?_ (by kernel_rfl)
    refine E_int ?_
    refine L_cons ?_ (by kernel_rfl)
    refine E_len (by assumption) (by kernel_rfl) (by kernel_rfl) (by kernel_rfl) ?_
    refine L_cons ?_ (by kernel_rfl)
    refine E_cell (by kernel_rfl!) rho_hit (by kernel_rfl) ?_
    refine L_nil ?_
    refine L_len_tup ?_ ?_
    rotate_left
    refine L_nil ?_
    rotate_left
  · rw [List.length_map]; omega
  · refine ⟨1, l.length, .inr (by rw [List.length_map]), by omega, by omega, by omega, by omega, ?_, fun C f s0 => ?_⟩
    · simp [intsD]; omega
    · have hn : ((l.length : Int) - 1).toNat = l.length - 1 := by omega
      rw [hn]
      refine comp_filter (fallP l) id (fun ρ => ρ "worth" = some (.tup (l.map .int))) _ (fun d hd ρ hρ rs => ?_) _ _ (rho_comp (by kernel_rfl) (by kernel_rfl) rho_hit) ?_
      · obtain ⟨i, rfl, h1, h2⟩ := mem_ints hd
        with_reducible
          refine A_local (by kernel_rfl!) (by first | (simp; done) | (intro p e; cases e; dsimp only; decide +kernel)) ?_
          refine And.intro ?_ ?_
        assumption
        with_reducible
          refine T_one ?_
          refine C_cmp (by kernel_rfl) ?_
          refine E_index ?_
          refine E_cell (by kernel_rfl!) (rho_a1 (by decide +kernel) (by assumption)) (by kernel_rfl) ?_
          refine E_local (by kernel_rfl!) rho_hit (by kernel_rfl) ?_
          refine O_tup_at (by intro _ _ _; kernel_rfl) ?_ ?_ ?_ ?_
          rotate_left
          rotate_left
          rotate_left
          refine E_index ?_
          refine E_cell (by kernel_rfl!) (rho_a1 (by decide +kernel) (by assumption)) (by kernel_rfl) ?_
          refine E_binop ?_
          refine E_local (by kernel_rfl!) rho_hit (by kernel_rfl) ?_
          refine E_int ?_
          refine O_sub ?_
          refine O_tup_at (by intro _ _ _; kernel_rfl) ?_ ?_ ?_ ?_
          rotate_left
          rotate_left
          rotate_left
          refine O_le ?_
          refine ⟨_, rfl, ?_⟩
          refine And.intro ?_ ?_
        rfl
        with_reducible
          refine fun _ => ?_
          refine E_local (by kernel_rfl!) rho_hit (by kernel_rfl) ?_
        rfl
        all_goals first | omega | rfl
      · skip
        with_reducible
          refine E_list ?_ (by decide)
          refine L_nil ?_
          refine O_eq_nil ?_ ?_
          rotate_left
          rotate_left
        · intro d hd
          simp at hd
          obtain ⟨i, rfl, _⟩ := mem_ints hd.1
          exact ⟨rfl, Nat.zero_le _⟩
        · rw [List.nil_append, List.map_id]; exact q


end

-- P10
section
inductive Kd where
  | truth | number (lo hi st : Int) | word (ws : List Str) | name | text (n : Option Int) | numbers (lo hi : Int)
noncomputable def Kd.d : Kd → D
  | .truth => .tup [.str "truth"]
  | .number lo hi st => .tup [.str "number", .int lo, .int hi, .int st]
  | .word ws => .tup [.str "word", .tup (ws.map .str)]
  | .name => .tup [.str "name"]
  | .text none => .tup [.str "text"]
  | .text (some n) => .tup [.str "text", .int n]
  | .numbers lo hi => .tup [.str "numbers", .int lo, .int hi]
noncomputable def Kd.Ok : Kd → Prop
  | .number _ _ st => st ≠ 0
  | .word ws => ∀ x ∈ ws, PyData.strOk x = true
  | .text (some n) => n ≤ 100000
  | _ => True
noncomputable def wholes : List D → Option (List Int)
  | [] => some []
  | .int i :: r => (wholes r).map (i :: ·)
  | _ :: _ => none
theorem wholes_some : ∀ {l : List D} {is : List Int}, wholes l = some is → l = is.map .int
  | [], is, h => by simp only [wholes, Option.some.injEq] at h; subst h; rfl
  | .int i :: r, is, h => by
    simp only [wholes, Option.map_eq_some_iff] at h
    obtain ⟨js, h, rfl⟩ := h
    rw [wholes_some h]; rfl
  | .none :: _, _, h | .bool _ :: _, _, h | .str _ :: _, _, h | .tup _ :: _, _, h | .lst _ :: _, _, h | .src :: _, _, h | .dic _ _ _ :: _, _, h => by simp [wholes] at h
theorem wholes_filter : ∀ (l : List D), ((l.filter fun d => !(d.isInt && !d.isBool)).isEmpty) = (wholes l).isSome
  | [] => rfl
  | .int i :: r => by
    have := wholes_filter r
    rw [List.filter_cons, if_neg (by simp [D.isInt, D.isBool]), this]
    simp [wholes]
  | .none :: r | .bool _ :: r | .str _ :: r | .tup _ :: r | .lst _ :: r | .src :: r | .dic _ _ _ :: r => by rw [List.filter_cons, if_pos (by rfl)]; rfl
noncomputable def rangeB (lo hi : Int) (is : List Int) : Bool := is.isEmpty || (decide (lo ≤ is.getD 0 0) && decide (is.getD (is.length - 1) 0 ≤ hi))
noncomputable def fitsKind (k : Kd) (d : D) : Bool := match k with
  | .truth => d.isBool
  | .number lo hi st => (match d with | .int i => decide (lo ≤ i) && decide (i ≤ hi) && (i.fmod st == 0) | _ => false)
  | .word ws => d.inn (ws.map .str)
  | .name => isName d
  | .text n => isPlain d (n.getD 120)
  | .numbers lo hi => (match d with | .tup l => (match wholes l with | some is => ascB is && rangeB lo hi is | none => false) | _ => false)
structure ThingOk (d : D) : Prop where
  fine : d.fine = true
  text : TextOk d
  tup : ∀ l, d = .tup l → l.length ≤ 100000 ∧ FineL l
theorem O_tup_last {c : Cx} {Q : D → Prop} {value slice : Expr} {l : List Int} (hs : SubS slice) (h0 : 0 < l.length) (h : Q (.int (l.getD (l.length - 1) 0))) : OpD c (subscriptTail value slice) (.tup (l.map .int)) (.int (-1)) Q := by
  refine O_tup_item (j := l.length - 1) (d := .int (l.getD (l.length - 1) 0)) hs (by omega) (by omega) ?_ ?_ h
  · unfold seqIndex?
    have e1 : (0 : Int) ≤ -1 + (l.length : Int) := by omega
    have e2 : -1 + (l.length : Int) < (l.length : Int) := by omega
    have e3 : (-1 + (l.length : Int)).toNat = l.length - 1 := by omega
    simp only [show (-1 : Int) < 0 by omega, if_true, List.length_map, decide_eq_true e1, decide_eq_true e2, Bool.and_self, e3]
  · rw [List.getElem?_map]
    have : l.length - 1 < l.length := by omega
    simp [this]
theorem O_eq_nilT {c : Cx} {Q : D → Prop} {l : List D} (h : FineL l) (q : Q (.bool l.isEmpty)) : OpD c (compareOp .Eq) (.tup l) (.tup []) Q :=
  O_eq (D.fine_tup h) (by rfl) (by rw [D.eq_nilT]; exact q)
theorem fn_fits_kind {w : World} {base : Heap} {mg mb : Str → Option Value} (W : Wd w base mg mb) : FnAt PySem.Challenge.rw_xm0979_01.prog w base mg "fits_kind" 2 (fun ds Q => ∃ k d, ds = [Kd.d k, d] ∧ k.Ok ∧ ThingOk d ∧ Q (.bool (fitsKind k d))) := by
  have F1 := fn_is_whole W
  have F2 := fn_is_name W
  have F3 := fn_is_plain_text W
  have F4 := fn_is_ascending W
  obtain ⟨loose, mean, T⟩ := W.T
  refine fn_plain T mem16 ["kind", "worth"] (fun pm cd doc vs h => by match vs, h with | [v, u], _ => kernel_rfl) (by kernel_rfl) (by kernel_rfl) (by kernel_rfl) (by kernel_rfl) (by decide +kernel) (fun A L a cd sr fz s ds Q ⟨k, d, e, hk, hd, q⟩ => ?_)
  subst e
  refine ⟨rfl, ?_⟩
  rw [rhoOf2]
  conv => arg 2; whnf
  have h1 := hd.fine
  have h2 := hd.text
  cases k with
  | truth =>
    dsimp only [Kd.d]
    with_reducible
      refine B_cons ?_
      refine S_if ?_
      refine C_cmp (by kernel_rfl) ?_
      refine E_index ?_
      refine E_local (by kernel_rfl!) (rho_h1 (by decide +kernel)) (by kernel_rfl) ?_
      refine E_int ?_
      refine O_tup0 (by intro _ _ _; kernel_rfl) ?_
      refine E_str ?_
      refine O_eq_str (by first | assumption | kernel_rfl!) (by first | assumption | kernel_rfl!) ?_
      refine ⟨_, rfl, ?_⟩
      refine And.intro ?_ ?_
      refine fun _ => ?_
      refine B_cons ?_
      refine S_return ?_
      refine E_isi_bool (by assumption) (by kernel_rfl) (by kernel_rfl) (by kernel_rfl) (by kernel_rfl) (by kernel_rfl) ?_
      refine E_local (by kernel_rfl!) rho_hit (by kernel_rfl) ?_
    assumption
    with_reducible refine dead ?_
    rfl
  | number lo hi st =>
    dsimp only [Kd.d]
    have hst : st ≠ 0 := hk
    by_cases hx : ∃ i, d = .int i
    · obtain ⟨i, rfl⟩ := hx
      have q : Q (.bool (decide (lo ≤ i) && decide (i ≤ hi) && (i.fmod st == 0))) := q
      with_reducible
        refine B_cons ?_
        refine S_if ?_
        refine C_cmp (by kernel_rfl) ?_
        refine E_index ?_
        refine E_local (by kernel_rfl!) (rho_h1 (by decide +kernel)) (by kernel_rfl) ?_
        refine E_int ?_
        refine O_tup0 (by intro _ _ _; kernel_rfl) ?_
        refine E_str ?_
        refine O_eq_str (by first | assumption | kernel_rfl!) (by first | assumption | kernel_rfl!) ?_
        refine ⟨_, rfl, ?_⟩
        refine And.intro ?_ ?_
      with_reducible refine dead ?_
      rfl
      with_reducible
        refine fun _ => ?_
        refine B_nil ?_
        refine B_cons ?_
        refine S_if ?_
        refine C_cmp (by kernel_rfl) ?_
        refine E_index ?_
        refine E_local (by kernel_rfl!) (rho_h1 (by decide +kernel)) (by kernel_rfl) ?_
        refine E_int ?_
        refine O_tup0 (by intro _ _ _; kernel_rfl) ?_
        refine E_str ?_
        refine O_eq_str (by first | assumption | kernel_rfl!) (by first | assumption | kernel_rfl!) ?_
        refine ⟨_, rfl, ?_⟩
        refine And.intro ?_ ?_
        refine fun _ => ?_
        refine B_cons ?_
        refine S_return ?_
        refine E_and ?_
        refine E_callW (by assumption) (by assumption) (by kernel_rfl) (by kernel_rfl) (by kernel_rfl) (by kernel_rfl) ?_
        refine L_cons ?_ (by kernel_rfl)
        refine E_local (by kernel_rfl!) rho_hit (by kernel_rfl) ?_
        refine L_nil ?_
        refine ⟨_, rfl, ?_⟩
        refine ⟨_, rfl, ?_⟩
        refine And.intro ?_ ?_
        refine fun _ => ?_
        refine E_and ?_
        refine E_chain (by kernel_rfl) ?_
        refine E_index ?_
        refine E_local (by kernel_rfl!) (rho_h1 (by decide +kernel)) (by kernel_rfl) ?_
        refine E_int ?_
        refine O_tup1 (by intro _ _ _; kernel_rfl) ?_
        refine E_local (by kernel_rfl!) rho_hit (by kernel_rfl) ?_
        refine O_le ?_
        refine ⟨_, rfl, ?_⟩
        refine And.intro ?_ ?_
        refine fun _ => ?_
        refine ⟨_, rfl, ?_⟩
        refine And.intro ?_ ?_
      with_reducible refine dead ?_
      rfl
      with_reducible
        refine fun _ => ?_
        rotate_left
        refine fun _ => ?_
        refine E_index ?_
        refine E_local (by kernel_rfl!) (rho_h1 (by decide +kernel)) (by kernel_rfl) ?_
        refine E_int ?_
        refine O_tup2 (by intro _ _ _; kernel_rfl) ?_
        refine O_le ?_
        refine ⟨_, rfl, ?_⟩
        refine And.intro ?_ ?_
        refine fun _ => ?_
        refine E_bool1 ?_
        refine E_cmp (by kernel_rfl) ?_
        refine E_binop ?_
        refine E_local (by kernel_rfl!) rho_hit (by kernel_rfl) ?_
        refine E_index ?_
        refine E_local (by kernel_rfl!) (rho_h1 (by decide +kernel)) (by kernel_rfl) ?_
        refine E_int ?_
        refine O_tup3 (by intro _ _ _; kernel_rfl) ?_
        refine O_mod (by assumption) ?_
        refine E_int ?_
        refine O_eq_int ?_
        rotate_left
        refine fun _ => ?_
        rotate_left
      with_reducible refine dead ?_
      rfl
      with_reducible refine dead ?_
      rfl
      all_goals (refine qb q ?_; simp_all)
      all_goals (intros; omega)
    · have e1 : (d.isInt && !d.isBool) = false := by cases d <;> first | rfl | exact absurd ⟨_, rfl⟩ hx
      have e2 : fitsKind (.number lo hi st) d = false := by cases d <;> first | rfl | exact absurd ⟨_, rfl⟩ hx
      rw [e2] at q
      with_reducible
        refine B_cons ?_
        refine S_if ?_
        refine C_cmp (by kernel_rfl) ?_
        refine E_index ?_
        refine E_local (by kernel_rfl!) (rho_h1 (by decide +kernel)) (by kernel_rfl) ?_
        refine E_int ?_
        refine O_tup0 (by intro _ _ _; kernel_rfl) ?_
        refine E_str ?_
        refine O_eq_str (by first | assumption | kernel_rfl!) (by first | assumption | kernel_rfl!) ?_
        refine ⟨_, rfl, ?_⟩
        refine And.intro ?_ ?_
      with_reducible refine dead ?_
      rfl
      with_reducible
        refine fun _ => ?_
        refine B_nil ?_
        refine B_cons ?_
        refine S_if ?_
        refine C_cmp (by kernel_rfl) ?_
        refine E_index ?_
        refine E_local (by kernel_rfl!) (rho_h1 (by decide +kernel)) (by kernel_rfl) ?_
        refine E_int ?_
        refine O_tup0 (by intro _ _ _; kernel_rfl) ?_
        refine E_str ?_
        refine O_eq_str (by first | assumption | kernel_rfl!) (by first | assumption | kernel_rfl!) ?_
        refine ⟨_, rfl, ?_⟩
        refine And.intro ?_ ?_
        refine fun _ => ?_
        refine B_cons ?_
        refine S_return ?_
        refine E_and ?_
        refine E_callW (by assumption) (by assumption) (by kernel_rfl) (by kernel_rfl) (by kernel_rfl) (by kernel_rfl) ?_
        refine L_cons ?_ (by kernel_rfl)
        refine E_local (by kernel_rfl!) rho_hit (by kernel_rfl) ?_
        refine L_nil ?_
        refine ⟨_, rfl, ?_⟩
        refine ⟨_, rfl, ?_⟩
        refine And.intro ?_ ?_
      with_reducible refine dead_f ?_
      assumption
      with_reducible
        refine fun _ => ?_
      assumption
      with_reducible refine dead ?_
      rfl
  | word ws =>
    dsimp only [Kd.d]
    have hw : (D.tup (ws.map .str)).fine = true := D.fine_tup fun e he => by
      obtain ⟨x, hx, rfl⟩ := List.mem_map.mp he
      exact ⟨hk x hx, Nat.zero_le _⟩
    with_reducible
      refine B_cons ?_
      refine S_if ?_
      refine C_cmp (by kernel_rfl) ?_
      refine E_index ?_
      refine E_local (by kernel_rfl!) (rho_h1 (by decide +kernel)) (by kernel_rfl) ?_
      refine E_int ?_
      refine O_tup0 (by intro _ _ _; kernel_rfl) ?_
      refine E_str ?_
      refine O_eq_str (by first | assumption | kernel_rfl!) (by first | assumption | kernel_rfl!) ?_
      refine ⟨_, rfl, ?_⟩
      refine And.intro ?_ ?_
    with_reducible refine dead ?_
    rfl
    with_reducible
      refine fun _ => ?_
      refine B_nil ?_
      refine B_cons ?_
      refine S_if ?_
      refine C_cmp (by kernel_rfl) ?_
      refine E_index ?_
      refine E_local (by kernel_rfl!) (rho_h1 (by decide +kernel)) (by kernel_rfl) ?_
      refine E_int ?_
      refine O_tup0 (by intro _ _ _; kernel_rfl) ?_
      refine E_str ?_
      refine O_eq_str (by first | assumption | kernel_rfl!) (by first | assumption | kernel_rfl!) ?_
      refine ⟨_, rfl, ?_⟩
      refine And.intro ?_ ?_
    with_reducible refine dead ?_
    rfl
    with_reducible
      refine fun _ => ?_
      refine B_nil ?_
      refine B_cons ?_
      refine S_if ?_
      refine C_cmp (by kernel_rfl) ?_
      refine E_index ?_
      refine E_local (by kernel_rfl!) (rho_h1 (by decide +kernel)) (by kernel_rfl) ?_
      refine E_int ?_
      refine O_tup0 (by intro _ _ _; kernel_rfl) ?_
      refine E_str ?_
      refine O_eq_str (by first | assumption | kernel_rfl!) (by first | assumption | kernel_rfl!) ?_
      refine ⟨_, rfl, ?_⟩
      refine And.intro ?_ ?_
      refine fun _ => ?_
      refine B_cons ?_
      refine S_return ?_
      refine E_cmp (by kernel_rfl) ?_
      refine E_local (by kernel_rfl!) rho_hit (by kernel_rfl) ?_
      refine E_index ?_
      refine E_local (by kernel_rfl!) (rho_h1 (by decide +kernel)) (by kernel_rfl) ?_
      refine E_int ?_
      refine O_tup1 (by intro _ _ _; kernel_rfl) ?_
      refine O_in_tup ?_ ?_ ?_
    assumption
    assumption
    assumption
    with_reducible refine dead ?_
    rfl
  | name =>
    dsimp only [Kd.d]
    with_reducible
      refine B_cons ?_
      refine S_if ?_
      refine C_cmp (by kernel_rfl) ?_
      refine E_index ?_
      refine E_local (by kernel_rfl!) (rho_h1 (by decide +kernel)) (by kernel_rfl) ?_
      refine E_int ?_
      refine O_tup0 (by intro _ _ _; kernel_rfl) ?_
      refine E_str ?_
      refine O_eq_str (by first | assumption | kernel_rfl!) (by first | assumption | kernel_rfl!) ?_
      refine ⟨_, rfl, ?_⟩
      refine And.intro ?_ ?_
    with_reducible refine dead ?_
    rfl
    with_reducible
      refine fun _ => ?_
      refine B_nil ?_
      refine B_cons ?_
      refine S_if ?_
      refine C_cmp (by kernel_rfl) ?_
      refine E_index ?_
      refine E_local (by kernel_rfl!) (rho_h1 (by decide +kernel)) (by kernel_rfl) ?_
      refine E_int ?_
      refine O_tup0 (by intro _ _ _; kernel_rfl) ?_
      refine E_str ?_
      refine O_eq_str (by first | assumption | kernel_rfl!) (by first | assumption | kernel_rfl!) ?_
      refine ⟨_, rfl, ?_⟩
      refine And.intro ?_ ?_
    with_reducible refine dead ?_
    rfl
    with_reducible
      refine fun _ => ?_
      refine B_nil ?_
      refine B_cons ?_
      refine S_if ?_
      refine C_cmp (by kernel_rfl) ?_
      refine E_index ?_
      refine E_local (by kernel_rfl!) (rho_h1 (by decide +kernel)) (by kernel_rfl) ?_
      refine E_int ?_
      refine O_tup0 (by intro _ _ _; kernel_rfl) ?_
      refine E_str ?_
      refine O_eq_str (by first | assumption | kernel_rfl!) (by first | assumption | kernel_rfl!) ?_
      refine ⟨_, rfl, ?_⟩
      refine And.intro ?_ ?_
    with_reducible refine dead ?_
    rfl
    with_reducible
      refine fun _ => ?_
      refine B_nil ?_
      refine B_cons ?_
      refine S_if ?_
      refine C_cmp (by kernel_rfl) ?_
      refine E_index ?_
      refine E_local (by kernel_rfl!) (rho_h1 (by decide +kernel)) (by kernel_rfl) ?_
      refine E_int ?_
      refine O_tup0 (by intro _ _ _; kernel_rfl) ?_
      refine E_str ?_
      refine O_eq_str (by first | assumption | kernel_rfl!) (by first | assumption | kernel_rfl!) ?_
      refine ⟨_, rfl, ?_⟩
      refine And.intro ?_ ?_
      refine fun _ => ?_
      refine B_cons ?_
      refine S_return ?_
      refine E_callW (by assumption) (by assumption) (by kernel_rfl) (by kernel_rfl) (by kernel_rfl) (by kernel_rfl) ?_
      refine L_cons ?_ (by kernel_rfl)
      refine E_local (by kernel_rfl!) rho_hit (by kernel_rfl) ?_
      refine L_nil ?_
      refine ⟨_, rfl, ?_⟩
      refine And.intro ?_ ?_
    assumption
    assumption
    with_reducible refine dead ?_
    rfl
  | text n =>
    cases n with
    | none =>
      dsimp only [Kd.d]
      with_reducible
        refine B_cons ?_
        refine S_if ?_
        refine C_cmp (by kernel_rfl) ?_
        refine E_index ?_
        refine E_local (by kernel_rfl!) (rho_h1 (by decide +kernel)) (by kernel_rfl) ?_
        refine E_int ?_
        refine O_tup0 (by intro _ _ _; kernel_rfl) ?_
        refine E_str ?_
        refine O_eq_str (by first | assumption | kernel_rfl!) (by first | assumption | kernel_rfl!) ?_
        refine ⟨_, rfl, ?_⟩
        refine And.intro ?_ ?_
      with_reducible refine dead ?_
      rfl
      with_reducible
        refine fun _ => ?_
        refine B_nil ?_
        refine B_cons ?_
        refine S_if ?_
        refine C_cmp (by kernel_rfl) ?_
        refine E_index ?_
        refine E_local (by kernel_rfl!) (rho_h1 (by decide +kernel)) (by kernel_rfl) ?_
        refine E_int ?_
        refine O_tup0 (by intro _ _ _; kernel_rfl) ?_
        refine E_str ?_
        refine O_eq_str (by first | assumption | kernel_rfl!) (by first | assumption | kernel_rfl!) ?_
        refine ⟨_, rfl, ?_⟩
        refine And.intro ?_ ?_
      with_reducible refine dead ?_
      rfl
      with_reducible
        refine fun _ => ?_
        refine B_nil ?_
        refine B_cons ?_
        refine S_if ?_
        refine C_cmp (by kernel_rfl) ?_
        refine E_index ?_
        refine E_local (by kernel_rfl!) (rho_h1 (by decide +kernel)) (by kernel_rfl) ?_
        refine E_int ?_
        refine O_tup0 (by intro _ _ _; kernel_rfl) ?_
        refine E_str ?_
        refine O_eq_str (by first | assumption | kernel_rfl!) (by first | assumption | kernel_rfl!) ?_
        refine ⟨_, rfl, ?_⟩
        refine And.intro ?_ ?_
      with_reducible refine dead ?_
      rfl
      with_reducible
        refine fun _ => ?_
        refine B_nil ?_
        refine B_cons ?_
        refine S_if ?_
        refine C_cmp (by kernel_rfl) ?_
        refine E_index ?_
        refine E_local (by kernel_rfl!) (rho_h1 (by decide +kernel)) (by kernel_rfl) ?_
        refine E_int ?_
        refine O_tup0 (by intro _ _ _; kernel_rfl) ?_
        refine E_str ?_
        refine O_eq_str (by first | assumption | kernel_rfl!) (by first | assumption | kernel_rfl!) ?_
        refine ⟨_, rfl, ?_⟩
        refine And.intro ?_ ?_
      with_reducible refine dead ?_
      rfl
      with_reducible
        refine fun _ => ?_
        refine B_nil ?_
        refine B_cons ?_
        refine S_if ?_
        refine C_cmp (by kernel_rfl) ?_
        refine E_index ?_
        refine E_local (by kernel_rfl!) (rho_h1 (by decide +kernel)) (by kernel_rfl) ?_
        refine E_int ?_
        refine O_tup0 (by intro _ _ _; kernel_rfl) ?_
        refine E_str ?_
        refine O_eq_str (by first | assumption | kernel_rfl!) (by first | assumption | kernel_rfl!) ?_
        refine ⟨_, rfl, ?_⟩
        refine And.intro ?_ ?_
        refine fun _ => ?_
        refine B_cons ?_
        refine S_return ?_
        refine E_callW (by assumption) (by assumption) (by kernel_rfl) (by kernel_rfl) (by kernel_rfl) (by kernel_rfl) ?_
        refine L_cons ?_ (by kernel_rfl)
        refine E_local (by kernel_rfl!) rho_hit (by kernel_rfl) ?_
        refine L_cons ?_ (by kernel_rfl)
        refine E_ifexp ?_
        refine C_cmp (by kernel_rfl) ?_
        refine E_len (by assumption) (by kernel_rfl) (by kernel_rfl) (by kernel_rfl) ?_
        refine L_cons ?_ (by kernel_rfl)
        refine E_local (by kernel_rfl!) (rho_h1 (by decide +kernel)) (by kernel_rfl) ?_
        refine L_nil ?_
        refine L_len_tup ?_ ?_
        rotate_left
        refine E_int ?_
        refine O_gt ?_
        refine ⟨_, rfl, ?_⟩
        refine And.intro ?_ ?_
      with_reducible refine dead ?_
      rfl
      with_reducible
        refine fun _ => ?_
        refine E_MOST_TEXT (by assumption) (by kernel_rfl) ?_
        refine L_nil ?_
        refine ⟨_, _, rfl, ?_⟩
        refine And.intro ?_ ?_
        rotate_left
        refine And.intro ?_ ?_
      assumption
      assumption
      with_reducible refine dead ?_
      rfl
      all_goals first | decide | (simp; done)
    | some n =>
      have hn : n ≤ 100000 := hk
      dsimp only [Kd.d]
      with_reducible
        refine B_cons ?_
        refine S_if ?_
        refine C_cmp (by kernel_rfl) ?_
        refine E_index ?_
        refine E_local (by kernel_rfl!) (rho_h1 (by decide +kernel)) (by kernel_rfl) ?_
        refine E_int ?_
        refine O_tup0 (by intro _ _ _; kernel_rfl) ?_
        refine E_str ?_
        refine O_eq_str (by first | assumption | kernel_rfl!) (by first | assumption | kernel_rfl!) ?_
        refine ⟨_, rfl, ?_⟩
        refine And.intro ?_ ?_
      with_reducible refine dead ?_
      rfl
      with_reducible
        refine fun _ => ?_
        refine B_nil ?_
        refine B_cons ?_
        refine S_if ?_
        refine C_cmp (by kernel_rfl) ?_
        refine E_index ?_
        refine E_local (by kernel_rfl!) (rho_h1 (by decide +kernel)) (by kernel_rfl) ?_
        refine E_int ?_
        refine O_tup0 (by intro _ _ _; kernel_rfl) ?_
        refine E_str ?_
        refine O_eq_str (by first | assumption | kernel_rfl!) (by first | assumption | kernel_rfl!) ?_
        refine ⟨_, rfl, ?_⟩
        refine And.intro ?_ ?_
      with_reducible refine dead ?_
      rfl
      with_reducible
        refine fun _ => ?_
        refine B_nil ?_
        refine B_cons ?_
        refine S_if ?_
        refine C_cmp (by kernel_rfl) ?_
        refine E_index ?_
        refine E_local (by kernel_rfl!) (rho_h1 (by decide +kernel)) (by kernel_rfl) ?_
        refine E_int ?_
        refine O_tup0 (by intro _ _ _; kernel_rfl) ?_
        refine E_str ?_
        refine O_eq_str (by first | assumption | kernel_rfl!) (by first | assumption | kernel_rfl!) ?_
        refine ⟨_, rfl, ?_⟩
        refine And.intro ?_ ?_
      with_reducible refine dead ?_
      rfl
      with_reducible
        refine fun _ => ?_
        refine B_nil ?_
        refine B_cons ?_
        refine S_if ?_
        refine C_cmp (by kernel_rfl) ?_
        refine E_index ?_
        refine E_local (by kernel_rfl!) (rho_h1 (by decide +kernel)) (by kernel_rfl) ?_
        refine E_int ?_
        refine O_tup0 (by intro _ _ _; kernel_rfl) ?_
        refine E_str ?_
        refine O_eq_str (by first | assumption | kernel_rfl!) (by first | assumption | kernel_rfl!) ?_
        refine ⟨_, rfl, ?_⟩
        refine And.intro ?_ ?_
      with_reducible refine dead ?_
      rfl
      with_reducible
        refine fun _ => ?_
        refine B_nil ?_
        refine B_cons ?_
        refine S_if ?_
        refine C_cmp (by kernel_rfl) ?_
        refine E_index ?_
        refine E_local (by kernel_rfl!) (rho_h1 (by decide +kernel)) (by kernel_rfl) ?_
        refine E_int ?_
        refine O_tup0 (by intro _ _ _; kernel_rfl) ?_
        refine E_str ?_
        refine O_eq_str (by first | assumption | kernel_rfl!) (by first | assumption | kernel_rfl!) ?_
        refine ⟨_, rfl, ?_⟩
        refine And.intro ?_ ?_
        refine fun _ => ?_
        refine B_cons ?_
        refine S_return ?_
        refine E_callW (by assumption) (by assumption) (by kernel_rfl) (by kernel_rfl) (by kernel_rfl) (by kernel_rfl) ?_
        refine L_cons ?_ (by kernel_rfl)
        refine E_local (by kernel_rfl!) rho_hit (by kernel_rfl) ?_
        refine L_cons ?_ (by kernel_rfl)
        refine E_ifexp ?_
        refine C_cmp (by kernel_rfl) ?_
        refine E_len (by assumption) (by kernel_rfl) (by kernel_rfl) (by kernel_rfl) ?_
        refine L_cons ?_ (by kernel_rfl)
        refine E_local (by kernel_rfl!) (rho_h1 (by decide +kernel)) (by kernel_rfl) ?_
        refine L_nil ?_
        refine L_len_tup ?_ ?_
        rotate_left
        refine E_int ?_
        refine O_gt ?_
        refine ⟨_, rfl, ?_⟩
        refine And.intro ?_ ?_
        refine fun _ => ?_
        refine E_index ?_
        refine E_local (by kernel_rfl!) (rho_h1 (by decide +kernel)) (by kernel_rfl) ?_
        refine E_int ?_
        refine O_tup1 (by intro _ _ _; kernel_rfl) ?_
        refine L_nil ?_
        refine ⟨_, _, rfl, ?_⟩
        refine And.intro ?_ ?_
      assumption
      with_reducible
        refine And.intro ?_ ?_
      assumption
      assumption
      with_reducible refine dead ?_
      rfl
      with_reducible refine dead ?_
      rfl
      all_goals first | decide | (simp; done)
  | numbers lo hi =>
    dsimp only [Kd.d]
    by_cases hx : ∃ l, d = .tup l
    · obtain ⟨l, rfl⟩ := hx
      obtain ⟨hl, hf⟩ := hd.tup l rfl
      cases hw : wholes l with
      | none =>
        have q : Q (.bool false) := by
          have e : fitsKind (.numbers lo hi) (.tup l) = false := by simp only [fitsKind, hw]
          rw [e] at q; exact q
        have hE : ([] ++ List.map id (List.filter (fun d : D => !(d.isInt && !d.isBool)) l)).isEmpty = false := by
          rw [List.nil_append, List.map_id, wholes_filter, hw]; rfl
        with_reducible
          refine B_cons ?_
          refine S_if ?_
          refine C_cmp (by kernel_rfl) ?_
          refine E_index ?_
          refine E_local (by kernel_rfl!) (rho_h1 (by decide +kernel)) (by kernel_rfl) ?_
          refine E_int ?_
          refine O_tup0 (by intro _ _ _; kernel_rfl) ?_
          refine E_str ?_
          refine O_eq_str (by first | assumption | kernel_rfl!) (by first | assumption | kernel_rfl!) ?_
          refine ⟨_, rfl, ?_⟩
          refine And.intro ?_ ?_
        with_reducible refine dead ?_
        rfl
        with_reducible
          refine fun _ => ?_
          refine B_nil ?_
          refine B_cons ?_
          refine S_if ?_
          refine C_cmp (by kernel_rfl) ?_
          refine E_index ?_
          refine E_local (by kernel_rfl!) (rho_h1 (by decide +kernel)) (by kernel_rfl) ?_
          refine E_int ?_
          refine O_tup0 (by intro _ _ _; kernel_rfl) ?_
          refine E_str ?_
          refine O_eq_str (by first | assumption | kernel_rfl!) (by first | assumption | kernel_rfl!) ?_
          refine ⟨_, rfl, ?_⟩
          refine And.intro ?_ ?_
        with_reducible refine dead ?_
        rfl
        with_reducible
          refine fun _ => ?_
          refine B_nil ?_
          refine B_cons ?_
          refine S_if ?_
          refine C_cmp (by kernel_rfl) ?_
          refine E_index ?_
          refine E_local (by kernel_rfl!) (rho_h1 (by decide +kernel)) (by kernel_rfl) ?_
          refine E_int ?_
          refine O_tup0 (by intro _ _ _; kernel_rfl) ?_
          refine E_str ?_
          refine O_eq_str (by first | assumption | kernel_rfl!) (by first | assumption | kernel_rfl!) ?_
          refine ⟨_, rfl, ?_⟩
          refine And.intro ?_ ?_
        with_reducible refine dead ?_
        rfl
        with_reducible
          refine fun _ => ?_
          refine B_nil ?_
          refine B_cons ?_
          refine S_if ?_
          refine C_cmp (by kernel_rfl) ?_
          refine E_index ?_
          refine E_local (by kernel_rfl!) (rho_h1 (by decide +kernel)) (by kernel_rfl) ?_
          refine E_int ?_
          refine O_tup0 (by intro _ _ _; kernel_rfl) ?_
          refine E_str ?_
          refine O_eq_str (by first | assumption | kernel_rfl!) (by first | assumption | kernel_rfl!) ?_
          refine ⟨_, rfl, ?_⟩
          refine And.intro ?_ ?_
        with_reducible refine dead ?_
        rfl
        with_reducible
          refine fun _ => ?_
          refine B_nil ?_
          refine B_cons ?_
          refine S_if ?_
          refine C_cmp (by kernel_rfl) ?_
          refine E_index ?_
          refine E_local (by kernel_rfl!) (rho_h1 (by decide +kernel)) (by kernel_rfl) ?_
          refine E_int ?_
          refine O_tup0 (by intro _ _ _; kernel_rfl) ?_
          refine E_str ?_
          refine O_eq_str (by first | assumption | kernel_rfl!) (by first | assumption | kernel_rfl!) ?_
          refine ⟨_, rfl, ?_⟩
          refine And.intro ?_ ?_
        with_reducible refine dead ?_
        rfl
        with_reducible
          refine fun _ => ?_
          refine B_nil ?_
          refine B_cons ?_
          refine S_if ?_
          refine C_or ?_
          refine C_not ?_
          refine C_val (by kernel_rfl) ?_
          refine E_isi_tuple (by assumption) (by kernel_rfl) (by kernel_rfl) (by kernel_rfl) (by kernel_rfl) (by kernel_rfl) ?_
          refine E_local (by kernel_rfl!) rho_hit (by kernel_rfl) ?_
          refine ⟨_, rfl, ?_⟩
          refine And.intro ?_ ?_
        with_reducible refine dead ?_
        rfl
        with_reducible
          refine fun _ => ?_
          refine C_or ?_
          refine C_cmp (by kernel_rfl) ?_
          refine E_comp (by intro _; kernel_rfl) (CompScope.of (by kernel_rfl) (by kernel_rfl)) ?_
          refine Src_of ?_
          refine E_local (by kernel_rfl!) rho_hit (by kernel_rfl) ?_
          refine SrcD.tup ?_
          refine And.intro ?_ ?_
          rotate_left
          refine fun _ => ?_
          refine fun _ => ?_
          refine fun _ => ?_
          rotate_left
        · omega
        refine comp_filter (fun d => !(d.isInt && !d.isBool)) id (fun _ => True) _ (fun d hd ρ _ rs => ?_) _ _ trivial ?_
        · skip
          with_reducible
            refine A_local (by kernel_rfl!) (by first | (simp; done) | (intro p e; cases e; dsimp only; decide +kernel)) ?_
            refine And.intro ?_ ?_
          assumption
          with_reducible
            refine T_one ?_
            refine C_not ?_
            refine C_val (by kernel_rfl) ?_
            refine E_callW (by assumption) (by assumption) (by kernel_rfl) (by kernel_rfl) (by kernel_rfl) (by kernel_rfl) ?_
            refine L_cons ?_ (by kernel_rfl)
            refine E_local (by kernel_rfl!) rho_hit (by kernel_rfl) ?_
            refine L_nil ?_
            refine ⟨_, rfl, ?_⟩
            refine ⟨_, rfl, ?_⟩
            refine And.intro ?_ ?_
            rfl
            refine fun _ => ?_
            refine E_local (by kernel_rfl!) rho_hit (by kernel_rfl) ?_
          rfl
        · skip
          with_reducible
            refine E_list ?_ (by decide)
            refine L_nil ?_
            refine O_ne_nil ?_ ?_
            rotate_left
            refine ⟨_, rfl, ?_⟩
            refine And.intro ?_ ?_
            refine fun _ => ?_
            refine And.intro ?_ ?_
            refine fun _ => ?_
            refine B_cons ?_
            refine S_return ?_
            refine E_bool ?_
          assumption
          with_reducible refine dead ?_
          rfl
          with_reducible refine dead_nt ?_
          assumption
          intro d hd
          simp at hd
          exact hf d hd.1
      | some is =>
        have q0 : Q (.bool (ascB is && rangeB lo hi is)) := by
          have e : fitsKind (.numbers lo hi) (.tup l) = (ascB is && rangeB lo hi is) := by simp only [fitsKind, hw]
          rw [e] at q; exact q
        clear q
        have hE : ([] ++ List.map id (List.filter (fun d : D => !(d.isInt && !d.isBool)) l)).isEmpty = true := by
          rw [List.nil_append, List.map_id, wholes_filter, hw]; rfl
        have e := wholes_some hw
        subst e
        rw [List.length_map] at hl
        with_reducible
          refine B_cons ?_
          refine S_if ?_
          refine C_cmp (by kernel_rfl) ?_
          refine E_index ?_
          refine E_local (by kernel_rfl!) (rho_h1 (by decide +kernel)) (by kernel_rfl) ?_
          refine E_int ?_
          refine O_tup0 (by intro _ _ _; kernel_rfl) ?_
          refine E_str ?_
          refine O_eq_str (by first | assumption | kernel_rfl!) (by first | assumption | kernel_rfl!) ?_
          refine ⟨_, rfl, ?_⟩
          refine And.intro ?_ ?_
        with_reducible refine dead ?_
        rfl
        with_reducible
          refine fun _ => ?_
          refine B_nil ?_
          refine B_cons ?_
          refine S_if ?_
          refine C_cmp (by kernel_rfl) ?_
          refine E_index ?_
          refine E_local (by kernel_rfl!) (rho_h1 (by decide +kernel)) (by kernel_rfl) ?_
          refine E_int ?_
          refine O_tup0 (by intro _ _ _; kernel_rfl) ?_
          refine E_str ?_
          refine O_eq_str (by first | assumption | kernel_rfl!) (by first | assumption | kernel_rfl!) ?_
          refine ⟨_, rfl, ?_⟩
          refine And.intro ?_ ?_
        with_reducible refine dead ?_
        rfl
        with_reducible
          refine fun _ => ?_
          refine B_nil ?_
          refine B_cons ?_
          refine S_if ?_
          refine C_cmp (by kernel_rfl) ?_
          refine E_index ?_
          refine E_local (by kernel_rfl!) (rho_h1 (by decide +kernel)) (by kernel_rfl) ?_
          refine E_int ?_
          refine O_tup0 (by intro _ _ _; kernel_rfl) ?_
          refine E_str ?_
          refine O_eq_str (by first | assumption | kernel_rfl!) (by first | assumption | kernel_rfl!) ?_
          refine ⟨_, rfl, ?_⟩
          refine And.intro ?_ ?_
        with_reducible refine dead ?_
        rfl
        with_reducible
          refine fun _ => ?_
          refine B_nil ?_
          refine B_cons ?_
          refine S_if ?_
          refine C_cmp (by kernel_rfl) ?_
          refine E_index ?_
          refine E_local (by kernel_rfl!) (rho_h1 (by decide +kernel)) (by kernel_rfl) ?_
          refine E_int ?_
          refine O_tup0 (by intro _ _ _; kernel_rfl) ?_
          refine E_str ?_
          refine O_eq_str (by first | assumption | kernel_rfl!) (by first | assumption | kernel_rfl!) ?_
          refine ⟨_, rfl, ?_⟩
          refine And.intro ?_ ?_
        with_reducible refine dead ?_
        rfl
        with_reducible
          refine fun _ => ?_
          refine B_nil ?_
          refine B_cons ?_
          refine S_if ?_
          refine C_cmp (by kernel_rfl) ?_
          refine E_index ?_
          refine E_local (by kernel_rfl!) (rho_h1 (by decide +kernel)) (by kernel_rfl) ?_
          refine E_int ?_
          refine O_tup0 (by intro _ _ _; kernel_rfl) ?_
          refine E_str ?_
          refine O_eq_str (by first | assumption | kernel_rfl!) (by first | assumption | kernel_rfl!) ?_
          refine ⟨_, rfl, ?_⟩
          refine And.intro ?_ ?_
        with_reducible refine dead ?_
        rfl
        with_reducible
          refine fun _ => ?_
          refine B_nil ?_
          refine B_cons ?_
          refine S_if ?_
          refine C_or ?_
          refine C_not ?_
          refine C_val (by kernel_rfl) ?_
          refine E_isi_tuple (by assumption) (by kernel_rfl) (by kernel_rfl) (by kernel_rfl) (by kernel_rfl) (by kernel_rfl) ?_
          refine E_local (by kernel_rfl!) rho_hit (by kernel_rfl) ?_
          refine ⟨_, rfl, ?_⟩
          refine And.intro ?_ ?_
        with_reducible refine dead ?_
        rfl
        with_reducible
          refine fun _ => ?_
          refine C_or ?_
          refine C_cmp (by kernel_rfl) ?_
          refine E_comp (by intro _; kernel_rfl) (CompScope.of (by kernel_rfl) (by kernel_rfl)) ?_
          refine Src_of ?_
          refine E_local (by kernel_rfl!) rho_hit (by kernel_rfl) ?_
          refine SrcD.tup ?_
          refine And.intro ?_ ?_
          rotate_left
          refine fun _ => ?_
          refine fun _ => ?_
          refine fun _ => ?_
          rotate_left
        · rw [List.length_map]; omega
        refine comp_filter (fun d => !(d.isInt && !d.isBool)) id (fun _ => True) _ (fun d hd ρ _ rs => ?_) _ _ trivial ?_
        · skip
          with_reducible
            refine A_local (by kernel_rfl!) (by first | (simp; done) | (intro p e; cases e; dsimp only; decide +kernel)) ?_
            refine And.intro ?_ ?_
          assumption
          with_reducible
            refine T_one ?_
            refine C_not ?_
            refine C_val (by kernel_rfl) ?_
            refine E_callW (by assumption) (by assumption) (by kernel_rfl) (by kernel_rfl) (by kernel_rfl) (by kernel_rfl) ?_
            refine L_cons ?_ (by kernel_rfl)
            refine E_local (by kernel_rfl!) rho_hit (by kernel_rfl) ?_
            refine L_nil ?_
            refine ⟨_, rfl, ?_⟩
            refine ⟨_, rfl, ?_⟩
            refine And.intro ?_ ?_
            rfl
            refine fun _ => ?_
            refine E_local (by kernel_rfl!) rho_hit (by kernel_rfl) ?_
          rfl
        · skip
          with_reducible
            refine E_list ?_ (by decide)
            refine L_nil ?_
            refine O_ne_nil ?_ ?_
            rotate_left
            refine ⟨_, rfl, ?_⟩
            refine And.intro ?_ ?_
          with_reducible refine dead_nf ?_
          assumption
          with_reducible
            refine fun _ => ?_
            refine C_or_nil ?_
            refine And.intro ?_ ?_
          with_reducible refine dead ?_
          rfl
          with_reducible
            refine fun _ => ?_
            refine B_nil ?_
            refine B_cons ?_
            refine S_return ?_
            refine E_and ?_
            refine E_callW (by assumption) (by assumption) (by kernel_rfl) (by kernel_rfl) (by kernel_rfl) (by kernel_rfl) ?_
            refine L_cons ?_ (by kernel_rfl)
            refine E_local (by kernel_rfl!) rho_hit (by kernel_rfl) ?_
            refine L_nil ?_
            refine ⟨_, rfl, ?_⟩
            refine And.intro ?_ ?_
          assumption
          with_reducible
            refine ⟨_, rfl, ?_⟩
            refine And.intro ?_ ?_
            refine fun _ => ?_
            refine E_bool1 ?_
            refine E_or ?_
            refine E_cmp (by kernel_rfl) ?_
            refine E_local (by kernel_rfl!) rho_hit (by kernel_rfl) ?_
            refine E_tuple ?_ (by decide)
            refine L_nil ?_
            refine O_eq_nilT ?_ ?_
          assumption
          with_reducible
            refine ⟨_, rfl, ?_⟩
            refine And.intro ?_ ?_
            refine fun _ => ?_
            rotate_left
            refine fun _ => ?_
            refine E_bool1 ?_
            refine E_and ?_
            refine E_cmp (by kernel_rfl) ?_
            refine E_index ?_
            refine E_local (by kernel_rfl!) (rho_h1 (by decide +kernel)) (by kernel_rfl) ?_
            refine E_int ?_
            refine O_tup1 (by intro _ _ _; kernel_rfl) ?_
            refine E_index ?_
            refine E_local (by kernel_rfl!) rho_hit (by kernel_rfl) ?_
            refine E_int ?_
            refine O_tup_at (by intro _ _ _; kernel_rfl) ?_ ?_ ?_ ?_
            rotate_left
            rotate_left
            rotate_left
            refine O_le ?_
            refine ⟨_, rfl, ?_⟩
            refine And.intro ?_ ?_
            refine fun _ => ?_
            refine E_bool1 ?_
            refine E_cmp (by kernel_rfl) ?_
            refine E_index ?_
            refine E_local (by kernel_rfl!) rho_hit (by kernel_rfl) ?_
            refine E_neg ?_
            refine E_int ?_
            refine ⟨_, rfl, ?_⟩
            refine O_tup_last (by intro _ _ _; kernel_rfl) ?_ ?_
            rotate_left
            refine E_index ?_
            refine E_local (by kernel_rfl!) (rho_h1 (by decide +kernel)) (by kernel_rfl) ?_
            refine E_int ?_
            refine O_tup2 (by intro _ _ _; kernel_rfl) ?_
            refine O_le ?_
            rotate_left
            refine fun _ => ?_
            rotate_left
            refine fun _ => ?_
            rotate_left
          · intro d hd
            simp at hd
            exact hf d (by simpa using hd.1)
          all_goals first
            | omega
            | (have hp : 0 < is.length := by
                 clear q0 hd h1 h2 hf hw hE
                 cases is with
                 | nil => simp_all
                 | cons _ _ => simp
               omega)
            | (refine qb q0 ?_
               clear q0 hd h1 h2 hf hw hE
               cases is with
               | nil => simp_all [rangeB]
               | cons _ _ => simp_all [rangeB] <;> (intros; omega))
    · have e1 : d.isTup = false := by cases d <;> first | rfl | exact absurd ⟨_, rfl⟩ hx
      have e2 : fitsKind (.numbers lo hi) d = false := by cases d <;> first | rfl | exact absurd ⟨_, rfl⟩ hx
      rw [e2] at q
      with_reducible
        refine B_cons ?_
        refine S_if ?_
        refine C_cmp (by kernel_rfl) ?_
        refine E_index ?_
        refine E_local (by kernel_rfl!) (rho_h1 (by decide +kernel)) (by kernel_rfl) ?_
        refine E_int ?_
        refine O_tup0 (by intro _ _ _; kernel_rfl) ?_
        refine E_str ?_
        refine O_eq_str (by first | assumption | kernel_rfl!) (by first | assumption | kernel_rfl!) ?_
        refine ⟨_, rfl, ?_⟩
        refine And.intro ?_ ?_
      with_reducible refine dead ?_
      rfl
      with_reducible
        refine fun _ => ?_
        refine B_nil ?_
        refine B_cons ?_
        refine S_if ?_
        refine C_cmp (by kernel_rfl) ?_
        refine E_index ?_
        refine E_local (by kernel_rfl!) (rho_h1 (by decide +kernel)) (by kernel_rfl) ?_
        refine E_int ?_
        refine O_tup0 (by intro _ _ _; kernel_rfl) ?_
        refine E_str ?_
        refine O_eq_str (by first | assumption | kernel_rfl!) (by first | assumption | kernel_rfl!) ?_
        refine ⟨_, rfl, ?_⟩
        refine And.intro ?_ ?_
      with_reducible refine dead ?_
      rfl
      with_reducible
        refine fun _ => ?_
        refine B_nil ?_
        refine B_cons ?_
        refine S_if ?_
        refine C_cmp (by kernel_rfl) ?_
        refine E_index ?_
        refine E_local (by kernel_rfl!) (rho_h1 (by decide +kernel)) (by kernel_rfl) ?_
        refine E_int ?_
        refine O_tup0 (by intro _ _ _; kernel_rfl) ?_
        refine E_str ?_
        refine O_eq_str (by first | assumption | kernel_rfl!) (by first | assumption | kernel_rfl!) ?_
        refine ⟨_, rfl, ?_⟩
        refine And.intro ?_ ?_
      with_reducible refine dead ?_
      rfl
      with_reducible
        refine fun _ => ?_
        refine B_nil ?_
        refine B_cons ?_
        refine S_if ?_
        refine C_cmp (by kernel_rfl) ?_
        refine E_index ?_
        refine E_local (by kernel_rfl!) (rho_h1 (by decide +kernel)) (by kernel_rfl) ?_
        refine E_int ?_
        refine O_tup0 (by intro _ _ _; kernel_rfl) ?_
        refine E_str ?_
        refine O_eq_str (by first | assumption | kernel_rfl!) (by first | assumption | kernel_rfl!) ?_
        refine ⟨_, rfl, ?_⟩
        refine And.intro ?_ ?_
      with_reducible refine dead ?_
      rfl
      with_reducible
        refine fun _ => ?_
        refine B_nil ?_
        refine B_cons ?_
        refine S_if ?_
        refine C_cmp (by kernel_rfl) ?_
        refine E_index ?_
        refine E_local (by kernel_rfl!) (rho_h1 (by decide +kernel)) (by kernel_rfl) ?_
        refine E_int ?_
        refine O_tup0 (by intro _ _ _; kernel_rfl) ?_
        refine E_str ?_
        refine O_eq_str (by first | assumption | kernel_rfl!) (by first | assumption | kernel_rfl!) ?_
        refine ⟨_, rfl, ?_⟩
        refine And.intro ?_ ?_
      with_reducible refine dead ?_
      rfl
      with_reducible
        refine fun _ => ?_
        refine B_nil ?_
        refine B_cons ?_
        refine S_if ?_
        refine C_or ?_
        refine C_not ?_
        refine C_val (by kernel_rfl) ?_
        refine E_isi_tuple (by assumption) (by kernel_rfl) (by kernel_rfl) (by kernel_rfl) (by kernel_rfl) (by kernel_rfl) ?_
        refine E_local (by kernel_rfl!) rho_hit (by kernel_rfl) ?_
        refine ⟨_, rfl, ?_⟩
        refine And.intro ?_ ?_
        refine fun _ => ?_
        refine And.intro ?_ ?_
        refine fun _ => ?_
        refine B_cons ?_
        refine S_return ?_
        refine E_bool ?_
      assumption
      with_reducible refine dead ?_
      rfl
      with_reducible refine dead_nt ?_
      assumption


end

-- P11
section
noncomputable def ZipP (P : List D → Prop) (ds : List D) : Prop := ∃ l r d2, ds = [.tup l, d2] ∧ (d2 = .tup r ∨ d2 = .lst r) ∧ P (zipsD l r)
theorem ZipP.tt {P : List D → Prop} {l r : List D} (h : P (zipsD l r)) : ZipP P [.tup l, .tup r] := ⟨l, r, _, rfl, .inl rfl, h⟩
theorem ZipP.tl {P : List D → Prop} {l r : List D} (h : P (zipsD l r)) : ZipP P [.tup l, .lst r] := ⟨l, r, _, rfl, .inr rfl, h⟩
theorem Src_zipW {c : Cx} {ρ : Rho} {pos p : Pos} {P : List D → Prop} {e1 e2 : Expr} {mg mb : Str → Option Value} (W : Wd c.w c.base mg mb) (hx : c.env.kindOf "zip" = some .globalImplicit)
    (hst : starEach [e1, e2] c.env = (false, eval e1 c.env) :: starEach [e2] c.env) (hpl : ((backTo pos (starEach [e2] c.env)).any fun x => x.1) = false)
    (h : SemL c pos [e1, e2] ρ (ZipP P)) : SrcItT c (.Call (.Name "zip" p) [e1, e2] [] pos) ρ P :=
  Src_zip hx (by decide +kernel) W.G W.B W.zip0 W.zip1 hst hpl h
noncomputable def isAngle (x : Str) : Bool := ((⟨#[x.cps.getD 0 0]⟩ : Str) == "<")
noncomputable def fitsWord (x : Str) (d : D) : Bool := if isAngle x = true then fitsIndex x d else (D.str x).eq d
noncomputable def fitsShape (pat : List Str) (path : List D) : Bool := pat.length == path.length && (pat.zip path).all fun p => fitsWord p.1 p.2
structure WordOk (x : Str) : Prop where
  len : 0 < x.length
  ok : PyData.strOk x = true
  angle : isAngle x = true → x ∈ angles
structure PartFine (d : D) : Prop where
  fine : d.fine = true
  text : TextOk d
theorem O_ne_w {c : Cx} {Q : D → Prop} {x : Str} {d : D} (hx : PyData.strOk x = true) (hd : d.fine = true) (q : Q (.bool (!(D.str x).eq d))) : OpD c (compareOp .NotEq) (.str x) d Q := O_ne (by simp [D.fine, D.ok, D.dep, hx]) hd q
theorem strOk0 {x : Str} (h : PyData.strOk x = true) : PyData.strOk ⟨#[x.cps.getD 0 0]⟩ = true := by
  simp only [PyData.strOk, Array.all_eq_true', decide_eq_true_eq] at h ⊢
  intro c hc
  simp only [List.mem_toArray, List.mem_cons, List.not_mem_nil, or_false] at hc
  subst hc
  by_cases q : 0 < x.cps.size
  · refine h _ ?_
    simp [Array.getD, q]
  · simp [Array.getD, q]
theorem zips_all (p : Str → D → Bool) : ∀ (pat : List Str) (path : List D), ((zipsD (pat.map .str) path).all fun d => match d with | .tup [.str x, e] => p x e | _ => true) = (pat.zip path).all fun q => p q.1 q.2
  | [], _ => rfl
  | _ :: _, [] => rfl
  | x :: pat, d :: path => by
    have ih := zips_all p pat path
    simp only [zipsD, List.map_cons, List.zip_cons_cons, List.all_cons] at ih ⊢
    rw [ih]
theorem O_str0 {c : Cx} {Q : D → Prop} {value slice : Expr} {x : Str} (hs : ∀ x t k u, subscripted slice false (.str x t) (.int k u) = operate [.str x t, .int k u] (getItem (.str x t) (.int k u))) (hl : 0 < x.length)
    (h : Q (.str ⟨#[x.cps.getD 0 0]⟩)) : OpD c (subscriptTail value slice) (.str x) (.int 0) Q := by
  refine O_str_item (q := x.cps.getD 0 0) hs (by decide) ?_ h
  have h2 : 0 < x.cps.size := hl
  simp [seqIndex?, hl, h2]
theorem fn_fits_shape {w : World} {base : Heap} {mg mb : Str → Option Value} (W : Wd w base mg mb) : FnAt PySem.Challenge.rw_xm0979_01.prog w base mg "fits_shape" 3 (fun ds Q => ∃ pat path, ds = [.tup (pat.map .str), .tup path] ∧ (∀ x ∈ pat, WordOk x) ∧ (∀ d ∈ path, PartFine d) ∧ pat.length ≤ 1000 ∧ path.length ≤ 1000 ∧ Q (.bool (fitsShape pat path))) := by
  have F1 := fn_fits_index W
  obtain ⟨loose, mean, T⟩ := W.T
  refine fn_plain T mem14 ["pattern", "path"] (fun pm cd doc vs h => by match vs, h with | [v, u], _ => kernel_rfl) (by kernel_rfl) (by kernel_rfl) (by kernel_rfl) (by kernel_rfl) (by decide +kernel) (fun A L a cd sr fz s ds Q ⟨pat, path, e, hp, hd, hl1, hl2, q⟩ => ?_)
  subst e
  refine ⟨rfl, ?_⟩
  rw [rhoOf2]
  conv => arg 2; whnf
  with_reducible
    refine B_cons ?_
    refine S_if ?_
    refine C_cmp (by kernel_rfl) ?_
    refine E_len (by assumption) (by kernel_rfl) (by kernel_rfl) (by kernel_rfl) ?_
    refine L_cons ?_ (by kernel_rfl)
    refine E_local (by kernel_rfl!) (rho_h1 (by decide +kernel)) (by kernel_rfl) ?_
    refine L_nil ?_
    refine L_len_tup ?_ ?_
    rotate_left
    refine E_len (by assumption) (by kernel_rfl) (by kernel_rfl) (by kernel_rfl) ?_
    refine L_cons ?_ (by kernel_rfl)
    refine E_local (by kernel_rfl!) rho_hit (by kernel_rfl) ?_
    refine L_nil ?_
    refine L_len_tup ?_ ?_
    rotate_left
    refine O_ne_int ?_
    refine ⟨_, rfl, ?_⟩
    refine And.intro ?_ ?_
    refine fun _ => ?_
    refine B_cons ?_
    refine S_return ?_
    refine E_bool ?_
    rotate_left
    refine fun _ => ?_
    refine B_nil ?_
    refine B_cons ?_
    refine S_forT (by intro _; kernel_rfl) ?_
    refine Src_zipW (by assumption) (by kernel_rfl) (by kernel_rfl) (by kernel_rfl) ?_
    refine L_cons ?_ (by kernel_rfl)
    refine E_local (by kernel_rfl!) (rho_h1 (by decide +kernel)) (by kernel_rfl) ?_
    refine L_cons ?_ (by kernel_rfl)
    refine E_local (by kernel_rfl!) rho_hit (by kernel_rfl) ?_
    refine L_nil ?_
    refine ZipP.tt ?_
    rotate_left
  · rw [List.length_map]; omega
  · omega
  · refine qb q ?_
    rename_i h
    rw [List.length_map] at h
    unfold fitsShape
    have : (pat.length == path.length) = false := by
      rw [beq_eq_false_iff_ne]; intro e; rw [e] at h; simp at h
    rw [this]; rfl
  · rename_i h
    rw [List.length_map] at h
    have hlen : (pat.length == path.length) = true := by
      rw [beq_iff_eq]; simp at h; omega
    have q : Q (.bool ((pat.zip path).all fun p => fitsWord p.1 p.2)) := by unfold fitsShape at q; rw [hlen] at q; exact q
    refine turns_all (fun d => match d with | .tup [.str x, e] => fitsWord x e | _ => true) (fun r => r = .bool false) (fun _ => True) _ (fun d hd' ρ _ rs => ?_) (fun r hR ha => ?_) (fun ρ _ ha => ?_) _ trivial
    · simp only [zipsD, List.mem_map] at hd'
      obtain ⟨⟨d1, d2⟩, hm, rfl⟩ := hd'
      have hm1 := (List.of_mem_zip hm).1
      have hm2 := (List.of_mem_zip hm).2
      obtain ⟨x, hx, rfl⟩ := List.mem_map.mp hm1
      obtain ⟨w1, w2, w3⟩ := hp x hx
      obtain ⟨p1, p2⟩ := hd d2 hm2
      have w4 := strOk0 w2
      dsimp only
      with_reducible
        refine A_tuple (by kernel_rfl) (by kernel_rfl) ?_
        refine As_cons (by kernel_rfl) ?_
        refine A_local (by kernel_rfl!) (by first | (simp; done) | (intro p e; cases e; dsimp only; decide +kernel)) ?_
        refine As_cons (by kernel_rfl) ?_
        refine A_local (by kernel_rfl!) (by first | (simp; done) | (intro p e; cases e; dsimp only; decide +kernel)) ?_
        refine As_nil ?_
        refine B_cons ?_
        refine S_if ?_
        refine C_cmp (by kernel_rfl) ?_
        refine E_index ?_
        refine E_local (by kernel_rfl!) (rho_h1 (by decide +kernel)) (by kernel_rfl) ?_
        refine E_int ?_
        refine O_str0 (by intro _ _ _ _; kernel_rfl) (by assumption) ?_
        refine E_str ?_
        refine O_eq_str (by first | assumption | kernel_rfl!) (by first | assumption | kernel_rfl!) ?_
        refine ⟨_, rfl, ?_⟩
        refine And.intro ?_ ?_
        refine fun _ => ?_
        refine B_cons ?_
        refine S_if ?_
        refine C_not ?_
        refine C_val (by kernel_rfl) ?_
        refine E_callW (by assumption) (by assumption) (by kernel_rfl) (by kernel_rfl) (by kernel_rfl) (by kernel_rfl) ?_
        refine L_cons ?_ (by kernel_rfl)
        refine E_local (by kernel_rfl!) (rho_h1 (by decide +kernel)) (by kernel_rfl) ?_
        refine L_cons ?_ (by kernel_rfl)
        refine E_local (by kernel_rfl!) rho_hit (by kernel_rfl) ?_
        refine L_nil ?_
        refine ⟨_, _, rfl, ?_⟩
        refine And.intro ?_ ?_
        rotate_left
        refine And.intro ?_ ?_
      assumption
      with_reducible
        refine ⟨_, rfl, ?_⟩
        refine And.intro ?_ ?_
        refine fun _ => ?_
        refine B_cons ?_
        refine S_return ?_
        refine E_bool ?_
        refine And.intro ?_ ?_
        rotate_left
        rfl
        refine fun _ => ?_
        refine B_nil ?_
        refine B_nil ?_
        refine B_nil ?_
        refine And.intro ?_ ?_
        rotate_left
        refine And.intro ?_ ?_
      assumption
      with_reducible
        rfl
        refine fun _ => ?_
        refine B_cons ?_
        refine S_if ?_
        refine C_cmp (by kernel_rfl) ?_
        refine E_local (by kernel_rfl!) (rho_h1 (by decide +kernel)) (by kernel_rfl) ?_
        refine E_local (by kernel_rfl!) rho_hit (by kernel_rfl) ?_
        refine O_ne_w (by assumption) (by assumption) ?_
        refine ⟨_, rfl, ?_⟩
        refine And.intro ?_ ?_
        refine fun _ => ?_
        refine B_cons ?_
        refine S_return ?_
        refine E_bool ?_
        refine And.intro ?_ ?_
        rotate_left
        rfl
        refine fun _ => ?_
        refine B_nil ?_
        refine B_nil ?_
        refine B_nil ?_
        refine And.intro ?_ ?_
        rotate_left
        refine And.intro ?_ ?_
      assumption
      with_reducible
        rfl
      · rename_i g1
        exact w3 g1
      · rename_i g1 g2
        have g1 : isAngle x = true := g1
        unfold fitsWord; rw [if_pos g1]; simpa using g2
      · rename_i g1 g2
        have g1 : isAngle x = true := g1
        unfold fitsWord; rw [if_pos g1]; simpa using g2
      · rename_i g1 g2
        have g1 : isAngle x = false := g1
        unfold fitsWord; rw [if_neg (by rw [g1]; simp)]; simpa using g2
      · rename_i g1 g2
        have g1 : isAngle x = false := g1
        unfold fitsWord; rw [if_neg (by rw [g1]; simp)]; simpa using g2
    · subst hR; refine qb q ?_; rw [← ha, zips_all fitsWord]
    · rw [zips_all fitsWord] at ha
      with_reducible
        refine B_cons ?_
        refine S_return ?_
        refine E_bool ?_
        rotate_left
      rw [ha] at q; exact q


end

-- P12
section
noncomputable def partOrder (d : D) : D := if (d.isInt && !d.isBool) = true then .tup [.int 0, d, .str ""] else .tup [.int 1, .int 0, d]
theorem fn_part_order {w : World} {base : Heap} {mg mb : Str → Option Value} (W : Wd w base mg mb) : FnAt PySem.Challenge.rw_xm0979_01.prog w base mg "part_order" 2 (fun ds Q => ∃ d, ds = [d] ∧ Q (partOrder d)) := by
  have F1 := fn_is_whole W
  obtain ⟨loose, mean, T⟩ := W.T
  refine fn_plain T mem17 ["part"] (fun pm cd doc vs h => by match vs, h with | [v], _ => kernel_rfl) (by kernel_rfl) (by kernel_rfl) (by kernel_rfl) (by kernel_rfl) (by decide +kernel) (fun A L a cd sr fz s ds Q ⟨d, e, q⟩ => ?_)
  subst e
  refine ⟨rfl, ?_⟩
  rw [rhoOf1]
  conv => arg 2; whnf
  with_reducible
    refine B_cons ?_
    refine S_return ?_
    refine E_ifexp ?_
    refine C_val (by kernel_rfl) ?_
    refine E_callW (by assumption) (by assumption) (by kernel_rfl) (by kernel_rfl) (by kernel_rfl) (by kernel_rfl) ?_
    refine L_cons ?_ (by kernel_rfl)
    refine E_local (by kernel_rfl!) rho_hit (by kernel_rfl) ?_
    refine L_nil ?_
    refine ⟨_, rfl, ?_⟩
    refine ⟨_, rfl, ?_⟩
    refine And.intro ?_ ?_
    refine fun _ => ?_
    refine E_tuple ?_ (by decide)
    refine L_cons ?_ (by kernel_rfl)
    refine E_int ?_
    refine L_cons ?_ (by kernel_rfl)
    refine E_local (by kernel_rfl!) rho_hit (by kernel_rfl) ?_
    refine L_cons ?_ (by kernel_rfl)
    refine E_str ?_
    refine L_nil ?_
    rotate_left
    refine fun _ => ?_
    refine E_tuple ?_ (by decide)
    refine L_cons ?_ (by kernel_rfl)
    refine E_int ?_
    refine L_cons ?_ (by kernel_rfl)
    refine E_int ?_
    refine L_cons ?_ (by kernel_rfl)
    refine E_local (by kernel_rfl!) rho_hit (by kernel_rfl) ?_
    refine L_nil ?_
    rotate_left
  · rename_i h
    unfold partOrder at q; rw [if_pos h] at q; exact q
  · rename_i h
    unfold partOrder at q; rw [if_neg (by rw [h]; simp)] at q; exact q
noncomputable def partKey (d : D) : D := if d.isStr = true then .lst [.int 1, d] else .lst [.int 0, d]
theorem fn_law_part_key {w : World} {base : Heap} {mg mb : Str → Option Value} (W : Wd w base mg mb) : FnAt PySem.Challenge.rw_xm0979_01.prog w base mg "_law_part_key" 1 (fun ds Q => ∃ d, ds = [d] ∧ Q (partKey d)) := by
  obtain ⟨loose, mean, T⟩ := W.T
  refine fn_plain T mem30 ["part"] (fun pm cd doc vs h => by match vs, h with | [v], _ => kernel_rfl) (by kernel_rfl) (by kernel_rfl) (by kernel_rfl) (by kernel_rfl) (by decide +kernel) (fun A L a cd sr fz s ds Q ⟨d, e, q⟩ => ?_)
  subst e
  refine ⟨rfl, ?_⟩
  rw [rhoOf1]
  conv => arg 2; whnf
  with_reducible
    refine B_cons ?_
    refine S_return ?_
    refine E_ifexp ?_
    refine C_val (by kernel_rfl) ?_
    refine E_isi_str (by assumption) (by kernel_rfl) (by kernel_rfl) (by kernel_rfl) (by kernel_rfl) (by kernel_rfl) ?_
    refine E_local (by kernel_rfl!) rho_hit (by kernel_rfl) ?_
    refine ⟨_, rfl, ?_⟩
    refine And.intro ?_ ?_
    refine fun _ => ?_
    refine E_list ?_ (by decide)
    refine L_cons ?_ (by kernel_rfl)
    refine E_int ?_
    refine L_cons ?_ (by kernel_rfl)
    refine E_local (by kernel_rfl!) rho_hit (by kernel_rfl) ?_
    refine L_nil ?_
    rotate_left
    refine fun _ => ?_
    refine E_list ?_ (by decide)
    refine L_cons ?_ (by kernel_rfl)
    refine E_int ?_
    refine L_cons ?_ (by kernel_rfl)
    refine E_local (by kernel_rfl!) rho_hit (by kernel_rfl) ?_
    refine L_nil ?_
    rotate_left
  · rename_i h
    unfold partKey at q; rw [if_pos h] at q; exact q
  · rename_i h
    unfold partKey at q; rw [if_neg (by rw [h]; simp)] at q; exact q


end

-- P13
section
theorem fn_law_take {w : World} {base : Heap} {mg mb : Str → Option Value} (W : Wd w base mg mb) : FnAt PySem.Challenge.rw_xm0979_01.prog w base mg "_law_take" 1 (fun ds Q => ∃ top, ds = [.src, .int top] ∧ 0 < top ∧ top < 2 ^ 31 ∧ ∀ r, 0 ≤ r → r < top → Q (.int r)) := by
  obtain ⟨loose, mean, T⟩ := W.T
  refine fn_plain T mem20 ["source", "top"] (fun pm cd doc vs h => by match vs, h with | [v, u], _ => kernel_rfl) (by kernel_rfl) (by kernel_rfl) (by kernel_rfl) (by kernel_rfl) (by decide +kernel) (fun A L a cd sr fz s ds Q ⟨top, e, h0, h1, q⟩ => ?_)
  subst e
  refine ⟨rfl, ?_⟩
  rw [rhoOf2]
  conv => arg 2; whnf
  have hne : top ≠ 0 := by omega
  with_reducible
    refine B_cons ?_
    refine S_if ?_
    refine C_cmp (by kernel_rfl) ?_
    refine E_index ?_
    refine E_local (by kernel_rfl!) (rho_h1 (by decide +kernel)) (by kernel_rfl) ?_
    refine E_int ?_
    refine O_src0 (by intro _ _ _; kernel_rfl) ?_
    refine fun _ => ?_
    refine fun _ => ?_
    refine fun _ => ?_
    refine E_int ?_
    refine O_gt ?_
    refine ⟨_, rfl, ?_⟩
    refine And.intro ?_ ?_
    refine fun _ => ?_
    refine B_cons ?_
    refine S_assign (by kernel_rfl!) ?_
    refine E_binop ?_
    refine E_index ?_
    refine E_local (by kernel_rfl!) (rho_h1 (by decide +kernel)) (by kernel_rfl) ?_
    refine E_int ?_
    refine O_src0 (by intro _ _ _; kernel_rfl) ?_
    refine fun _ => ?_
    refine fun _ => ?_
    refine fun _ => ?_
    refine E_local (by kernel_rfl!) rho_hit (by kernel_rfl) ?_
    refine O_mod (by first | assumption | decide) ?_
    refine N_local (by kernel_rfl!) (by first | (simp; done) | (intro p e; cases e; dsimp only; decide +kernel)) ?_
    refine B_cons ?_
    refine S_src0 (by kernel_rfl) ?_
    refine E_binop ?_
    refine E_index ?_
    refine E_local (by kernel_rfl!) (rho_h2 (by decide +kernel)) (by kernel_rfl) ?_
    refine E_int ?_
    refine O_src0 (by intro _ _ _; kernel_rfl) ?_
    refine fun _ => ?_
    refine fun _ => ?_
    refine fun _ => ?_
    refine E_local (by kernel_rfl!) (rho_h1 (by decide +kernel)) (by kernel_rfl) ?_
    refine O_div_small (by first | assumption | decide) (by first | assumption | decide) ?_
    refine ⟨_, rfl, ?_⟩
    refine And.intro ?_ ?_
    rotate_left
    refine And.intro ?_ ?_
    rotate_left
    refine E_local (by kernel_rfl!) (rho_h2 (by decide +kernel)) (by kernel_rfl) ?_
    refine And.intro ?_ ?_
    rfl
    refine B_cons ?_
    refine S_return ?_
    refine E_local (by kernel_rfl!) rho_hit (by kernel_rfl) ?_
    rotate_left
    refine fun _ => ?_
    refine B_nil ?_
    refine B_cons ?_
    refine S_src1 (by kernel_rfl) ?_
    refine E_binop ?_
    refine E_binop ?_
    refine E_binop ?_
    refine E_index ?_
    refine E_local (by kernel_rfl!) (rho_h1 (by decide +kernel)) (by kernel_rfl) ?_
    refine E_int ?_
    refine O_src1 (by intro _ _ _; kernel_rfl) ?_
    refine fun _ => ?_
    refine fun _ => ?_
    refine fun _ => ?_
    refine E_int ?_
    refine O_mul ?_ ?_
    rotate_left
    refine E_int ?_
    refine O_add ?_
    refine E_int ?_
    refine O_mod (by first | assumption | decide) ?_
    refine ⟨_, rfl, ?_⟩
    refine And.intro ?_ ?_
    rotate_left
    refine And.intro ?_ ?_
    rotate_left
    refine E_local (by kernel_rfl!) (rho_h1 (by decide +kernel)) (by kernel_rfl) ?_
    refine And.intro ?_ ?_
    rfl
    refine B_cons ?_
    refine S_return ?_
    refine E_binop ?_
    refine E_binop ?_
    refine E_binop ?_
    refine E_binop ?_
    refine E_index ?_
    refine E_local (by kernel_rfl!) (rho_h1 (by decide +kernel)) (by kernel_rfl) ?_
    refine E_int ?_
    refine O_src1 (by intro _ _ _; kernel_rfl) ?_
    refine fun _ => ?_
    refine fun _ => ?_
    refine fun _ => ?_
    refine E_index ?_
    refine E_local (by kernel_rfl!) (rho_h1 (by decide +kernel)) (by kernel_rfl) ?_
    refine E_int ?_
    refine O_src1 (by intro _ _ _; kernel_rfl) ?_
    refine fun _ => ?_
    refine fun _ => ?_
    refine fun _ => ?_
    refine O_mul ?_ ?_
    rotate_left
    refine E_int ?_
    refine O_mod (by first | assumption | decide) ?_
    refine E_int ?_
    refine O_div_small (by first | assumption | decide) (by first | assumption | decide) ?_
    refine E_local (by kernel_rfl!) rho_hit (by kernel_rfl) ?_
    refine O_mod (by first | assumption | decide) ?_
    rotate_left
  · rw [Int.fdiv_eq_ediv_of_nonneg _ (by omega)]
    exact Int.ediv_nonneg (by assumption) (by omega)
  · exact log2_fdiv (by assumption) h0 (by assumption)
  all_goals first
    | exact q _ (fmod_range h0).1 (fmod_range h0).2
    | (refine mulOk_small (by assumption) ?_; omega)
    | exact (fmod_range (by decide)).1
    | exact (fmod_range (by decide)).2


end

-- P14
section
theorem O_lst_any {c : Cx} {Q : D → Prop} {value slice : Expr} {l : List D} {k : Int} (hs : SubS slice) (h0 : 0 ≤ k) (h1 : k < l.length) (h2 : l.length < 2 ^ 31) (h : ∀ d ∈ l, Q d) : OpD c (subscriptTail value slice) (.lst l) (.int k) Q := by
  have hk : k.toNat < l.length := by omega
  exact O_lst_item (d := l[k.toNat]) hs h0 (by omega) (List.getElem?_eq_getElem hk) (h _ (List.getElem_mem hk))
theorem fn_law_one {w : World} {base : Heap} {mg mb : Str → Option Value} (W : Wd w base mg mb) : FnAt PySem.Challenge.rw_xm0979_01.prog w base mg "_law_one" 2 (fun ds Q => ∃ l, ds = [.src, .lst l] ∧ 0 < l.length ∧ l.length < 2 ^ 31 ∧ ∀ d ∈ l, Q d) := by
  have F1 := fn_law_take W
  obtain ⟨loose, mean, T⟩ := W.T
  refine fn_plain T mem21 ["source", "things"] (fun pm cd doc vs h => by match vs, h with | [v, u], _ => kernel_rfl) (by kernel_rfl) (by kernel_rfl) (by kernel_rfl) (by kernel_rfl) (by decide +kernel) (fun A L a cd sr fz s ds Q ⟨l, e, h0, h1, q⟩ => ?_)
  subst e
  refine ⟨rfl, ?_⟩
  rw [rhoOf2]
  conv => arg 2; whnf
  with_reducible
    refine B_cons ?_
    refine S_return ?_
    refine E_index ?_
    refine E_local (by kernel_rfl!) rho_hit (by kernel_rfl) ?_
    refine E_callW (by assumption) (by assumption) (by kernel_rfl) (by kernel_rfl) (by kernel_rfl) (by kernel_rfl) ?_
    refine L_cons ?_ (by kernel_rfl)
    refine E_local (by kernel_rfl!) (rho_h1 (by decide +kernel)) (by kernel_rfl) ?_
    refine L_cons ?_ (by kernel_rfl)
    refine E_len (by assumption) (by kernel_rfl) (by kernel_rfl) (by kernel_rfl) ?_
    refine L_cons ?_ (by kernel_rfl)
    refine E_local (by kernel_rfl!) rho_hit (by kernel_rfl) ?_
    refine L_nil ?_
    refine L_len_lst ?_ ?_
    rotate_left
    refine L_nil ?_
    refine ⟨_, rfl, ?_⟩
    refine And.intro ?_ ?_
    rotate_left
    refine And.intro ?_ ?_
    rotate_left
    refine fun _ => ?_
    refine fun _ => ?_
    refine fun _ => ?_
    rotate_left
  · omega
  · omega
  · omega
  · exact O_lst_any (by intro _ _ _; kernel_rfl) (by assumption) (by assumption) h1 q


end

-- P15
section
theorem mulOk1 {x : Str} {n : Int} (hx : x.length = 1) (h0 : 0 ≤ n) (h1 : n ≤ 1000) : MulOk x n := by
  refine ⟨?_, fun h _ => ?_, fun _ _ => ?_⟩
  · rw [decide_eq_false (by omega), decide_eq_false (by omega)]; rfl
  · rw [hx]
    have : (1 : Int) ≤ (2 ^ 63 - 1) / n := Int.le_ediv_of_mul_le (by omega) (by omega)
    show ¬ ((2 ^ 63 - 1) / n < ((1 : Nat) : Int))
    omega
  · rw [hx]
    unfold Builtin.Str.tooLong
    have h2 : 1000 ≤ sizeLine := by decide
    exact decide_eq_false (by omega)
theorem fn_law_part {w : World} {base : Heap} {mg mb : Str → Option Value} (W : Wd w base mg mb) : FnAt PySem.Challenge.rw_xm0979_01.prog w base mg "_law_part" 3 (fun ds Q => ds = [.src] ∧ (∀ i ∈ ([0, 1, 7, 8, 9, 512, 513, 4094, 4095, 9999, 10000, -1] : List Int), Q (.tup [.str "number", .int i])) ∧ (∀ b, Q (.tup [.str "truth", .bool b])) ∧
    (∀ x : Str, x.length ≤ 33 → PyData.strOk x = true → Q (.tup [.str "text", .str x]))) := by
  have F1 := fn_law_take W
  have F2 := fn_law_one W
  obtain ⟨loose, mean, T⟩ := W.T
  refine fn_plain T mem25 ["source"] (fun pm cd doc vs h => by match vs, h with | [v], _ => kernel_rfl) (by kernel_rfl) (by kernel_rfl) (by kernel_rfl) (by kernel_rfl) (by decide +kernel) (fun A L a cd sr fz s ds Q ⟨e, q1, q2, q3⟩ => ?_)
  subst e
  refine ⟨rfl, ?_⟩
  rw [rhoOf1]
  conv => arg 2; whnf
  with_reducible
    refine B_cons ?_
    refine S_assign (by kernel_rfl!) ?_
    refine E_list ?_ (by decide)
    refine L_cons ?_ (by kernel_rfl)
    refine E_int ?_
    refine L_cons ?_ (by kernel_rfl)
    refine E_int ?_
    refine L_cons ?_ (by kernel_rfl)
    refine E_int ?_
    refine L_cons ?_ (by kernel_rfl)
    refine E_int ?_
    refine L_cons ?_ (by kernel_rfl)
    refine E_int ?_
    refine L_cons ?_ (by kernel_rfl)
    refine E_int ?_
    refine L_cons ?_ (by kernel_rfl)
    refine E_int ?_
    refine L_cons ?_ (by kernel_rfl)
    refine E_int ?_
    refine L_cons ?_ (by kernel_rfl)
    refine E_int ?_
    refine L_cons ?_ (by kernel_rfl)
    refine E_int ?_
    refine L_cons ?_ (by kernel_rfl)
    refine E_int ?_
    refine L_cons ?_ (by kernel_rfl)
    refine E_neg ?_
    refine E_int ?_
    refine ⟨_, rfl, ?_⟩
    refine L_nil ?_
    refine N_local (by kernel_rfl!) (by first | (simp; done) | (intro p e; cases e; dsimp only; decide +kernel)) ?_
    refine B_cons ?_
    refine S_assign (by kernel_rfl!) ?_
    refine E_list ?_ (by decide)
    refine L_cons ?_ (by kernel_rfl)
    refine E_str ?_
    refine L_cons ?_ (by kernel_rfl)
    refine E_binop ?_
    refine E_str ?_
    refine E_int ?_
    refine O_mulstr ?_ ?_
    rotate_left
    refine L_cons ?_ (by kernel_rfl)
    refine E_binop ?_
    refine E_str ?_
    refine E_int ?_
    refine O_mulstr ?_ ?_
    rotate_left
    refine L_cons ?_ (by kernel_rfl)
    refine E_str ?_
    refine L_cons ?_ (by kernel_rfl)
    refine E_str ?_
    refine L_cons ?_ (by kernel_rfl)
    refine E_str ?_
    refine L_cons ?_ (by kernel_rfl)
    refine E_str ?_
    refine L_cons ?_ (by kernel_rfl)
    refine E_chr (by assumption) (by kernel_rfl) (by kernel_rfl) (by kernel_rfl) ?_
    refine L_cons ?_ (by kernel_rfl)
    refine E_int ?_
    refine L_nil ?_
    refine L_chr ?_ ?_ ?_
    rotate_left
    rotate_left
    refine L_nil ?_
    refine N_local (by kernel_rfl!) (by first | (simp; done) | (intro p e; cases e; dsimp only; decide +kernel)) ?_
    refine B_cons ?_
    refine S_assign (by kernel_rfl!) ?_
    refine E_callW (by assumption) (by assumption) (by kernel_rfl) (by kernel_rfl) (by kernel_rfl) (by kernel_rfl) ?_
    refine L_cons ?_ (by kernel_rfl)
    refine E_local (by kernel_rfl!) (rho_h2 (by decide +kernel)) (by kernel_rfl) ?_
    refine L_cons ?_ (by kernel_rfl)
    refine E_int ?_
    refine L_nil ?_
    refine ⟨_, rfl, ?_⟩
    refine And.intro ?_ ?_
    rotate_left
    refine And.intro ?_ ?_
    rotate_left
    refine fun _ => ?_
    refine fun _ => ?_
    refine fun _ => ?_
    refine N_local (by kernel_rfl!) (by first | (simp; done) | (intro p e; cases e; dsimp only; decide +kernel)) ?_
    refine B_cons ?_
    refine S_if ?_
    refine C_cmp (by kernel_rfl) ?_
    refine E_local (by kernel_rfl!) rho_hit (by kernel_rfl) ?_
    refine E_int ?_
    refine O_lt ?_
    refine ⟨_, rfl, ?_⟩
    refine And.intro ?_ ?_
    refine fun _ => ?_
    refine B_cons ?_
    refine S_return ?_
    refine E_tuple ?_ (by decide)
    refine L_cons ?_ (by kernel_rfl)
    refine E_str ?_
    refine L_cons ?_ (by kernel_rfl)
    refine E_callW (by assumption) (by assumption) (by kernel_rfl) (by kernel_rfl) (by kernel_rfl) (by kernel_rfl) ?_
    refine L_cons ?_ (by kernel_rfl)
    refine E_local (by kernel_rfl!) (rho_h3 (by decide +kernel)) (by kernel_rfl) ?_
    refine L_cons ?_ (by kernel_rfl)
    refine E_local (by kernel_rfl!) (rho_h2 (by decide +kernel)) (by kernel_rfl) ?_
    refine L_nil ?_
    refine ⟨_, rfl, ?_⟩
    refine And.intro ?_ ?_
    rotate_left
    refine And.intro ?_ ?_
    rotate_left
    refine fun _ => ?_
    refine fun _ => ?_
    refine L_nil ?_
    rotate_left
    refine fun _ => ?_
    refine B_nil ?_
    refine B_cons ?_
    refine S_return ?_
    refine E_ifexp ?_
    refine C_cmp (by kernel_rfl) ?_
    refine E_local (by kernel_rfl!) rho_hit (by kernel_rfl) ?_
    refine E_int ?_
    refine O_lt ?_
    refine ⟨_, rfl, ?_⟩
    refine And.intro ?_ ?_
    refine fun _ => ?_
    refine E_tuple ?_ (by decide)
    refine L_cons ?_ (by kernel_rfl)
    refine E_str ?_
    refine L_cons ?_ (by kernel_rfl)
    refine E_cmp (by kernel_rfl) ?_
    refine E_local (by kernel_rfl!) rho_hit (by kernel_rfl) ?_
    refine E_int ?_
    refine O_eq_int ?_
    refine L_nil ?_
    rotate_left
    refine fun _ => ?_
    refine E_tuple ?_ (by decide)
    refine L_cons ?_ (by kernel_rfl)
    refine E_str ?_
    refine L_cons ?_ (by kernel_rfl)
    refine E_callW (by assumption) (by assumption) (by kernel_rfl) (by kernel_rfl) (by kernel_rfl) (by kernel_rfl) ?_
    refine L_cons ?_ (by kernel_rfl)
    refine E_local (by kernel_rfl!) (rho_h3 (by decide +kernel)) (by kernel_rfl) ?_
    refine L_cons ?_ (by kernel_rfl)
    refine E_local (by kernel_rfl!) (rho_h1 (by decide +kernel)) (by kernel_rfl) ?_
    refine L_nil ?_
    refine ⟨_, rfl, ?_⟩
    refine And.intro ?_ ?_
    rotate_left
    refine And.intro ?_ ?_
    rotate_left
    refine fun _ => ?_
    refine fun _ => ?_
    refine L_nil ?_
    rotate_left
  all_goals try (first | decide | omega | (simp; done))
  · exact mulOk1 rfl (by decide) (by decide)
  · exact mulOk1 rfl (by decide) (by decide)
  · rename_i d hd
    simp only [List.mem_cons, List.not_mem_nil, or_false] at hd
    rcases hd with rfl | rfl | rfl | rfl | rfl | rfl | rfl | rfl | rfl | rfl | rfl | rfl <;> exact q1 _ (by decide)
  · exact q2 _
  · rename_i d hd
    simp only [List.mem_cons, List.not_mem_nil, or_false] at hd
    rcases hd with rfl | rfl | rfl | rfl | rfl | rfl | rfl | rfl <;> exact q3 _ (by decide +kernel) (by decide +kernel)


end

-- P16
section
theorem plain_eq (c : Nat) : plainSign c = lawPlainSign c := by
  unfold plainSign lawPlainSign
  have e1 : ([c] < [32]) ↔ ((c : Int) < 32) := by
    rw [List.cons_lt_cons_iff]; simp; omega
  have e2 : ([126] < [c]) ↔ ((126 : Int) < c) := by
    rw [List.cons_lt_cons_iff]; simp; omega
  rw [decide_eq_decide.mpr e1, decide_eq_decide.mpr e2]
/-- one sign of a text: at some place, or nowhere -/
theorem occ_none (s : Str) (c : Nat) (h : ∀ a ∈ s.cps.toList, a ≠ c) : Builtin.Str.occurrences s ⟨#[c]⟩ 0 s.length 1 = [] := by
  have hs : ∀ i, Builtin.Str.subAt s ⟨#[c]⟩ i = false := by
    intro i
    unfold Builtin.Str.subAt
    rw [beq_eq_false_iff_ne]
    intro e
    have hm : c ∈ (s.cps.extract i (i + (⟨#[c]⟩ : Str).length)).toList := by rw [e]; simp
    have : c ∈ s.cps.toList := by
      rw [Array.toList_extract] at hm
      exact List.mem_of_mem_drop (List.mem_of_mem_take hm)
    exact h c this rfl
  unfold Builtin.Str.occurrences
  simp only [hs, Bool.and_false]
  simp [Id.run]
  have fold_id : ∀ (l : List Nat) (z : Array Nat × Nat), List.foldl (fun (b : Array Nat × Nat) (_ : Nat) => (b.fst, b.snd)) z l = z := by
    intro l
    induction l with
    | nil => intro z; rfl
    | cons a l ih => intro z; exact ih z
  rw [fold_id]
  rfl
theorem names_small : ∀ c : Fin 128, inNames c.val = lawSign c.val := by decide +kernel
theorem names_eq (c : Nat) : inNames c = lawSign c := by
  by_cases h : c < 128
  · exact names_small ⟨c, h⟩
  · have h1 : inNames c = false := by
      unfold inNames
      rw [occ_none nameSigns c fun a ha e => ?_]
      · rfl
      · have : ∀ a ∈ nameSigns.cps.toList, a < 128 := by decide +kernel
        have := this a ha
        omega
    have h2 : lawSign c = false := by
      unfold lawSign
      simp
      omega
    rw [h1, h2]
theorem name_eq (x : Str) : isName (.str x) = lawName x := by
  have e : inNames = lawSign := funext names_eq
  unfold isName lawName
  have h1 : decide (1 ≤ x.length) = decide (0 < x.length) := decide_eq_decide.mpr (by omega)
  have h2 : decide (x.length ≤ 32) = decide (x.length < 33) := decide_eq_decide.mpr (by omega)
  rw [e]
  dsimp only
  rw [h1, h2]
  cases decide (0 < x.length) <;> cases decide (x.length < 33) <;> cases x.cps.toList.all lawSign <;> rfl
theorem plainText_eq (x : Str) (m : Int) : isPlain (.str x) m = lawPlain x m := by
  have e : plainSign = lawPlainSign := funext plain_eq
  unfold isPlain lawPlain
  rw [e]

end

-- P17
section
theorem str_len_add (a b : Str) : (a ++ b).length = a.length + b.length := by
  show (a.cps ++ b.cps).size = _
  simp [Str.length]
theorem str_ok_add (a b : Str) : PyData.strOk (a ++ b) = (PyData.strOk a && PyData.strOk b) := by
  show (a.cps ++ b.cps).all _ = _
  simp [PyData.strOk]
theorem strOk_rep (k : Nat) (n : Int) (h : k < 1114112) : PyData.strOk (Txt.mul (⟨#[k]⟩ : Str) n) = true := by
  have e := mul_one_list k n
  unfold PyData.strOk
  rw [← Array.all_toList, e]
  simp
  omega
theorem O_eq_bool {c : Cx} {Q : D → Prop} {i j : Bool} (q : Q (.bool (i == j))) : OpD c (compareOp .Eq) (.bool i) (.bool j) Q := O_eq (by rfl) (by rfl) q
theorem fn_law_texts_right {w : World} {base : Heap} {mg mb : Str → Option Value} (W : Wd w base mg mb) : FnAt PySem.Challenge.rw_xm0979_01.prog w base mg "_law_texts_right" 3 (fun ds Q => ds = [.src] ∧ Q (.bool true)) := by
  have F1 := fn_law_take W
  have F2 := fn_law_one W
  have F3 := fn_is_name W
  have F4 := fn_is_plain_text W
  have F5 := fn_law_is_name W
  have F6 := fn_law_is_plain W
  obtain ⟨loose, mean, T⟩ := W.T
  refine fn_plain T mem26 ["source"] (fun pm cd doc vs h => by match vs, h with | [v], _ => kernel_rfl) (by kernel_rfl) (by kernel_rfl) (by kernel_rfl) (by kernel_rfl) (by decide +kernel) (fun A L a cd sr fz s ds Q ⟨e, q⟩ => ?_)
  subst e
  refine ⟨rfl, ?_⟩
  rw [rhoOf1]
  conv => arg 2; whnf
  with_reducible
    refine B_cons ?_
    refine S_assign (by kernel_rfl!) ?_
    refine E_binop ?_
    refine E_chr (by assumption) (by kernel_rfl) (by kernel_rfl) (by kernel_rfl) ?_
    refine L_cons ?_ (by kernel_rfl)
    refine E_callW (by assumption) (by assumption) (by kernel_rfl) (by kernel_rfl) (by kernel_rfl) (by kernel_rfl) ?_
    refine L_cons ?_ (by kernel_rfl)
    refine E_local (by kernel_rfl!) rho_hit (by kernel_rfl) ?_
    refine L_cons ?_ (by kernel_rfl)
    refine E_list ?_ (by decide)
    refine L_cons ?_ (by kernel_rfl)
    refine E_int ?_
    refine L_cons ?_ (by kernel_rfl)
    refine E_int ?_
    refine L_cons ?_ (by kernel_rfl)
    refine E_int ?_
    refine L_cons ?_ (by kernel_rfl)
    refine E_int ?_
    refine L_cons ?_ (by kernel_rfl)
    refine E_int ?_
    refine L_cons ?_ (by kernel_rfl)
    refine E_int ?_
    refine L_cons ?_ (by kernel_rfl)
    refine E_int ?_
    refine L_cons ?_ (by kernel_rfl)
    refine E_int ?_
    refine L_cons ?_ (by kernel_rfl)
    refine E_int ?_
    refine L_cons ?_ (by kernel_rfl)
    refine E_int ?_
    refine L_nil ?_
    refine L_nil ?_
    refine ⟨_, rfl, ?_⟩
    refine And.intro ?_ ?_
    rotate_left
    refine And.intro ?_ ?_
    rotate_left
    refine fun _ => ?_
    refine fun _ => ?_
    refine L_nil ?_
    rotate_left
  all_goals try (first | decide | omega | (simp; done))
  rename_i d hd
  obtain ⟨i, rfl, hi0, hi1⟩ : ∃ i : Int, d = .int i ∧ 32 ≤ i ∧ i ≤ 126 := by
    simp only [List.mem_cons, List.not_mem_nil, or_false] at hd
    rcases hd with rfl | rfl | rfl | rfl | rfl | rfl | rfl | rfl | rfl | rfl <;> exact ⟨_, rfl, by decide +kernel, by decide +kernel⟩
  with_reducible
    refine L_chr ?_ ?_ ?_
    rotate_left
    rotate_left
    refine E_callW (by assumption) (by assumption) (by kernel_rfl) (by kernel_rfl) (by kernel_rfl) (by kernel_rfl) ?_
    refine L_cons ?_ (by kernel_rfl)
    refine E_local (by kernel_rfl!) rho_hit (by kernel_rfl) ?_
    refine L_cons ?_ (by kernel_rfl)
    refine E_list ?_ (by decide)
    refine L_cons ?_ (by kernel_rfl)
    refine E_int ?_
    refine L_cons ?_ (by kernel_rfl)
    refine E_int ?_
    refine L_cons ?_ (by kernel_rfl)
    refine E_int ?_
    refine L_cons ?_ (by kernel_rfl)
    refine E_int ?_
    refine L_cons ?_ (by kernel_rfl)
    refine E_int ?_
    refine L_cons ?_ (by kernel_rfl)
    refine E_int ?_
    refine L_nil ?_
    refine L_nil ?_
    refine ⟨_, rfl, ?_⟩
    refine And.intro ?_ ?_
    rotate_left
    refine And.intro ?_ ?_
    rotate_left
    refine fun _ => ?_
    refine fun _ => ?_
    rotate_left
  all_goals try (first | decide | omega | (simp; done))
  rename_i d hd
  obtain ⟨n, rfl, hn0, hn1⟩ : ∃ i : Int, d = .int i ∧ 0 ≤ i ∧ i ≤ 33 := by
    simp only [List.mem_cons, List.not_mem_nil, or_false] at hd
    rcases hd with rfl | rfl | rfl | rfl | rfl | rfl <;> exact ⟨_, rfl, by decide +kernel, by decide +kernel⟩
  have hm1 : (Txt.mul (⟨#[i.toNat]⟩ : Str) n).length ≤ 33 := len_mul_one (N := 33) rfl (by omega)
  have hm2 : PyData.strOk (Txt.mul (⟨#[i.toNat]⟩ : Str) n) = true := strOk_rep _ _ (by omega)
  with_reducible
    refine O_mulstr ?_ ?_
    rotate_left
    refine N_local (by kernel_rfl!) (by first | (simp; done) | (intro p e; cases e; dsimp only; decide +kernel)) ?_
    refine B_cons ?_
    refine S_assign (by kernel_rfl!) ?_
    refine E_binop ?_
    refine E_local (by kernel_rfl!) rho_hit (by kernel_rfl) ?_
    refine E_callW (by assumption) (by assumption) (by kernel_rfl) (by kernel_rfl) (by kernel_rfl) (by kernel_rfl) ?_
    refine L_cons ?_ (by kernel_rfl)
    refine E_local (by kernel_rfl!) (rho_h1 (by decide +kernel)) (by kernel_rfl) ?_
    refine L_cons ?_ (by kernel_rfl)
    refine E_list ?_ (by decide)
    refine L_cons ?_ (by kernel_rfl)
    refine E_str ?_
    refine L_cons ?_ (by kernel_rfl)
    refine E_str ?_
    refine L_cons ?_ (by kernel_rfl)
    refine E_chr (by assumption) (by kernel_rfl) (by kernel_rfl) (by kernel_rfl) ?_
    refine L_cons ?_ (by kernel_rfl)
    refine E_callW (by assumption) (by assumption) (by kernel_rfl) (by kernel_rfl) (by kernel_rfl) (by kernel_rfl) ?_
    refine L_cons ?_ (by kernel_rfl)
    refine E_local (by kernel_rfl!) (rho_h1 (by decide +kernel)) (by kernel_rfl) ?_
    refine L_cons ?_ (by kernel_rfl)
    refine E_int ?_
    refine L_nil ?_
    refine ⟨_, rfl, ?_⟩
    refine And.intro ?_ ?_
    rotate_left
    refine And.intro ?_ ?_
    rotate_left
    refine fun _ => ?_
    refine fun _ => ?_
    refine fun _ => ?_
    refine L_nil ?_
    refine L_chr ?_ ?_ ?_
  assumption
  rotate_left
  with_reducible
    refine L_cons ?_ (by kernel_rfl)
    refine E_chr (by assumption) (by kernel_rfl) (by kernel_rfl) (by kernel_rfl) ?_
    refine L_cons ?_ (by kernel_rfl)
    refine E_int ?_
    refine L_nil ?_
    refine L_chr ?_ ?_ ?_
    rotate_left
    rotate_left
    refine L_cons ?_ (by kernel_rfl)
    refine E_chr (by assumption) (by kernel_rfl) (by kernel_rfl) (by kernel_rfl) ?_
    refine L_cons ?_ (by kernel_rfl)
    refine E_int ?_
    refine L_nil ?_
    refine L_chr ?_ ?_ ?_
    rotate_left
    rotate_left
    refine L_cons ?_ (by kernel_rfl)
    refine E_chr (by assumption) (by kernel_rfl) (by kernel_rfl) (by kernel_rfl) ?_
    refine L_cons ?_ (by kernel_rfl)
    refine E_int ?_
    refine L_nil ?_
    refine L_chr ?_ ?_ ?_
    rotate_left
    rotate_left
    refine L_cons ?_ (by kernel_rfl)
    refine E_chr (by assumption) (by kernel_rfl) (by kernel_rfl) (by kernel_rfl) ?_
    refine L_cons ?_ (by kernel_rfl)
    refine E_int ?_
    refine L_nil ?_
    refine L_chr ?_ ?_ ?_
    rotate_left
    rotate_left
    refine L_cons ?_ (by kernel_rfl)
    refine E_chr (by assumption) (by kernel_rfl) (by kernel_rfl) (by kernel_rfl) ?_
    refine L_cons ?_ (by kernel_rfl)
    refine E_int ?_
    refine L_nil ?_
    refine L_chr ?_ ?_ ?_
    rotate_left
    rotate_left
    refine L_nil ?_
    refine L_nil ?_
    refine ⟨_, rfl, ?_⟩
    refine And.intro ?_ ?_
    rotate_left
    refine And.intro ?_ ?_
    rotate_left
    refine fun _ => ?_
    refine fun _ => ?_
    rotate_left
  all_goals try (first | decide | omega | (simp; done))
  · exact mulOk1 rfl hn0 (by omega)
  rename_i r hr0 hr1 d hd
  obtain ⟨y, rfl, hy1, hy2⟩ : ∃ y : Str, d = .str y ∧ y.length ≤ 1 ∧ PyData.strOk y = true := by
    simp only [List.mem_cons, List.not_mem_nil, or_false] at hd
    rcases hd with rfl | rfl | rfl | rfl | rfl | rfl | rfl | rfl
    · exact ⟨_, rfl, by decide +kernel, by decide +kernel⟩
    · exact ⟨_, rfl, by decide +kernel, by decide +kernel⟩
    · refine ⟨_, rfl, by simp [Str.length], ?_⟩
      simp [PyData.strOk]; omega
    all_goals exact ⟨_, rfl, by decide +kernel, by decide +kernel⟩
  obtain ⟨t, ht⟩ : ∃ t, t = Txt.mul (⟨#[i.toNat]⟩ : Str) n ++ y := ⟨_, rfl⟩
  have hl : t.length ≤ 34 := by rw [ht, str_len_add]; omega
  have hl2 : t.length < 2 ^ 62 := by omega
  have hk : PyData.strOk t = true := by rw [ht, str_ok_add, hm2, hy2]; rfl
  refine O_addstr ?_ ?_
  · have : 1000 ≤ sizeLine := by decide
    omega
  rw [← ht]
  have hT : TextOk (.str t) := fun x e => by cases e; exact ⟨hl2, hk⟩
  with_reducible
    refine N_local (by kernel_rfl!) (by first | (simp; done) | (intro p e; cases e; dsimp only; decide +kernel)) ?_
    refine B_cons ?_
    refine S_assign (by kernel_rfl!) ?_
    refine E_max (by assumption) (by kernel_rfl) (by kernel_rfl) (by kernel_rfl) ?_
    refine L_cons ?_ (by kernel_rfl)
    refine E_int ?_
    refine L_cons ?_ (by kernel_rfl)
    refine E_binop ?_
    refine E_len (by assumption) (by kernel_rfl) (by kernel_rfl) (by kernel_rfl) ?_
    refine L_cons ?_ (by kernel_rfl)
    refine E_local (by kernel_rfl!) rho_hit (by kernel_rfl) ?_
    refine L_nil ?_
    refine L_len_str ?_ ?_
  assumption
  with_reducible
    refine E_callW (by assumption) (by assumption) (by kernel_rfl) (by kernel_rfl) (by kernel_rfl) (by kernel_rfl) ?_
    refine L_cons ?_ (by kernel_rfl)
    refine E_local (by kernel_rfl!) (rho_h2 (by decide +kernel)) (by kernel_rfl) ?_
    refine L_cons ?_ (by kernel_rfl)
    refine E_list ?_ (by decide)
    refine L_cons ?_ (by kernel_rfl)
    refine E_int ?_
    refine L_cons ?_ (by kernel_rfl)
    refine E_int ?_
    refine L_cons ?_ (by kernel_rfl)
    refine E_int ?_
    refine L_cons ?_ (by kernel_rfl)
    refine E_neg ?_
    refine E_int ?_
    refine ⟨_, rfl, ?_⟩
    refine L_nil ?_
    refine L_nil ?_
    refine ⟨_, rfl, ?_⟩
    refine And.intro ?_ ?_
    rotate_left
    refine And.intro ?_ ?_
    rotate_left
    refine fun _ => ?_
    refine fun _ => ?_
    rotate_left
  all_goals try (first | decide | omega | (simp; done))
  rename_i d hd
  obtain ⟨j, rfl, hj0, hj1⟩ : ∃ i : Int, d = .int i ∧ -1 ≤ i ∧ i ≤ 1 := by
    simp only [List.mem_cons, List.not_mem_nil, or_false] at hd
    rcases hd with rfl | rfl | rfl | rfl <;> exact ⟨_, rfl, by decide +kernel, by decide +kernel⟩
  with_reducible
    refine O_add ?_
    refine L_nil ?_
    refine L_max ?_
    refine N_local (by kernel_rfl!) (by first | (simp; done) | (intro p e; cases e; dsimp only; decide +kernel)) ?_
    refine B_cons ?_
    refine S_return ?_
    refine E_and ?_
    refine E_cmp (by kernel_rfl) ?_
    refine E_callW (by assumption) (by assumption) (by kernel_rfl) (by kernel_rfl) (by kernel_rfl) (by kernel_rfl) ?_
    refine L_cons ?_ (by kernel_rfl)
    refine E_local (by kernel_rfl!) (rho_h1 (by decide +kernel)) (by kernel_rfl) ?_
    refine L_nil ?_
    refine ⟨_, rfl, ?_⟩
    refine And.intro ?_ ?_
  assumption
  with_reducible
    refine E_callW (by assumption) (by assumption) (by kernel_rfl) (by kernel_rfl) (by kernel_rfl) (by kernel_rfl) ?_
    refine L_cons ?_ (by kernel_rfl)
    refine E_local (by kernel_rfl!) (rho_h1 (by decide +kernel)) (by kernel_rfl) ?_
    refine L_nil ?_
    refine ⟨_, rfl, ?_⟩
    refine And.intro ?_ ?_
  assumption
  with_reducible
    refine O_eq_bool ?_
    refine ⟨_, rfl, ?_⟩
    refine And.intro ?_ ?_
    refine fun _ => ?_
    refine E_bool1 ?_
    refine E_cmp (by kernel_rfl) ?_
    refine E_callW (by assumption) (by assumption) (by kernel_rfl) (by kernel_rfl) (by kernel_rfl) (by kernel_rfl) ?_
    refine L_cons ?_ (by kernel_rfl)
    refine E_local (by kernel_rfl!) (rho_h1 (by decide +kernel)) (by kernel_rfl) ?_
    refine L_cons ?_ (by kernel_rfl)
    refine E_local (by kernel_rfl!) rho_hit (by kernel_rfl) ?_
    refine L_nil ?_
    refine ⟨_, _, rfl, ?_⟩
    refine And.intro ?_ ?_
    rotate_left
    refine And.intro ?_ ?_
  assumption
  with_reducible
    refine E_callW (by assumption) (by assumption) (by kernel_rfl) (by kernel_rfl) (by kernel_rfl) (by kernel_rfl) ?_
    refine L_cons ?_ (by kernel_rfl)
    refine E_local (by kernel_rfl!) (rho_h1 (by decide +kernel)) (by kernel_rfl) ?_
    refine L_cons ?_ (by kernel_rfl)
    refine E_local (by kernel_rfl!) rho_hit (by kernel_rfl) ?_
    refine L_nil ?_
    refine ⟨_, _, rfl, ?_⟩
    refine And.intro ?_ ?_
    rotate_left
    refine And.intro ?_ ?_
  assumption
  with_reducible
    refine And.intro ?_ ?_
  assumption
  with_reducible
    refine O_eq_bool ?_
    rotate_left
    refine fun _ => ?_
    rotate_left
  all_goals try (first | decide | omega | (simp; done))
  · refine qb q ?_; rw [plainText_eq]; simp
  · rename_i h; rw [name_eq] at h; simp at h


end

-- P18
section
theorem O_pow {c : Cx} {Q : D → Prop} {a n : Int} (hn : 0 ≤ n) (hn2 : n ≤ 1000000) (ha : a.natAbs < 2 ^ 64) (h : Q (.int (a ^ n.toNat))) : OpD c (binaryOp .Pow) (.int a) (.int n) Q := by
  intro fz s v u Φ E hi hs hb' R ra rb k
  simp only [Rd] at ra rb
  obtain ⟨t, rfl⟩ := ra; obtain ⟨t', rfl⟩ := rb
  exact pow_int_small hn hn2 ha (k _ _ _ _ (Step.same hi hs) (by simp [Rd]) h)
theorem O_lst_head {c : Cx} {Q : D → Prop} {value slice : Expr} {l : List Int} (hs : SubS slice) (h0 : 0 < l.length) (h : Q (.int (l.getD 0 0))) : OpD c (subscriptTail value slice) (.lst (l.map .int)) (.int 0) Q := by
  refine O_lst_item (d := .int (l.getD 0 0)) hs (by decide) (by decide) ?_ h
  rw [List.getElem?_map]
  cases l with
  | nil => simp at h0
  | cons a r => rfl
theorem mulOk60 {a b : Int} (h0 : 0 ≤ a) (h1 : a < 2 ^ 60) : IntMulOk a b := by
  refine IntMulOk.of_left ?_
  unfold Builtin.Int.intBits
  split
  · omega
  · rename_i q
    have hne : a.natAbs ≠ 0 := by intro e; apply q; simp; omega
    have : a.natAbs.log2 < 60 := (Nat.log2_lt hne).mpr (by omega)
    omega
theorem log2_dbl {m n k : Nat} (h : n.log2 < k) (hm : m ≤ n + 1) : m.log2 < k + 1 := by
  by_cases hm0 : m = 0
  · subst hm0; simp
  · rw [Nat.log2_lt hm0, Nat.pow_succ]
    have hp : 0 < 2 ^ k := Nat.pow_pos (by decide)
    by_cases hn : n = 0
    · subst hn; omega
    · have := (Nat.log2_lt hn).mp h
      omega
theorem log2_neg {x : Int} (h : x.natAbs.log2 < 2 ^ 21 - 1) : (-1 - x).natAbs.log2 < 2 ^ 21 ∧ x.natAbs.log2 < 2 ^ 21 := by
  refine ⟨?_, by omega⟩
  have := log2_dbl (m := (-1 - x).natAbs) h (by omega)
  omega

end

-- P19
section
/-- a part of a path: a whole number or a text -/
noncomputable def PartS (d : D) : Prop := (∃ i, d = .int i) ∨ ∃ x, d = .str x ∧ x.length < 2 ^ 62 ∧ PyData.strOk x = true
theorem PartS.okd {d : D} (h : PartS d) : d.ok = true ∧ d.dep ≤ 0 := by
  rcases h with ⟨i, rfl⟩ | ⟨x, rfl, h1, h2⟩
  · exact ⟨rfl, Nat.le_refl _⟩
  · exact ⟨h2, Nat.le_refl _⟩
theorem PartS.fine {d : D} (h : PartS d) : d.fine = true := by
  have := h.okd
  unfold D.fine; rw [this.1, decide_eq_true (by omega)]; rfl
theorem PartS.part {d : D} (h : PartS d) : PartFine d := ⟨h.fine, fun x e => by
  rcases h with ⟨i, rfl⟩ | ⟨y, rfl, h1, h2⟩
  · cases e
  · cases e; exact ⟨h1, h2⟩⟩
theorem PartS.list {l : List D} (h : ∀ d ∈ l, PartS d) : FineL l := fun d hd => ⟨(h d hd).okd.1, by have := (h d hd).okd.2; omega⟩
theorem O_ne_nilT {c : Cx} {Q : D → Prop} {l : List D} (h : FineL l) (q : Q (.bool (!l.isEmpty))) : OpD c (compareOp .NotEq) (.tup l) (.tup []) Q :=
  O_ne (D.fine_tup h) (by rfl) (by rw [D.eq_nilT]; exact q)
theorem O_tupD_last {c : Cx} {Q : D → Prop} {value slice : Expr} {l : List D} (hs : SubS slice) (h0 : 0 < l.length) (h1 : l.length < 2 ^ 62) (h : Q (l.getD (l.length - 1) .none)) : OpD c (subscriptTail value slice) (.tup l) (.int (-1)) Q := by
  refine O_tup_item (j := l.length - 1) (d := l.getD (l.length - 1) .none) hs (by omega) (by omega) ?_ ?_ h
  · unfold seqIndex?
    have e1 : (0 : Int) ≤ -1 + (l.length : Int) := by omega
    have e2 : -1 + (l.length : Int) < (l.length : Int) := by omega
    have e3 : (-1 + (l.length : Int)).toNat = l.length - 1 := by omega
    simp only [show (-1 : Int) < 0 by omega, if_true, decide_eq_true e1, decide_eq_true e2, Bool.and_self, e3]
  · have : l.length - 1 < l.length := by omega
    simp [this]
theorem O_lst_cons {c : Cx} {Q : D → Prop} {value slice : Expr} {l : List D} {d : D} (hs : SubS slice) (h0 : l[0]? = some d) (h : Q d) : OpD c (subscriptTail value slice) (.lst l) (.int 0) Q :=
  O_lst_item (d := d) hs (by decide) (by decide) h0 h
theorem turns_find {α : Type} {c : Cx} {target : Expr} {body : List Stmt} {Qn : Rho → Oc → Prop} {Qr : D → Prop} {oc : Oc} (mk : α → D) (p : α → Bool) (f : α → D) (inv : Rho → Prop) : ∀ (l : List α),
    (∀ q ∈ l, ∀ ρ, inv ρ → ∀ rs, SemA (c.withRs rs) target (mk q) ρ oc fun ρ' => SemB (c.withRs rs) body ρ' oc (fun ρ2 oc2 => p q = false ∧ inv ρ2 ∧ oc2 = oc) (fun r => p q = true ∧ r = f q)) →
    (∀ q, l.find? p = some q → Qr (f q)) → (l.find? p = none → ∀ ρ, inv ρ → Qn ρ oc) → ∀ ρ, inv ρ → Turns c target body Qn Qr (l.map mk) ρ oc
  | [], _, _, he, ρ, hi => he rfl ρ hi
  | d :: ds, h, hr, he, ρ, hi => by
    intro rs
    refine (h d (.head _) ρ hi rs).mono fun ρ' hb => hb.mono ?_ ?_
    · rintro ρ2 oc2 ⟨hp, hi2, rfl⟩
      refine turns_find mk p f inv ds (fun e he => h e (.tail _ he)) (fun q hq => hr q ?_) (fun hq => he ?_) ρ2 hi2
      · rw [List.find?_cons, hp]; exact hq
      · rw [List.find?_cons, hp]; exact hq
    · rintro r ⟨hp, rfl⟩
      exact hr d (by rw [List.find?_cons, hp])
theorem E_midTW {c : Cx} {ρ : Rho} {Q : D → Prop} {pos p : Pos} {value e1 e : Expr} (hs : ∀ t k, subscripted (.Slice (some e1) (some e) none p) false (.ref t) (.ref k) = operate [.ref k, .ref t] (getItem (.ref t) (.ref k)))
    (h : SemE c value ρ fun d => ∃ l, d = .tup l ∧ (1 ≤ l.length ∧ l.length ≤ 1000000) ∧ SemE c e1 ρ fun d => d = .int 1 ∧ SemE c e ρ fun d => d = .int (-1) ∧ Q (.tup ((l.drop 1).take (l.length - 2)))) : SemE c (.Subscript value (.Slice (some e1) (some e) none p) pos) ρ Q :=
  E_midT hs (h.mono fun d ⟨l, e, h1, h2⟩ => ⟨l, e, h1.1, h1.2, h2⟩)

theorem comp_map {c : Cx} {target elt : Expr} {Q : List D → Prop} (f : D → D) (inv : Rho → Prop) (l : List D)
    (h : ∀ d ∈ l, ∀ ρ, inv ρ → ∀ rs, SemA (c.withRs rs) target d ρ none fun ρ' => inv ρ' ∧ SemE (c.withRs rs) elt ρ' fun y => y = f d) (ρ : Rho) (hi : inv ρ) (q : Q (l.map f)) : CompT c target [] elt Q l ρ [] := by
  refine comp_filter (fun _ => true) f inv l (fun d hd ρ hi rs => (h d hd ρ hi rs).mono fun ρ' ⟨h1, h2⟩ => ⟨h1, T_nil ⟨rfl, fun _ => h2⟩⟩) ρ [] hi ?_
  rw [List.nil_append, List.filter_eq_self.mpr fun _ _ => rfl]; exact q
noncomputable abbrev Row := (List Str × List D) × Nat
noncomputable def rowsQ (x : Str) : List Row := shapeTab.zipIdx.filter fun q => q.1.1.head? == some x
noncomputable def mkRow (q : Row) : D := .tup [.int (q.2 : Int), .tup (q.1.1.map .str), .tup q.1.2]
theorem lookupD_map (f : Str → D) : ∀ (ks : List Str) (x : Str), lookupD ks (ks.map f) x = if x ∈ ks then some (f x) else none
  | [], x => by simp [lookupD]
  | k :: ks, x => by
    rw [List.map_cons, lookupD, lookupD_map f ks x]
    by_cases q : x = k
    · subst q; simp
    · simp [q]
theorem heads_in : (shapeTab.all fun q => match q.1.head? with | some x => decide (x ∈ rowKeys) | none => false) = true := by decide +kernel
theorem rows_none {x : Str} (h : x ∉ rowKeys) : rowsQ x = [] := by
  unfold rowsQ
  rw [List.filter_eq_nil_iff]
  intro q hq
  have hm : q.1 ∈ shapeTab := List.fst_mem_of_mem_zipIdx hq
  have := List.all_eq_true.mp heads_in _ hm
  intro e
  have e : q.1.1.head? = some x := by simpa using e
  rw [e] at this
  exact h (of_decide_eq_true this)
theorem rows_look (x : Str) : (lookupD rowKeys rowVals x).getD (.lst []) = .lst ((rowsQ x).map mkRow) := by
  have e : rowVals = rowKeys.map fun x => .lst (rowsOf x) := rfl
  rw [e, lookupD_map]
  by_cases h : x ∈ rowKeys
  · rw [if_pos h]; rfl
  · rw [if_neg h, rows_none h]; rfl
noncomputable def wordB (x : Str) : Bool := decide (0 < x.length) && PyData.strOk x && (!isAngle x || decide (x ∈ angles))
theorem words_ok : (shapeTab.all fun q => q.1.all wordB && decide (q.1.length ≤ 1000)) = true := by decide +kernel
theorem wordOk_of {x : Str} (h : wordB x = true) : WordOk x := by
  simp only [wordB, Bool.and_eq_true, Bool.or_eq_true, decide_eq_true_eq] at h
  obtain ⟨⟨h1, h2⟩, h3⟩ := h
  refine ⟨h1, h2, fun e => ?_⟩
  rcases h3 with h3 | h3
  · rw [e] at h3; cases h3
  · exact h3
theorem row_ok {x : Str} {q : Row} (h : q ∈ rowsQ x) : (∀ w ∈ q.1.1, WordOk w) ∧ q.1.1.length ≤ 1000 := by
  have hm : q.1 ∈ shapeTab := List.fst_mem_of_mem_zipIdx (List.mem_filter.mp h).1
  have := List.all_eq_true.mp words_ok _ hm
  simp only [Bool.and_eq_true, List.all_eq_true, decide_eq_true_eq] at this
  exact ⟨fun w hw => wordOk_of (this.1 w hw), this.2⟩
noncomputable def firstOf (x : Str) : Nat := ((rowsQ x).head?.map (·.2)).getD 0
noncomputable def farOrder : D := .tup [.int 43, .lst [], .int 0, partOrder (.str "")]
noncomputable def midOf (path : List D) : List D := (path.drop 1).take (path.length - 2)
noncomputable def lastOf (path : List D) : D := path.getD (path.length - 1) .none
noncomputable def nearOrder (x : Str) (path : List D) (q : Row) : D := .tup [.int (firstOf x : Int), .lst ((midOf path).map partOrder), .int (q.2 : Int), partOrder (lastOf path)]
noncomputable def pathOrder (path : List D) : D := match path with
  | .str x :: _ => match (rowsQ x).find? fun q => fitsShape q.1.1 path with
    | some q => nearOrder x path q
    | none => farOrder
  | _ => farOrder
theorem shapes_len : shapesD.length = 43 := by decide +kernel
theorem fn_path_order {w : World} {base : Heap} {mg mb : Str → Option Value} (W : Wd w base mg mb) : FnAt PySem.Challenge.rw_xm0979_01.prog w base mg "path_order" 4 (fun ds Q => ∃ path, ds = [.tup path] ∧ (∀ d ∈ path, PartS d) ∧ path.length ≤ 1000 ∧ (path = [] ∨ ∃ x r, path = .str x :: r) ∧ Q (pathOrder path)) := by
  have F1 := fn_fits_shape W
  have F2 := fn_part_order W
  obtain ⟨loose, mean, T⟩ := W.T
  refine fn_plain T mem18 ["path"] (fun pm cd doc vs h => by match vs, h with | [v], _ => kernel_rfl) (by kernel_rfl) (by kernel_rfl) (by kernel_rfl) (by kernel_rfl) (by decide +kernel) (fun A L a cd sr fz s ds Q ⟨path, e, hp, hl, hsh, q⟩ => ?_)
  subst e
  refine ⟨rfl, ?_⟩
  rw [rhoOf1]
  conv => arg 2; whnf
  rcases hsh with rfl | ⟨x, r, rfl⟩
  · have q : Q farOrder := q
    with_reducible
      refine B_cons ?_
      refine S_assign (by kernel_rfl!) ?_
      refine E_ifexp ?_
      refine C_cmp (by kernel_rfl) ?_
      refine E_local (by kernel_rfl!) rho_hit (by kernel_rfl) ?_
      refine E_tuple ?_ (by decide)
      refine L_nil ?_
      refine O_ne_nilT ?_ ?_
      rotate_left
      refine ⟨_, rfl, ?_⟩
      refine And.intro ?_ ?_
    with_reducible refine dead ?_
    rfl
    with_reducible
      refine fun _ => ?_
      refine E_list ?_ (by decide)
      refine L_nil ?_
      refine N_local (by kernel_rfl!) (by first | (simp; done) | (intro p e; cases e; dsimp only; decide +kernel)) ?_
      refine B_cons ?_
      refine S_for (by intro _; kernel_rfl) ?_
      refine Src_of ?_
      refine E_local (by kernel_rfl!) rho_hit (by kernel_rfl) ?_
      refine SrcD.lst ?_
      rotate_left
    · intro d hd; simp at hd
    · refine turns_find (α := Row) (mk := mkRow) (p := fun _ => false) (f := fun _ => .none) (fun _ => True) [] (fun q hq => by simp at hq) (fun q hq => by simp at hq) (fun _ ρ _ => ?_) _ trivial
      with_reducible
        refine B_cons ?_
        refine S_return ?_
        refine E_tuple ?_ (by decide)
        refine L_cons ?_ (by kernel_rfl)
        refine E_len (by assumption) (by kernel_rfl) (by kernel_rfl) (by kernel_rfl) ?_
        refine L_cons ?_ (by kernel_rfl)
        refine E_SHAPES (by assumption) (by kernel_rfl) ?_
        refine L_nil ?_
        refine L_len_tup ?_ ?_
        rotate_left
        refine L_cons ?_ (by kernel_rfl)
        refine E_list ?_ (by decide)
        refine L_nil ?_
        refine L_cons ?_ (by kernel_rfl)
        refine E_int ?_
        refine L_cons ?_ (by kernel_rfl)
        refine E_callW (by assumption) (by assumption) (by kernel_rfl) (by kernel_rfl) (by kernel_rfl) (by kernel_rfl) ?_
        refine L_cons ?_ (by kernel_rfl)
        refine E_str ?_
        refine L_nil ?_
        refine ⟨_, rfl, ?_⟩
        refine L_nil ?_
      assumption
      rw [shapes_len]; decide
  · have hfl : FineL (.str x :: r) := PartS.list hp
    with_reducible
      refine B_cons ?_
      refine S_assign (by kernel_rfl!) ?_
      refine E_ifexp ?_
      refine C_cmp (by kernel_rfl) ?_
      refine E_local (by kernel_rfl!) rho_hit (by kernel_rfl) ?_
      refine E_tuple ?_ (by decide)
      refine L_nil ?_
      refine O_ne_nilT ?_ ?_
    assumption
    with_reducible
      refine ⟨_, rfl, ?_⟩
      refine And.intro ?_ ?_
      refine fun _ => ?_
      refine E_dget (by kernel_rfl) (by kernel_rfl) (by kernel_rfl) (by kernel_rfl) (by kernel_rfl) ?_
      refine E_SHAPE_ROWS (by assumption) (by kernel_rfl) ?_
      refine ⟨_, _, rfl, ?_⟩
      refine L_cons ?_ (by kernel_rfl)
      refine E_index ?_
      refine E_local (by kernel_rfl!) rho_hit (by kernel_rfl) ?_
      refine E_int ?_
      refine O_tup0 (by intro _ _ _; kernel_rfl) ?_
      refine L_cons ?_ (by kernel_rfl)
      refine E_list ?_ (by decide)
      refine L_nil ?_
      refine L_nil ?_
      refine ⟨_, _, rfl, ?_⟩
      refine N_local (by kernel_rfl!) (by first | (simp; done) | (intro p e; cases e; dsimp only; decide +kernel)) ?_
      refine B_cons ?_
      refine S_for (by intro _; kernel_rfl) ?_
      refine Src_of ?_
      refine E_local (by kernel_rfl!) rho_hit (by kernel_rfl) ?_
      rotate_left
    with_reducible refine dead ?_
    rfl
    · rw [rows_look]
      refine SrcD.lst ?_
      refine turns_find (mk := mkRow) (p := fun q => fitsShape q.1.1 (.str x :: r)) (f := nearOrder x (.str x :: r)) (fun ρ => ρ "rows" = some (.lst ((rowsQ x).map mkRow)) ∧ ρ "path" = some (.tup (.str x :: r))) _ (fun row hrow ρ hρ rs => ?_) (fun row hrow => ?_) (fun hrow ρ hρ => ?_) _ ?_
      · obtain ⟨hρ1, hρ2⟩ := hρ
        obtain ⟨hw, hwl⟩ := row_ok hrow
        have hpf : ∀ d ∈ (D.str x :: r), PartFine d := fun d hd => (hp d hd).part
        obtain ⟨q0, hq0, hf0⟩ : ∃ q0, (rowsQ x)[0]? = some q0 ∧ (firstOf x : Int) = (q0.2 : Int) := by
          unfold firstOf
          cases hQ : rowsQ x with
          | nil => rw [hQ] at hrow; simp at hrow
          | cons q0 rest => exact ⟨q0, rfl, rfl⟩
        unfold mkRow
        with_reducible
          refine A_tuple (by kernel_rfl) (by kernel_rfl) ?_
          refine As_cons (by kernel_rfl) ?_
          refine A_local (by kernel_rfl!) (by first | (simp; done) | (intro p e; cases e; dsimp only; decide +kernel)) ?_
          refine As_cons (by kernel_rfl) ?_
          refine A_local (by kernel_rfl!) (by first | (simp; done) | (intro p e; cases e; dsimp only; decide +kernel)) ?_
          refine As_cons (by kernel_rfl) ?_
          refine A_local (by kernel_rfl!) (by first | (simp; done) | (intro p e; cases e; dsimp only; decide +kernel)) ?_
          refine As_nil ?_
          refine B_cons ?_
          refine S_if ?_
          refine C_val (by kernel_rfl) ?_
          refine E_callW (by assumption) (by assumption) (by kernel_rfl) (by kernel_rfl) (by kernel_rfl) (by kernel_rfl) ?_
          refine L_cons ?_ (by kernel_rfl)
          refine E_local (by kernel_rfl!) (rho_h1 (by decide +kernel)) (by kernel_rfl) ?_
          refine L_cons ?_ (by kernel_rfl)
          refine E_local (by kernel_rfl!) (rho_a3 (by decide +kernel) (by assumption)) (by kernel_rfl) ?_
          refine L_nil ?_
          refine ⟨_, _, rfl, ?_⟩
          refine And.intro ?_ ?_
          refine fun _ => ?_
          refine fun _ => ?_
          rotate_left
          refine And.intro ?_ ?_
          refine fun _ => ?_
          refine fun _ => ?_
          rotate_left
          refine And.intro ?_ ?_
        assumption
        with_reducible
          refine And.intro ?_ ?_
        assumption
        with_reducible
          refine ⟨_, rfl, ?_⟩
          refine And.intro ?_ ?_
          refine fun _ => ?_
          refine B_cons ?_
          refine S_return ?_
          refine E_tuple ?_ (by decide)
          refine L_cons ?_ (by kernel_rfl)
          refine E_index ?_
          refine E_index ?_
          refine E_local (by kernel_rfl!) (rho_a3 (by decide +kernel) (by assumption)) (by kernel_rfl) ?_
          refine E_int ?_
          rotate_left
          refine fun _ => ?_
          refine B_nil ?_
          refine B_nil ?_
          refine And.intro ?_ ?_
        assumption
        with_reducible
          refine And.intro ?_ ?_
          refine And.intro ?_ ?_
        assumption
        assumption
        with_reducible
          rfl
        · exact hw _ (by assumption)
        · exact hpf _ (by assumption)
        refine O_lst_cons (d := mkRow q0) (by intro _ _ _; kernel_rfl) (by rw [List.getElem?_map, hq0]; rfl) ?_
        unfold mkRow
        with_reducible
          refine E_int ?_
          refine O_tup0 (by intro _ _ _; kernel_rfl) ?_
          refine L_cons ?_ (by kernel_rfl)
          refine E_comp (by intro _; kernel_rfl) (CompScope.of (by kernel_rfl) (by kernel_rfl)) ?_
          refine Src_of ?_
          refine E_midTW (by intro _ _; kernel_rfl) ?_
          refine E_local (by kernel_rfl!) (rho_a3 (by decide +kernel) (by assumption)) (by kernel_rfl) ?_
          refine ⟨_, rfl, ?_⟩
          refine And.intro ?_ ?_
          refine And.intro ?_ ?_
          rotate_left
          rotate_left
          refine E_int ?_
          refine And.intro ?_ ?_
          rfl
          refine E_neg ?_
          refine E_int ?_
          refine ⟨_, rfl, ?_⟩
          refine And.intro ?_ ?_
          rfl
          refine SrcD.tup ?_
          refine And.intro ?_ ?_
          rotate_left
          refine fun _ => ?_
          refine fun _ => ?_
          refine fun _ => ?_
          rotate_left
        · simp
        · simp at hl ⊢; omega
        · simp at hl ⊢; omega
        refine comp_map partOrder (fun _ => True) _ (fun d hd ρ _ rs => ?_) _ trivial ?_
        · skip
          with_reducible
            refine A_local (by kernel_rfl!) (by first | (simp; done) | (intro p e; cases e; dsimp only; decide +kernel)) ?_
            refine And.intro ?_ ?_
          assumption
          with_reducible
            refine E_callW (by assumption) (by assumption) (by kernel_rfl) (by kernel_rfl) (by kernel_rfl) (by kernel_rfl) ?_
            refine L_cons ?_ (by kernel_rfl)
            refine E_local (by kernel_rfl!) rho_hit (by kernel_rfl) ?_
            refine L_nil ?_
            refine ⟨_, rfl, ?_⟩
            rfl
        with_reducible
          refine L_cons ?_ (by kernel_rfl)
          refine E_local (by kernel_rfl!) (rho_h2 (by decide +kernel)) (by kernel_rfl) ?_
          refine L_cons ?_ (by kernel_rfl)
          refine E_callW (by assumption) (by assumption) (by kernel_rfl) (by kernel_rfl) (by kernel_rfl) (by kernel_rfl) ?_
          refine L_cons ?_ (by kernel_rfl)
          refine E_index ?_
          refine E_local (by kernel_rfl!) (rho_a3 (by decide +kernel) (by assumption)) (by kernel_rfl) ?_
          refine E_neg ?_
          refine E_int ?_
          refine ⟨_, rfl, ?_⟩
          refine O_tupD_last (by intro _ _ _; kernel_rfl) ?_ ?_ ?_
          rotate_left
          rotate_left
          refine L_nil ?_
          refine ⟨_, rfl, ?_⟩
          refine L_nil ?_
          refine And.intro ?_ ?_
        assumption
        rotate_left
        · simp
        · simp at hl ⊢; omega
        · rw [← hf0]; rfl
      · have e : pathOrder (.str x :: r) = nearOrder x (.str x :: r) row := by
          simp only [pathOrder, hrow]
        rw [← e]; exact q
      · have e : pathOrder (.str x :: r) = farOrder := by
          simp only [pathOrder, hrow]
        rw [e] at q
        with_reducible
          refine B_cons ?_
          refine S_return ?_
          refine E_tuple ?_ (by decide)
          refine L_cons ?_ (by kernel_rfl)
          refine E_len (by assumption) (by kernel_rfl) (by kernel_rfl) (by kernel_rfl) ?_
          refine L_cons ?_ (by kernel_rfl)
          refine E_SHAPES (by assumption) (by kernel_rfl) ?_
          refine L_nil ?_
          refine L_len_tup ?_ ?_
          rotate_left
          refine L_cons ?_ (by kernel_rfl)
          refine E_list ?_ (by decide)
          refine L_nil ?_
          refine L_cons ?_ (by kernel_rfl)
          refine E_int ?_
          refine L_cons ?_ (by kernel_rfl)
          refine E_callW (by assumption) (by assumption) (by kernel_rfl) (by kernel_rfl) (by kernel_rfl) (by kernel_rfl) ?_
          refine L_cons ?_ (by kernel_rfl)
          refine E_str ?_
          refine L_nil ?_
          refine ⟨_, rfl, ?_⟩
          refine L_nil ?_
        assumption
        rw [shapes_len]; decide
      · exact ⟨rho_hit, rho_miss (by decide +kernel) rho_hit⟩


end

-- P20
section
theorem turns_at {c : Cx} {target : Expr} {body : List Stmt} {Qn : Rho → Oc → Prop} {Qr : D → Prop} (J : Nat → Rho → Oc → Prop) : ∀ (l : List D) (i : Nat),
    (∀ k d ρ oc, l[k]? = some d → J (i + k) ρ oc → ∀ rs, SemA (c.withRs rs) target d ρ oc fun ρ' => SemB (c.withRs rs) body ρ' oc (fun ρ2 oc2 => J (i + k + 1) ρ2 oc2) Qr) → (∀ ρ oc, J (i + l.length) ρ oc → Qn ρ oc) → ∀ ρ oc, J i ρ oc → Turns c target body Qn Qr l ρ oc
  | [], i, _, he, ρ, oc, hi => he ρ oc hi
  | d :: ds, i, h, he, ρ, oc, hi => by
    intro rs
    refine (h 0 d ρ oc rfl hi rs).mono fun ρ' hb => hb.mono (fun ρ2 oc2 h2 => ?_) fun _ q => q
    refine turns_at J ds (i + 1) (fun k e ρ oc hk hj => ?_) (fun ρ oc hj => he ρ oc ?_) ρ2 oc2 h2
    · have := h (k + 1) e ρ oc (by simpa using hk) (by rw [show i + (k + 1) = i + 1 + k by omega]; exact hj)
      rw [show i + (k + 1) + 1 = i + 1 + k + 1 by omega] at this
      exact this
    · rw [show i + (d :: ds).length = i + 1 + ds.length by simp; omega]; exact hj
theorem turns_0 {c : Cx} {target : Expr} {body : List Stmt} {Qn : Rho → Oc → Prop} {Qr : D → Prop} (J : Nat → Rho → Oc → Prop) (l : List D) {ρ : Rho} {oc : Oc}
    (h : ∀ k d ρ oc, l[k]? = some d → J k ρ oc → ∀ rs, SemA (c.withRs rs) target d ρ oc fun ρ' => SemB (c.withRs rs) body ρ' oc (fun ρ2 oc2 => J (k + 1) ρ2 oc2) Qr) (he : ∀ ρ oc, J l.length ρ oc → Qn ρ oc) (hi : J 0 ρ oc) : Turns c target body Qn Qr l ρ oc :=
  turns_at J l 0 (fun k d ρ oc hk hj => by rw [Nat.zero_add] at hj ⊢; exact h k d ρ oc hk hj) (fun ρ oc hj => he ρ oc (by rw [Nat.zero_add] at hj; exact hj)) ρ oc hi
/-- a told part: its sort and its thing -/
inductive PartT : D → Prop
  | number (i : Int) : PartT (.tup [.str "number", .int i])
  | truth (b : Bool) : PartT (.tup [.str "truth", .bool b])
  | text (x : Str) (h1 : x.length < 2 ^ 62) (h2 : PyData.strOk x = true) : PartT (.tup [.str "text", .str x])
noncomputable def sortOf : D → Str
  | .tup [.str s, _] => s
  | _ => ""
noncomputable def thingOf : D → D
  | .tup [.str _, d] => d
  | _ => .none
theorem so1 : PyData.strOk "number" = true ∧ (("number" : Str) == "text") = false ∧ PyData.strOk "truth" = true ∧ (("truth" : Str) == "text") = false ∧ (("truth" : Str) == "number") = false ∧ PyData.strOk "text" = true ∧ (("text" : Str) == "number") = false := by decide +kernel
theorem not_tt {a : Bool} {P : Prop} (h : a = false) (e : a = true) : P := by rw [h] at e; cases e
theorem PartT.is {p : D} (h : PartT p) : p = .tup [.str (sortOf p), thingOf p] ∧ PartOk (sortOf p) (thingOf p) ∧ PartFine (thingOf p) := by
  obtain ⟨s1, s2, s3, s4, s5, s6, s7⟩ := so1
  cases h with
  | number i => exact ⟨rfl, ⟨s1, fun e => not_tt s2 e, fun _ => ⟨i, rfl⟩⟩, ⟨rfl, fun x e => by cases e⟩⟩
  | truth b => exact ⟨rfl, ⟨s3, fun e => not_tt s4 e, fun e => not_tt s5 e⟩, ⟨rfl, fun x e => by cases e⟩⟩
  | text x h1 h2 => exact ⟨rfl, ⟨s6, fun _ => ⟨x, rfl, h1⟩, fun e => not_tt s7 e⟩, ⟨by simp [thingOf, D.fine, D.ok, D.dep, h2], fun y e => by cases e; exact ⟨h1, h2⟩⟩⟩
theorem PartT.fine {p : D} (h : PartT p) : p.fine = true := by
  obtain ⟨s1, s2, s3, s4, s5, s6, s7⟩ := so1
  cases h with
  | number i => simp [D.fine, D.ok, D.oks, D.dep, D.deps, s1]
  | truth b => simp [D.fine, D.ok, D.oks, D.dep, D.deps, s3]
  | text x h1 h2 => simp [D.fine, D.ok, D.oks, D.dep, D.deps, h2, s6]
/-- what the law says of a word and a part -/
noncomputable def dueWord (x : Str) (p : D) : Bool := if isAngle x = true then lawFits x (sortOf p) (thingOf p) else p.eq (.tup [.str "text", .str x])
theorem index_eq {x : Str} {p : D} (h : PartT p) : fitsIndex x (thingOf p) = lawFits x (sortOf p) (thingOf p) := by
  unfold fitsIndex lawFits
  by_cases hx : x = "<name>"
  · rw [if_pos hx, if_pos hx]
    cases h with
    | number i => rfl
    | truth b => rfl
    | text x h1 h2 =>
      show isName (.str x) = (("text" : Str) == "text" && lawName x)
      rw [name_eq]; rfl
  · rw [if_neg hx, if_neg hx]
    cases h with
    | number i => rfl
    | truth b => rfl
    | text x h1 h2 => rfl
theorem word_eq {x : Str} {p : D} (h : PartT p) : fitsWord x (thingOf p) = dueWord x p := by
  unfold fitsWord dueWord
  split
  · exact index_eq h
  · cases h with
    | number i => rfl
    | truth b => rfl
    | text y h1 h2 =>
      show (x == y) = _
      simp only [D.eq, D.py, D.pys, PyData.eqv, PyData.eqvAll]
      have : (("text" : Str) == ("text" : Str)) = true := rfl
      rw [this, Bool.true_and, Bool.and_true]
      exact Bool.beq_comm
theorem O_eq_bool20 {c : Cx} {Q : D → Prop} {i j : Bool} (q : Q (.bool (i == j))) : OpD c (compareOp .Eq) (.bool i) (.bool j) Q := O_eq (by rfl) (by rfl) q
theorem S_own2N {c : Cx} {ρ : Rho} {e : Expr} {x y : Str} {k k2 : Nat} {pos p q1 q2 tp lp : Pos} {Qn : Rho → Oc → Prop} {Qr : D → Prop} (h1 : swapsWithSole [.Tuple [.Name x q1, .Name y q2] k p] (.Tuple [e, .List [] lp] k2 tp) pos.line c.env = pure false) (h2 : swappedStores [.Tuple [.Name x q1, .Name y q2] k p] (.Tuple [e, .List [] lp] k2 tp) c.env = pure (some [x, y]))
    (hs1 : starEach [e, .List [] lp] c.env = (false, eval e c.env) :: starEach [.List [] lp] c.env) (hs2 : starEach [.List [] lp] c.env = (false, eval (.List [] lp) c.env) :: starEach [] c.env)
    (hy : c.env.kindOf y = some .local) (hρ : ρ y = none) (h : SemE c e ρ fun d => SemN c x d ρ (some (y, [])) fun ρ' => Qn ρ' (some (y, []))) : SemS c (.Assign [.Tuple [.Name x q1, .Name y q2] k p] (.Tuple [e, .List [] lp] k2 tp) pos) ρ none Qn Qr := S_own2 h1 h2 hs1 hs2 hy hρ h
theorem S_assignSw2 {c : Cx} {ρ : Rho} {oc : Oc} {e1 e2 : Expr} {x y : Str} {k k2 : Nat} {pos p q1 q2 tp : Pos} {Qn : Rho → Oc → Prop} {Qr : D → Prop} (h1 : swapsWithSole [.Tuple [.Name x q1, .Name y q2] k p] (.Tuple [e1, e2] k2 tp) pos.line c.env = pure false) (h2 : swappedStores [.Tuple [.Name x q1, .Name y q2] k p] (.Tuple [e1, e2] k2 tp) c.env = pure (some [x, y]))
    (hs1 : starEach [e1, e2] c.env = (false, eval e1 c.env) :: starEach [e2] c.env) (hs2 : starEach [e2] c.env = (false, eval e2 c.env) :: starEach [] c.env)
    (h : SemE c e1 ρ fun d1 => SemE c e2 ρ fun d2 => SemN c y d2 ρ oc fun ρ' => SemN c x d1 ρ' oc fun ρ2 => Qn ρ2 oc) : SemS c (.Assign [.Tuple [.Name x q1, .Name y q2] k p] (.Tuple [e1, e2] k2 tp) pos) ρ oc Qn Qr :=
  S_assignSw (names := [x, y]) h1 h2 rfl (by show 2 ≤ 1000; decide) (L_cons (h.mono fun d1 h => L_cons (h.mono fun d2 h => L_nil h) hs2) hs1)
theorem E_initW {c : Cx} {ρ : Rho} {Q : D → Prop} {pos p : Pos} {value e : Expr} (hs : ∀ t k, subscripted (.Slice none (some e) none p) false (.ref t) (.ref k) = operate [.ref k, .ref t] (getItem (.ref t) (.ref k)))
    (h : SemE c value ρ fun d => ∃ l, d = .lst l ∧ l.length ≤ 1000000 ∧ SemE c e ρ fun d => d = .int (-1) ∧ Q (.lst (l.take (l.length - 1)))) : SemE c (.Subscript value (.Slice none (some e) none p) pos) ρ Q := E_init hs h
noncomputable def shapes6 : List (List Str) := [["host"], ["vlan", "<vlan>", "name"], ["list", "<name>", "<row>"], ["port", "<port>", "up"], ["queue", "<queue>", "weight"], ["mirror", "<mirror>", "goal"]]
theorem shapes6_ok : (shapes6.all fun q => q.all (fun w => wordB w && decide (w.length ≤ 100)) && decide (q.length ≤ 3)) = true := by decide +kernel
theorem shape6 {q : List Str} (h : q ∈ shapes6) : (∀ w ∈ q, WordOk w ∧ w.length < 2 ^ 62) ∧ q.length ≤ 3 := by
  have := List.all_eq_true.mp shapes6_ok _ h
  simp only [Bool.and_eq_true, List.all_eq_true, decide_eq_true_eq] at this
  exact ⟨fun w hw => ⟨wordOk_of (this.1 w hw).1, by have := (this.1 w hw).2; omega⟩, this.2⟩
theorem shapes6_mem {d : D} (h : d ∈ shapes6.map fun q => .tup (q.map .str)) : ∃ q, d = .tup (q.map .str) ∧ q ∈ shapes6 := by
  obtain ⟨q, hq, rfl⟩ := List.mem_map.mp h
  exact ⟨q, rfl, hq⟩
theorem look_fit (x : Str) : PartT ((lookupD ["<name>"] [.tup [.str "text", .str "web"]] x).getD (.tup [.str "number", .int 5])) := by
  unfold lookupD
  split
  · exact .text _ (by decide +kernel) (by decide +kernel)
  · exact .number _
theorem zips_at {pat : List Str} {ps : List D} {k : Nat} {d : D} (h : (zipsD (pat.map .str) ps)[k]? = some d) : ∃ x p, d = .tup [.str x, p] ∧ (pat.zip ps)[k]? = some (x, p) ∧ x ∈ pat ∧ p ∈ ps := by
  simp only [zipsD, List.getElem?_map, Option.map_eq_some_iff] at h
  obtain ⟨⟨a, b⟩, h, rfl⟩ := h
  rw [List.getElem?_zip_eq_some, List.getElem?_map, Option.map_eq_some_iff] at h
  obtain ⟨⟨x, hx, e⟩, hb⟩ := h
  cases e
  exact ⟨x, b, rfl, List.getElem?_zip_eq_some.mpr ⟨hx, hb⟩, List.mem_of_getElem? hx, List.mem_of_getElem? hb⟩
noncomputable def dueAll (pat : List Str) (ps : List D) (i : Nat) : Bool := ((ps.length : Int) == (pat.length : Int)) && ((pat.zip ps).take i).all fun q => dueWord q.1 q.2
theorem dueAll_next {pat : List Str} {ps : List D} {k : Nat} {x : Str} {p : D} (h : (pat.zip ps)[k]? = some (x, p)) : dueAll pat ps (k + 1) = (dueAll pat ps k && dueWord x p) := by
  unfold dueAll
  rw [List.take_add_one, h, List.all_append]
  simp [Bool.and_assoc]
theorem shape_eq {pat : List Str} {ps : List D} (h : ∀ p ∈ ps, PartT p) : fitsShape pat (ps.map thingOf) = dueAll pat ps (zipsD (pat.map .str) ps).length := by
  have hz : (zipsD (pat.map .str) ps).length = (pat.zip ps).length := by simp [zipsD]
  unfold fitsShape dueAll
  rw [hz, List.take_length, List.length_map]
  have e1 : (pat.length == ps.length) = ((ps.length : Int) == (pat.length : Int)) := by
    rw [Bool.eq_iff_iff]; simp; omega
  rw [e1]
  congr 1
  have : ∀ (pat : List Str) (ps : List D), (∀ p ∈ ps, PartT p) → ((pat.zip (ps.map thingOf)).all fun p => fitsWord p.1 p.2) = (pat.zip ps).all fun q => dueWord q.1 q.2 := by
    intro pat
    induction pat with
    | nil => intro ps _; rfl
    | cons x pat ih =>
      intro ps hp
      cases ps with
      | nil => rfl
      | cons p ps =>
        rw [List.map_cons, List.zip_cons_cons, List.zip_cons_cons, List.all_cons, List.all_cons, ih ps fun q hq => hp q (.tail _ hq), word_eq (hp p (.head _))]
  exact this pat ps h
theorem fn_law_shape_right {w : World} {base : Heap} {mg mb : Str → Option Value} (W : Wd w base mg mb) : FnAt PySem.Challenge.rw_xm0979_01.prog w base mg "_law_shape_right" 4 (fun ds Q => ds = [.src] ∧ Q (.bool true)) := by
  have F1 := fn_law_take W
  have F2 := fn_law_one W
  have F3 := fn_law_part W
  have F4 := fn_law_fits W
  have F5 := fn_fits_shape W
  obtain ⟨loose, mean, T⟩ := W.T
  refine fn_plain T mem27 ["source"] (fun pm cd doc vs h => by match vs, h with | [v], _ => kernel_rfl) (by kernel_rfl) (by kernel_rfl) (by kernel_rfl) (by kernel_rfl) (by decide +kernel) (fun A L a cd sr fz s ds Q ⟨e, q⟩ => ?_)
  subst e
  refine ⟨rfl, ?_⟩
  rw [rhoOf1]
  conv => arg 2; whnf
  with_reducible
    refine B_cons ?_
    refine S_assign (by kernel_rfl!) ?_
    refine E_list ?_ (by decide)
    refine L_cons ?_ (by kernel_rfl)
    refine E_tuple ?_ (by decide)
    refine L_cons ?_ (by kernel_rfl)
    refine E_str ?_
    refine L_nil ?_
    refine L_cons ?_ (by kernel_rfl)
    refine E_tuple ?_ (by decide)
    refine L_cons ?_ (by kernel_rfl)
    refine E_str ?_
    refine L_cons ?_ (by kernel_rfl)
    refine E_str ?_
    refine L_cons ?_ (by kernel_rfl)
    refine E_str ?_
    refine L_nil ?_
    refine L_cons ?_ (by kernel_rfl)
    refine E_tuple ?_ (by decide)
    refine L_cons ?_ (by kernel_rfl)
    refine E_str ?_
    refine L_cons ?_ (by kernel_rfl)
    refine E_str ?_
    refine L_cons ?_ (by kernel_rfl)
    refine E_str ?_
    refine L_nil ?_
    refine L_cons ?_ (by kernel_rfl)
    refine E_tuple ?_ (by decide)
    refine L_cons ?_ (by kernel_rfl)
    refine E_str ?_
    refine L_cons ?_ (by kernel_rfl)
    refine E_str ?_
    refine L_cons ?_ (by kernel_rfl)
    refine E_str ?_
    refine L_nil ?_
    refine L_cons ?_ (by kernel_rfl)
    refine E_tuple ?_ (by decide)
    refine L_cons ?_ (by kernel_rfl)
    refine E_str ?_
    refine L_cons ?_ (by kernel_rfl)
    refine E_str ?_
    refine L_cons ?_ (by kernel_rfl)
    refine E_str ?_
    refine L_nil ?_
    refine L_cons ?_ (by kernel_rfl)
    refine E_tuple ?_ (by decide)
    refine L_cons ?_ (by kernel_rfl)
    refine E_str ?_
    refine L_cons ?_ (by kernel_rfl)
    refine E_str ?_
    refine L_cons ?_ (by kernel_rfl)
    refine E_str ?_
    refine L_nil ?_
    refine L_nil ?_
    refine N_local (by kernel_rfl!) (by first | (simp; done) | (intro p e; cases e; dsimp only; decide +kernel)) ?_
    refine B_cons ?_
    refine S_assignSw2 (by kernel_rfl) (by kernel_rfl!) (by kernel_rfl) (by kernel_rfl) ?_
    refine E_callW (by assumption) (by assumption) (by kernel_rfl) (by kernel_rfl) (by kernel_rfl) (by kernel_rfl) ?_
    refine L_cons ?_ (by kernel_rfl)
    refine E_local (by kernel_rfl!) (rho_h1 (by decide +kernel)) (by kernel_rfl) ?_
    refine L_cons ?_ (by kernel_rfl)
    refine E_local (by kernel_rfl!) rho_hit (by kernel_rfl) ?_
    refine L_nil ?_
    refine ⟨_, rfl, ?_⟩
    refine And.intro ?_ ?_
    rotate_left
    refine And.intro ?_ ?_
    rotate_left
    refine fun _ => ?_
    refine fun _ => ?_
    refine E_dictW (by assumption) (by kernel_rfl) (by kernel_rfl) (by kernel_rfl) (by kernel_rfl) ?_
    refine P_cons ?_
    refine E_str ?_
    refine ⟨_, rfl, ?_⟩
    refine E_tuple ?_ (by decide)
    refine L_cons ?_ (by kernel_rfl)
    refine E_str ?_
    refine L_cons ?_ (by kernel_rfl)
    refine E_str ?_
    refine L_nil ?_
    refine P_nil ?_
    refine And.intro ?_ ?_
  with_reducible show List.Nodup _
  decide +kernel
  with_reducible
    refine N_local (by kernel_rfl!) (by first | (simp; done) | (intro p e; cases e; dsimp only; decide +kernel)) ?_
    refine N_local (by kernel_rfl!) (by first | (simp; done) | (intro p e; cases e; dsimp only; decide +kernel)) ?_
    refine B_cons ?_
    refine S_own2N (by kernel_rfl) (by kernel_rfl!) (by kernel_rfl) (by kernel_rfl) (by kernel_rfl!) (by repeat first | exact rho_n0 | refine rho_nset (by decide +kernel) ?_) ?_
    refine E_callW (by assumption) (by assumption) (by kernel_rfl) (by kernel_rfl) (by kernel_rfl) (by kernel_rfl) ?_
    refine L_cons ?_ (by kernel_rfl)
    refine E_local (by kernel_rfl!) (rho_h3 (by decide +kernel)) (by kernel_rfl) ?_
    refine L_cons ?_ (by kernel_rfl)
    refine E_list ?_ (by decide)
    refine L_cons ?_ (by kernel_rfl)
    refine E_local (by kernel_rfl!) rho_hit (by kernel_rfl) ?_
    refine L_cons ?_ (by kernel_rfl)
    refine E_local (by kernel_rfl!) rho_hit (by kernel_rfl) ?_
    refine L_cons ?_ (by kernel_rfl)
    refine E_local (by kernel_rfl!) rho_hit (by kernel_rfl) ?_
    refine L_cons ?_ (by kernel_rfl)
    refine E_callW (by assumption) (by assumption) (by kernel_rfl) (by kernel_rfl) (by kernel_rfl) (by kernel_rfl) ?_
    refine L_cons ?_ (by kernel_rfl)
    refine E_local (by kernel_rfl!) (rho_h3 (by decide +kernel)) (by kernel_rfl) ?_
    refine L_cons ?_ (by kernel_rfl)
    refine E_local (by kernel_rfl!) (rho_h2 (by decide +kernel)) (by kernel_rfl) ?_
    refine L_nil ?_
    refine ⟨_, rfl, ?_⟩
    refine And.intro ?_ ?_
    rotate_left
    refine And.intro ?_ ?_
    rotate_left
    refine fun _ => ?_
    refine fun _ => ?_
    refine L_nil ?_
    refine L_nil ?_
    refine ⟨_, rfl, ?_⟩
    refine And.intro ?_ ?_
    rotate_left
    refine And.intro ?_ ?_
    rotate_left
    refine fun _ => ?_
    refine fun _ => ?_
    refine N_local (by kernel_rfl!) (by first | (simp; done) | (intro p e; cases e; dsimp only; decide +kernel)) ?_
    refine B_cons ?_
    refine S_for (by intro _; kernel_rfl) ?_
    refine Src_of ?_
    refine E_local (by kernel_rfl!) rho_hit (by kernel_rfl) ?_
    rotate_left
  all_goals try (simp; done)
  rename_i shp hshp inn hinn oth hoth
  obtain ⟨pat, rfl, hpat⟩ := shapes6_mem hshp
  obtain ⟨pat2, rfl, hpat2⟩ := shapes6_mem hinn
  obtain ⟨po, rfl, hpo⟩ : ∃ q, oth = .tup (q.map .str) ∧ q ∈ shapes6 := by
    simp only [List.mem_cons, List.not_mem_nil, or_false] at hoth
    rcases hoth with rfl | rfl | rfl | rfl
    · exact ⟨_, rfl, hpat⟩
    · exact ⟨_, rfl, hpat⟩
    · exact ⟨_, rfl, hpat⟩
    · exact ⟨_, rfl, hpat2⟩
  obtain ⟨hwp, hlp⟩ := shape6 hpat
  obtain ⟨hwo, hlo⟩ := shape6 hpo
  refine SrcD.tup (turns_0 (fun i ρ oc => ∃ parts, oc = some (("path" : Str), parts) ∧ parts.length = i ∧ (∀ p ∈ (parts : List D), PartT p) ∧ ρ "source" = some .src ∧ ρ "shape" = some (.tup (pat.map .str)) ∧ ρ "fitting" = some (.dic w.params ["<name>"] [.tup [.str "text", .str "web"]])) _ (fun k d ρ oc hk hJ rs => ?_) (fun ρ oc hJ => ?_) ?_)
  · obtain ⟨parts, rfl, hn, hparts, h1, h2, h3⟩ := hJ
    have hm := List.mem_of_getElem? hk
    obtain ⟨x, hx, rfl⟩ := List.mem_map.mp hm
    obtain ⟨⟨w1, w2, w3⟩, w5⟩ := hwo x hx
    have w4 := strOk0 w2
    have hk3 : k < 1000 := by
      have := (List.getElem?_eq_some_iff.mp hk).1
      rw [List.length_map] at this; omega
    with_reducible
      refine A_local (by kernel_rfl!) (by first | (simp; done) | (intro p e; cases e; dsimp only; decide +kernel)) ?_
      refine B_cons ?_
      refine S_assign (by kernel_rfl!) ?_
      refine E_ifexp ?_
      refine C_cmp (by kernel_rfl) ?_
      refine E_index ?_
      refine E_local (by kernel_rfl!) rho_hit (by kernel_rfl) ?_
      refine E_int ?_
      refine O_str0 (by intro _ _ _ _; kernel_rfl) (by assumption) ?_
      refine E_str ?_
      refine O_eq_str (by first | assumption | kernel_rfl!) (by first | assumption | kernel_rfl!) ?_
      refine ⟨_, rfl, ?_⟩
      refine And.intro ?_ ?_
      refine fun _ => ?_
      refine E_dget (by kernel_rfl) (by kernel_rfl) (by kernel_rfl) (by kernel_rfl) (by kernel_rfl) ?_
      refine E_local (by kernel_rfl!) (rho_a1 (by decide +kernel) (by assumption)) (by kernel_rfl) ?_
      refine ⟨_, _, rfl, ?_⟩
      refine L_cons ?_ (by kernel_rfl)
      refine E_local (by kernel_rfl!) rho_hit (by kernel_rfl) ?_
      refine L_cons ?_ (by kernel_rfl)
      refine E_tuple ?_ (by decide)
      refine L_cons ?_ (by kernel_rfl)
      refine E_str ?_
      refine L_cons ?_ (by kernel_rfl)
      refine E_int ?_
      refine L_nil ?_
      refine L_nil ?_
      refine ⟨_, _, rfl, ?_⟩
      refine N_local (by kernel_rfl!) (by first | (simp; done) | (intro p e; cases e; dsimp only; decide +kernel)) ?_
      refine B_cons ?_
      refine S_append (by kernel_rfl) (by kernel_rfl) (by decide +kernel) (by kernel_rfl) (by kernel_rfl) (by kernel_rfl) (by kernel_rfl) ?_ ?_
      rotate_left
      refine E_ifexp ?_
      refine C_cmp (by kernel_rfl) ?_
      refine E_callW (by assumption) (by assumption) (by kernel_rfl) (by kernel_rfl) (by kernel_rfl) (by kernel_rfl) ?_
      refine L_cons ?_ (by kernel_rfl)
      refine E_local (by kernel_rfl!) (rho_a2 (by decide +kernel) (by assumption)) (by kernel_rfl) ?_
      refine L_cons ?_ (by kernel_rfl)
      refine E_int ?_
      refine L_nil ?_
      refine ⟨_, rfl, ?_⟩
      refine And.intro ?_ ?_
      rotate_left
      refine And.intro ?_ ?_
      rotate_left
      refine fun _ => ?_
      refine fun _ => ?_
      refine fun _ => ?_
      refine E_int ?_
      refine O_eq_int ?_
      refine ⟨_, rfl, ?_⟩
      refine And.intro ?_ ?_
      refine fun _ => ?_
      refine E_callW (by assumption) (by assumption) (by kernel_rfl) (by kernel_rfl) (by kernel_rfl) (by kernel_rfl) ?_
      refine L_cons ?_ (by kernel_rfl)
      refine E_local (by kernel_rfl!) (rho_a2 (by decide +kernel) (by assumption)) (by kernel_rfl) ?_
      refine L_nil ?_
      refine And.intro ?_ ?_
      rfl
      refine And.intro ?_ ?_
      refine fun _ => ?_
      refine fun _ => ?_
      refine B_nil ?_
      refine ⟨_, rfl, ?_⟩
      refine And.intro ?_ ?_
      rotate_left
      refine And.intro ?_ ?_
      refine fun _ => ?_
      refine fun _ => ?_
      rotate_left
      refine And.intro ?_ ?_
    assumption
    with_reducible
      refine And.intro ?_ ?_
    assumption
    assumption
    with_reducible
      refine And.intro ?_ ?_
      refine fun _ => ?_
      refine B_nil ?_
      refine ⟨_, rfl, ?_⟩
      refine And.intro ?_ ?_
      rotate_left
      refine And.intro ?_ ?_
      refine fun _ => ?_
      refine fun _ => ?_
      rotate_left
      refine And.intro ?_ ?_
    assumption
    with_reducible
      refine And.intro ?_ ?_
    assumption
    assumption
    with_reducible
      refine fun _ => ?_
      refine fun _ => ?_
      refine fun _ => ?_
      refine B_nil ?_
      refine ⟨_, rfl, ?_⟩
      refine And.intro ?_ ?_
      rotate_left
      refine And.intro ?_ ?_
      refine fun _ => ?_
      refine fun _ => ?_
      rotate_left
      refine And.intro ?_ ?_
    assumption
    with_reducible
      refine And.intro ?_ ?_
    assumption
    assumption
    with_reducible
      refine fun _ => ?_
      refine E_local (by kernel_rfl!) rho_hit (by kernel_rfl) ?_
      refine B_nil ?_
      refine ⟨_, rfl, ?_⟩
      refine And.intro ?_ ?_
      rotate_left
      refine And.intro ?_ ?_
      refine fun _ => ?_
      refine fun _ => ?_
      rotate_left
      refine And.intro ?_ ?_
    assumption
    with_reducible
      refine And.intro ?_ ?_
    assumption
    assumption
    with_reducible
      refine fun _ => ?_
      refine E_tuple ?_ (by decide)
      refine L_cons ?_ (by kernel_rfl)
      refine E_str ?_
      refine L_cons ?_ (by kernel_rfl)
      refine E_local (by kernel_rfl!) rho_hit (by kernel_rfl) ?_
      refine L_nil ?_
      refine N_local (by kernel_rfl!) (by first | (simp; done) | (intro p e; cases e; dsimp only; decide +kernel)) ?_
      refine B_cons ?_
      refine S_append (by kernel_rfl) (by kernel_rfl) (by decide +kernel) (by kernel_rfl) (by kernel_rfl) (by kernel_rfl) (by kernel_rfl) ?_ ?_
      rotate_left
      refine E_ifexp ?_
      refine C_cmp (by kernel_rfl) ?_
      refine E_callW (by assumption) (by assumption) (by kernel_rfl) (by kernel_rfl) (by kernel_rfl) (by kernel_rfl) ?_
      refine L_cons ?_ (by kernel_rfl)
      refine E_local (by kernel_rfl!) (rho_a2 (by decide +kernel) (by assumption)) (by kernel_rfl) ?_
      refine L_cons ?_ (by kernel_rfl)
      refine E_int ?_
      refine L_nil ?_
      refine ⟨_, rfl, ?_⟩
      refine And.intro ?_ ?_
      rotate_left
      refine And.intro ?_ ?_
      rotate_left
      refine fun _ => ?_
      refine fun _ => ?_
      refine fun _ => ?_
      refine E_int ?_
      refine O_eq_int ?_
      refine ⟨_, rfl, ?_⟩
      refine And.intro ?_ ?_
      refine fun _ => ?_
      refine E_callW (by assumption) (by assumption) (by kernel_rfl) (by kernel_rfl) (by kernel_rfl) (by kernel_rfl) ?_
      refine L_cons ?_ (by kernel_rfl)
      refine E_local (by kernel_rfl!) (rho_a2 (by decide +kernel) (by assumption)) (by kernel_rfl) ?_
      refine L_nil ?_
      refine And.intro ?_ ?_
      rfl
      refine And.intro ?_ ?_
      refine fun _ => ?_
      refine fun _ => ?_
      refine B_nil ?_
      refine ⟨_, rfl, ?_⟩
      refine And.intro ?_ ?_
      rotate_left
      refine And.intro ?_ ?_
      refine fun _ => ?_
      refine fun _ => ?_
      rotate_left
      refine And.intro ?_ ?_
    assumption
    with_reducible
      refine And.intro ?_ ?_
    assumption
    assumption
    with_reducible
      refine And.intro ?_ ?_
      refine fun _ => ?_
      refine B_nil ?_
      refine ⟨_, rfl, ?_⟩
      refine And.intro ?_ ?_
      rotate_left
      refine And.intro ?_ ?_
      refine fun _ => ?_
      refine fun _ => ?_
      rotate_left
      refine And.intro ?_ ?_
    assumption
    with_reducible
      refine And.intro ?_ ?_
    assumption
    assumption
    with_reducible
      refine fun _ => ?_
      refine fun _ => ?_
      refine fun _ => ?_
      refine B_nil ?_
      refine ⟨_, rfl, ?_⟩
      refine And.intro ?_ ?_
      rotate_left
      refine And.intro ?_ ?_
      refine fun _ => ?_
      refine fun _ => ?_
      rotate_left
      refine And.intro ?_ ?_
    assumption
    with_reducible
      refine And.intro ?_ ?_
    assumption
    assumption
    with_reducible
      refine fun _ => ?_
      refine E_local (by kernel_rfl!) rho_hit (by kernel_rfl) ?_
      refine B_nil ?_
      refine ⟨_, rfl, ?_⟩
      refine And.intro ?_ ?_
      rotate_left
      refine And.intro ?_ ?_
      refine fun _ => ?_
      refine fun _ => ?_
      rotate_left
      refine And.intro ?_ ?_
    assumption
    with_reducible
      refine And.intro ?_ ?_
    assumption
    assumption
    all_goals first
      | omega
      | decide
      | (rw [List.length_append, hn]; rfl)
      | (rename_i p hp
         rcases List.mem_append.mp hp with hp | hp
         · exact hparts _ hp
         · rw [List.mem_singleton] at hp
           subst hp
           first
             | exact .number _
             | exact .truth _
             | exact .text _ (by omega) (by assumption)
             | exact look_fit x)
  · obtain ⟨parts, rfl, hn, hparts, h1, h2, h3⟩ := hJ
    rw [List.length_map] at hn
    refine B_freeze ?_
    with_reducible
      refine B_cons ?_
      refine S_assign (by kernel_rfl!) ?_
      refine E_callW (by assumption) (by assumption) (by kernel_rfl) (by kernel_rfl) (by kernel_rfl) (by kernel_rfl) ?_
      refine L_cons ?_ (by kernel_rfl)
      refine E_local (by kernel_rfl!) (rho_a1 (by decide +kernel) (by assumption)) (by kernel_rfl) ?_
      refine L_cons ?_ (by kernel_rfl)
      refine E_list ?_ (by decide)
      refine L_cons ?_ (by kernel_rfl)
      refine E_local (by kernel_rfl!) rho_hit (by kernel_rfl) ?_
      refine L_cons ?_ (by kernel_rfl)
      refine E_local (by kernel_rfl!) rho_hit (by kernel_rfl) ?_
      refine L_cons ?_ (by kernel_rfl)
      refine E_local (by kernel_rfl!) rho_hit (by kernel_rfl) ?_
      refine L_cons ?_ (by kernel_rfl)
      refine E_initW (by intro _ _; kernel_rfl) ?_
      refine E_local (by kernel_rfl!) rho_hit (by kernel_rfl) ?_
      refine ⟨_, rfl, ?_⟩
      refine And.intro ?_ ?_
      rotate_left
      refine E_neg ?_
      refine E_int ?_
      refine ⟨_, rfl, ?_⟩
      refine And.intro ?_ ?_
      rfl
      refine L_cons ?_ (by kernel_rfl)
      refine E_binop ?_
      refine E_local (by kernel_rfl!) rho_hit (by kernel_rfl) ?_
      refine E_list ?_ (by decide)
      refine L_cons ?_ (by kernel_rfl)
      refine E_tuple ?_ (by decide)
      refine L_cons ?_ (by kernel_rfl)
      refine E_str ?_
      refine L_cons ?_ (by kernel_rfl)
      refine E_str ?_
      refine L_nil ?_
      refine L_nil ?_
      refine O_add_lst ?_ ?_
      rotate_left
      refine L_nil ?_
      refine L_nil ?_
      refine ⟨_, rfl, ?_⟩
      refine And.intro ?_ ?_
      rotate_left
      refine And.intro ?_ ?_
      rotate_left
      refine fun _ => ?_
      refine fun _ => ?_
      refine N_local (by kernel_rfl!) (by first | (simp; done) | (intro p e; cases e; dsimp only; decide +kernel)) ?_
      refine B_cons ?_
      refine S_assign (by kernel_rfl!) ?_
      refine E_cmp (by kernel_rfl) ?_
      refine E_len (by assumption) (by kernel_rfl) (by kernel_rfl) (by kernel_rfl) ?_
      refine L_cons ?_ (by kernel_rfl)
      refine E_local (by kernel_rfl!) rho_hit (by kernel_rfl) ?_
      refine L_nil ?_
      rotate_left
    all_goals try first | omega | (simp; omega) | (simp; done)
    rename_i path hpath
    obtain ⟨ps, rfl, hps, hpl⟩ : ∃ ps, path = .lst ps ∧ (∀ p ∈ ps, PartT p) ∧ ps.length ≤ 10 := by
      simp only [List.mem_cons, List.not_mem_nil, or_false] at hpath
      rcases hpath with rfl | rfl | rfl | rfl | rfl
      · exact ⟨_, rfl, hparts, by omega⟩
      · exact ⟨_, rfl, hparts, by omega⟩
      · exact ⟨_, rfl, hparts, by omega⟩
      · exact ⟨_, rfl, fun p hp => hparts p (List.mem_of_mem_take hp), by simp; omega⟩
      · refine ⟨_, rfl, fun p hp => ?_, by simp; omega⟩
        rcases List.mem_append.mp hp with hp | hp
        · exact hparts _ hp
        · rw [List.mem_singleton] at hp
          subst hp
          exact .text _ (by decide +kernel) (by decide +kernel)
    with_reducible
      refine L_len_lst ?_ ?_
      rotate_left
      refine E_len (by assumption) (by kernel_rfl) (by kernel_rfl) (by kernel_rfl) ?_
      refine L_cons ?_ (by kernel_rfl)
      refine E_local (by kernel_rfl!) (rho_a2 (by decide +kernel) (by assumption)) (by kernel_rfl) ?_
      refine L_nil ?_
      refine L_len_tup ?_ ?_
      rotate_left
      refine O_eq_int ?_
      refine N_local (by kernel_rfl!) (by first | (simp; done) | (intro p e; cases e; dsimp only; decide +kernel)) ?_
      refine B_cons ?_
      refine S_forT (by intro _; kernel_rfl) ?_
      refine Src_zipW (by assumption) (by kernel_rfl) (by kernel_rfl) (by kernel_rfl) ?_
      refine L_cons ?_ (by kernel_rfl)
      refine E_local (by kernel_rfl!) (rho_a3 (by decide +kernel) (by assumption)) (by kernel_rfl) ?_
      refine L_cons ?_ (by kernel_rfl)
      refine E_local (by kernel_rfl!) (rho_h1 (by decide +kernel)) (by kernel_rfl) ?_
      refine L_nil ?_
      refine ZipP.tl ?_
      rotate_left
    all_goals try first | omega | (simp; omega) | (simp; done)
    refine turns_0 (fun i ρ oc => oc = none ∧ ρ "shape" = some (.tup (pat.map .str)) ∧ ρ "path" = some (.lst ps) ∧ ρ "due" = some (.bool (dueAll pat ps i))) _ (fun k d ρ oc hk hJ rs => ?_) (fun ρ oc hJ => ?_) ?_
    · obtain ⟨rfl, g1, g2, g3⟩ := hJ
      obtain ⟨x, p, rfl, hxp, hx, hp⟩ := zips_at hk
      obtain ⟨⟨w1, w2, w3⟩, w5⟩ := hwp x hx
      have w4 := strOk0 w2
      have hP := hps p hp
      have hn1 := dueAll_next hxp
      obtain ⟨so, th, rfl, hso, hth⟩ : ∃ so th, p = .tup [.str so, th] ∧ PartOk so th ∧ PartFine th := ⟨_, _, hP.is⟩
      have hf1 := hP.fine
      have hf2 : (D.tup [.str "text", .str x]).fine = true := (PartT.text x w5 w2).fine
      with_reducible
        refine A_tuple (by kernel_rfl) (by kernel_rfl) ?_
        refine As_cons (by kernel_rfl) ?_
        refine A_local (by kernel_rfl!) (by first | (simp; done) | (intro p e; cases e; dsimp only; decide +kernel)) ?_
        refine As_cons (by kernel_rfl) ?_
        refine A_local (by kernel_rfl!) (by first | (simp; done) | (intro p e; cases e; dsimp only; decide +kernel)) ?_
        refine As_nil ?_
        refine B_cons ?_
        refine S_assign (by kernel_rfl!) ?_
        refine E_and ?_
        refine E_local (by kernel_rfl!) (rho_a2 (by decide +kernel) (by assumption)) (by kernel_rfl) ?_
        refine ⟨_, rfl, ?_⟩
        refine And.intro ?_ ?_
        refine fun _ => ?_
        refine E_bool1 ?_
        refine E_ifexp ?_
        refine C_cmp (by kernel_rfl) ?_
        refine E_index ?_
        refine E_local (by kernel_rfl!) (rho_h1 (by decide +kernel)) (by kernel_rfl) ?_
        refine E_int ?_
        refine O_str0 (by intro _ _ _ _; kernel_rfl) (by assumption) ?_
        refine E_str ?_
        refine O_eq_str (by first | assumption | kernel_rfl!) (by first | assumption | kernel_rfl!) ?_
        refine ⟨_, rfl, ?_⟩
        refine And.intro ?_ ?_
        refine fun _ => ?_
        refine E_callW (by assumption) (by assumption) (by kernel_rfl) (by kernel_rfl) (by kernel_rfl) (by kernel_rfl) ?_
        refine L_cons ?_ (by kernel_rfl)
        refine E_local (by kernel_rfl!) (rho_h1 (by decide +kernel)) (by kernel_rfl) ?_
        refine L_cons ?_ (by kernel_rfl)
        refine E_local (by kernel_rfl!) rho_hit (by kernel_rfl) ?_
        refine L_nil ?_
        refine ⟨_, _, _, rfl, ?_⟩
        refine And.intro ?_ ?_
        rotate_left
        refine And.intro ?_ ?_
      assumption
      with_reducible
        refine N_local (by kernel_rfl!) (by first | (simp; done) | (intro p e; cases e; dsimp only; decide +kernel)) ?_
        refine B_nil ?_
        refine And.intro ?_ ?_
        rfl
        refine And.intro ?_ ?_
      assumption
      with_reducible
        refine And.intro ?_ ?_
      assumption
      rotate_left
      with_reducible
        refine fun _ => ?_
        refine E_cmp (by kernel_rfl) ?_
        refine E_local (by kernel_rfl!) rho_hit (by kernel_rfl) ?_
        refine E_tuple ?_ (by decide)
        refine L_cons ?_ (by kernel_rfl)
        refine E_str ?_
        refine L_cons ?_ (by kernel_rfl)
        refine E_local (by kernel_rfl!) (rho_h1 (by decide +kernel)) (by kernel_rfl) ?_
        refine L_nil ?_
        refine O_eq (by assumption) (by assumption) ?_
        refine N_local (by kernel_rfl!) (by first | (simp; done) | (intro p e; cases e; dsimp only; decide +kernel)) ?_
        refine B_nil ?_
        refine And.intro ?_ ?_
        rfl
        refine And.intro ?_ ?_
      assumption
      with_reducible
        refine And.intro ?_ ?_
      assumption
      rotate_left
      with_reducible
        refine fun _ => ?_
        refine N_local (by kernel_rfl!) (by first | (simp; done) | (intro p e; cases e; dsimp only; decide +kernel)) ?_
        refine B_nil ?_
        refine And.intro ?_ ?_
        rfl
        refine And.intro ?_ ?_
      assumption
      with_reducible
        refine And.intro ?_ ?_
      assumption
      rotate_left
      · exact w3 (by assumption)
      · rename_i g4 g5
        have g5 : isAngle x = true := g5
        refine Eq.trans rho_hit ?_
        rw [hn1, g4]; unfold dueWord; rw [if_pos g5]; rfl
      · rename_i g4 g5
        have g5 : isAngle x = false := g5
        refine Eq.trans rho_hit ?_
        rw [hn1, g4]; unfold dueWord; rw [if_neg (by rw [g5]; simp)]; rfl
      · rename_i g4
        refine Eq.trans rho_hit ?_
        rw [hn1, g4]; rfl
    · obtain ⟨rfl, g1, g2, g3⟩ := hJ
      rw [← shape_eq hps] at g3
      with_reducible
        refine B_cons ?_
        refine S_return ?_
        refine E_cmp (by kernel_rfl) ?_
        refine E_callW (by assumption) (by assumption) (by kernel_rfl) (by kernel_rfl) (by kernel_rfl) (by kernel_rfl) ?_
        refine L_cons ?_ (by kernel_rfl)
        refine E_local (by kernel_rfl!) (by assumption) (by kernel_rfl) ?_
        refine L_cons ?_ (by kernel_rfl)
        refine E_tupleT (by assumption) (by kernel_rfl) (by kernel_rfl) (by kernel_rfl) ?_
        refine L_cons ?_ (by kernel_rfl)
        refine E_comp (by intro _; kernel_rfl) (CompScope.of (by kernel_rfl) (by kernel_rfl)) ?_
        refine Src_of ?_
        refine E_local (by kernel_rfl!) (by assumption) (by kernel_rfl) ?_
        refine SrcD.lst ?_
        refine And.intro ?_ ?_
        rotate_left
        refine fun _ => ?_
        refine fun _ => ?_
        refine fun _ => ?_
        rotate_left
      · omega
      refine comp_map thingOf (fun _ => True) _ (fun d hd ρ _ rs => ?_) _ trivial ?_
      · obtain ⟨so, th, rfl⟩ : ∃ so th, d = .tup [.str so, th] := ⟨_, _, (hps d hd).is.1⟩
        with_reducible
          refine A_tuple (by kernel_rfl) (by kernel_rfl) ?_
          refine As_cons (by kernel_rfl) ?_
          refine A_local (by kernel_rfl!) (by first | (simp; done) | (intro p e; cases e; dsimp only; decide +kernel)) ?_
          refine As_cons (by kernel_rfl) ?_
          refine A_local (by kernel_rfl!) (by first | (simp; done) | (intro p e; cases e; dsimp only; decide +kernel)) ?_
          refine As_nil ?_
          refine And.intro ?_ ?_
        assumption
        with_reducible
          refine E_local (by kernel_rfl!) rho_hit (by kernel_rfl) ?_
        rfl
      have hw1 : ∀ x ∈ pat, WordOk x := fun x hx => (hwp x hx).1
      have hw2 : ∀ d ∈ ps.map thingOf, PartFine d := fun d hd => by
        obtain ⟨p, hp, rfl⟩ := List.mem_map.mp hd
        exact (hps p hp).is.2.2
      with_reducible
        refine L_nil ?_
        refine L_tuple_lst ?_ ?_
        rotate_left
        refine L_nil ?_
        refine ⟨_, _, rfl, ?_⟩
        refine And.intro ?_ ?_
        refine fun _ => ?_
        refine fun _ => ?_
        rotate_left
        refine And.intro ?_ ?_
        refine fun _ => ?_
        refine fun _ => ?_
        rotate_left
        refine And.intro ?_ ?_
        rotate_left
        refine And.intro ?_ ?_
        rotate_left
        refine E_local (by kernel_rfl!) (by assumption) (by kernel_rfl) ?_
        refine O_eq_bool20 ?_
        rotate_left
      · rw [List.length_map]; omega
      · exact hw1 _ (by assumption)
      · exact hw2 _ (by assumption)
      · omega
      · rw [List.length_map]; omega
      · exact qb q (beq_self_eq_true _).symm
    · refine ⟨rfl, rho_miss (by decide +kernel) (rho_miss (by decide +kernel) (rho_miss (by decide +kernel) h2)), rho_miss (by decide +kernel) rho_hit, Eq.trans rho_hit ?_⟩
      rw [List.length_map]
      unfold dueAll
      rw [List.take_zero, List.all_nil, Bool.and_true]
  · exact ⟨[], rfl, rfl, by simp, rho_miss (by decide +kernel) (rho_miss (by decide +kernel) (rho_miss (by decide +kernel) (rho_miss (by decide +kernel) rho_hit))), rho_miss (by decide +kernel) rho_hit, rho_miss (by decide +kernel) (rho_miss (by decide +kernel) rho_hit)⟩


end

-- P21
section
noncomputable def oddThings : List D := [.none, .lst [.int 1], .tup [.bool true, .int 5], .tup [.str "a"], .tup [.int 1, .str "a"]]
/-- a told thing: its sort, and itself -/
inductive ThingT : D → Prop
  | number (i : Int) : ThingT (.tup [.str "number", .int i])
  | truth (b : Bool) : ThingT (.tup [.str "truth", .bool b])
  | text (x : Str) (h1 : x.length ≤ 121) (h2 : PyData.strOk x = true) : ThingT (.tup [.str "text", .str x])
  | odd (d : D) (h : d ∈ oddThings) : ThingT (.tup [.str "none", d])
  | row (is : List Int) (h : is.length ≤ 3) : ThingT (.tup [.str "row", .tup (is.map .int)])
theorem S_own1N {c : Cx} {ρ : Rho} {e : Expr} {x y : Str} {k k2 : Nat} {pos p q1 q2 tp lp : Pos} {Qn : Rho → Oc → Prop} {Qr : D → Prop} (h1 : swapsWithSole [.Tuple [.Name x q1, .Name y q2] k p] (.Tuple [.List [] lp, e] k2 tp) pos.line c.env = pure false) (h2 : swappedStores [.Tuple [.Name x q1, .Name y q2] k p] (.Tuple [.List [] lp, e] k2 tp) c.env = pure (some [x, y]))
    (hs1 : starEach [.List [] lp, e] c.env = (false, eval (.List [] lp) c.env) :: starEach [e] c.env) (hs2 : starEach [e] c.env = (false, eval e c.env) :: starEach [] c.env)
    (hx : c.env.kindOf x = some .local) (h : ∀ rs, SemE (c.withRs rs) e ρ fun d => SemN (c.withRs rs) y d ρ none fun ρ' => ρ' x = none ∧ Qn ρ' (some (x, []))) : SemS c (.Assign [.Tuple [.Name x q1, .Name y q2] k p] (.Tuple [.List [] lp, e] k2 tp) pos) ρ none Qn Qr := S_own1 h1 h2 hs1 hs2 hx h
theorem fn_law_thing {w : World} {base : Heap} {mg mb : Str → Option Value} (W : Wd w base mg mb) : FnAt PySem.Challenge.rw_xm0979_01.prog w base mg "_law_thing" 3 (fun ds Q => ds = [.src] ∧ ∀ p, ThingT p → Q p) := by
  have F1 := fn_law_take W
  have F2 := fn_law_one W
  obtain ⟨loose, mean, T⟩ := W.T
  refine fn_plain T mem28 ["source"] (fun pm cd doc vs h => by match vs, h with | [v], _ => kernel_rfl) (by kernel_rfl) (by kernel_rfl) (by kernel_rfl) (by kernel_rfl) (by decide +kernel) (fun A L a cd sr fz s ds Q ⟨e, q⟩ => ?_)
  subst e
  refine ⟨rfl, ?_⟩
  rw [rhoOf1]
  conv => arg 2; whnf
  with_reducible
    refine B_cons ?_
    refine S_assign (by kernel_rfl!) ?_
    refine E_callW (by assumption) (by assumption) (by kernel_rfl) (by kernel_rfl) (by kernel_rfl) (by kernel_rfl) ?_
    refine L_cons ?_ (by kernel_rfl)
    refine E_local (by kernel_rfl!) rho_hit (by kernel_rfl) ?_
    refine L_cons ?_ (by kernel_rfl)
    refine E_int ?_
    refine L_nil ?_
    refine ⟨_, rfl, ?_⟩
    refine And.intro ?_ ?_
    rotate_left
    refine And.intro ?_ ?_
    rotate_left
    refine fun _ => ?_
    refine fun _ => ?_
    refine fun _ => ?_
    refine N_local (by kernel_rfl!) (by first | (simp; done) | (intro p e; cases e; dsimp only; decide +kernel)) ?_
    refine B_cons ?_
    refine S_if ?_
    refine C_cmp (by kernel_rfl) ?_
    refine E_local (by kernel_rfl!) rho_hit (by kernel_rfl) ?_
    refine E_int ?_
    refine O_eq_int ?_
    refine ⟨_, rfl, ?_⟩
    refine And.intro ?_ ?_
    refine fun _ => ?_
    refine B_cons ?_
    refine S_return ?_
    refine E_tuple ?_ (by decide)
    refine L_cons ?_ (by kernel_rfl)
    refine E_str ?_
    refine L_cons ?_ (by kernel_rfl)
    refine E_callW (by assumption) (by assumption) (by kernel_rfl) (by kernel_rfl) (by kernel_rfl) (by kernel_rfl) ?_
    refine L_cons ?_ (by kernel_rfl)
    refine E_local (by kernel_rfl!) (rho_h1 (by decide +kernel)) (by kernel_rfl) ?_
    refine L_cons ?_ (by kernel_rfl)
    refine E_list ?_ (by decide)
    refine L_cons ?_ (by kernel_rfl)
    refine E_int ?_
    refine L_cons ?_ (by kernel_rfl)
    refine E_int ?_
    refine L_cons ?_ (by kernel_rfl)
    refine E_int ?_
    refine L_cons ?_ (by kernel_rfl)
    refine E_int ?_
    refine L_cons ?_ (by kernel_rfl)
    refine E_int ?_
    refine L_cons ?_ (by kernel_rfl)
    refine E_int ?_
    refine L_cons ?_ (by kernel_rfl)
    refine E_int ?_
    refine L_cons ?_ (by kernel_rfl)
    refine E_neg ?_
    refine E_int ?_
    refine ⟨_, rfl, ?_⟩
    refine L_cons ?_ (by kernel_rfl)
    refine E_neg ?_
    refine E_int ?_
    refine ⟨_, rfl, ?_⟩
    refine L_cons ?_ (by kernel_rfl)
    refine E_int ?_
    refine L_cons ?_ (by kernel_rfl)
    refine E_int ?_
    refine L_cons ?_ (by kernel_rfl)
    refine E_callW (by assumption) (by assumption) (by kernel_rfl) (by kernel_rfl) (by kernel_rfl) (by kernel_rfl) ?_
    refine L_cons ?_ (by kernel_rfl)
    refine E_local (by kernel_rfl!) (rho_h1 (by decide +kernel)) (by kernel_rfl) ?_
    refine L_cons ?_ (by kernel_rfl)
    refine E_int ?_
    refine L_nil ?_
    refine ⟨_, rfl, ?_⟩
    refine And.intro ?_ ?_
    rotate_left
    refine And.intro ?_ ?_
    rotate_left
    refine fun _ => ?_
    refine fun _ => ?_
    refine fun _ => ?_
    refine L_nil ?_
    refine L_nil ?_
    refine ⟨_, rfl, ?_⟩
    refine And.intro ?_ ?_
    rotate_left
    refine And.intro ?_ ?_
    rotate_left
    refine fun _ => ?_
    refine fun _ => ?_
    refine L_nil ?_
    rotate_left
    refine fun _ => ?_
    refine B_nil ?_
    refine B_cons ?_
    refine S_if ?_
    refine C_cmp (by kernel_rfl) ?_
    refine E_local (by kernel_rfl!) rho_hit (by kernel_rfl) ?_
    refine E_int ?_
    refine O_eq_int ?_
    refine ⟨_, rfl, ?_⟩
    refine And.intro ?_ ?_
    refine fun _ => ?_
    refine B_cons ?_
    refine S_assign (by kernel_rfl!) ?_
    refine E_list ?_ (by decide)
    refine L_cons ?_ (by kernel_rfl)
    refine E_str ?_
    refine L_cons ?_ (by kernel_rfl)
    refine E_str ?_
    refine L_cons ?_ (by kernel_rfl)
    refine E_str ?_
    refine L_cons ?_ (by kernel_rfl)
    refine E_str ?_
    refine L_cons ?_ (by kernel_rfl)
    refine E_str ?_
    refine L_cons ?_ (by kernel_rfl)
    refine E_binop ?_
    refine E_str ?_
    refine E_int ?_
    refine O_mulstr ?_ ?_
    rotate_left
    refine L_cons ?_ (by kernel_rfl)
    refine E_binop ?_
    refine E_str ?_
    refine E_int ?_
    refine O_mulstr ?_ ?_
    rotate_left
    refine L_cons ?_ (by kernel_rfl)
    refine E_binop ?_
    refine E_str ?_
    refine E_int ?_
    refine O_mulstr ?_ ?_
    rotate_left
    refine L_cons ?_ (by kernel_rfl)
    refine E_str ?_
    refine L_cons ?_ (by kernel_rfl)
    refine E_str ?_
    refine L_nil ?_
    refine N_local (by kernel_rfl!) (by first | (simp; done) | (intro p e; cases e; dsimp only; decide +kernel)) ?_
    refine B_cons ?_
    refine S_return ?_
    refine E_tuple ?_ (by decide)
    refine L_cons ?_ (by kernel_rfl)
    refine E_str ?_
    refine L_cons ?_ (by kernel_rfl)
    refine E_callW (by assumption) (by assumption) (by kernel_rfl) (by kernel_rfl) (by kernel_rfl) (by kernel_rfl) ?_
    refine L_cons ?_ (by kernel_rfl)
    refine E_local (by kernel_rfl!) (rho_h2 (by decide +kernel)) (by kernel_rfl) ?_
    refine L_cons ?_ (by kernel_rfl)
    refine E_local (by kernel_rfl!) rho_hit (by kernel_rfl) ?_
    refine L_nil ?_
    refine ⟨_, rfl, ?_⟩
    refine And.intro ?_ ?_
    rotate_left
    refine And.intro ?_ ?_
    rotate_left
    refine fun _ => ?_
    refine fun _ => ?_
    refine L_nil ?_
    rotate_left
    refine fun _ => ?_
    refine B_nil ?_
    refine B_cons ?_
    refine S_if ?_
    refine C_cmp (by kernel_rfl) ?_
    refine E_local (by kernel_rfl!) rho_hit (by kernel_rfl) ?_
    refine E_int ?_
    refine O_eq_int ?_
    refine ⟨_, rfl, ?_⟩
    refine And.intro ?_ ?_
    refine fun _ => ?_
    refine B_cons ?_
    refine S_return ?_
    refine E_callW (by assumption) (by assumption) (by kernel_rfl) (by kernel_rfl) (by kernel_rfl) (by kernel_rfl) ?_
    refine L_cons ?_ (by kernel_rfl)
    refine E_local (by kernel_rfl!) (rho_h1 (by decide +kernel)) (by kernel_rfl) ?_
    refine L_cons ?_ (by kernel_rfl)
    refine E_list ?_ (by decide)
    refine L_cons ?_ (by kernel_rfl)
    refine E_tuple ?_ (by decide)
    refine L_cons ?_ (by kernel_rfl)
    refine E_str ?_
    refine L_cons ?_ (by kernel_rfl)
    refine E_bool ?_
    refine L_nil ?_
    refine L_cons ?_ (by kernel_rfl)
    refine E_tuple ?_ (by decide)
    refine L_cons ?_ (by kernel_rfl)
    refine E_str ?_
    refine L_cons ?_ (by kernel_rfl)
    refine E_bool ?_
    refine L_nil ?_
    refine L_cons ?_ (by kernel_rfl)
    refine E_tuple ?_ (by decide)
    refine L_cons ?_ (by kernel_rfl)
    refine E_str ?_
    refine L_cons ?_ (by kernel_rfl)
    refine E_none ?_
    refine L_nil ?_
    refine L_cons ?_ (by kernel_rfl)
    refine E_tuple ?_ (by decide)
    refine L_cons ?_ (by kernel_rfl)
    refine E_str ?_
    refine L_cons ?_ (by kernel_rfl)
    refine E_list ?_ (by decide)
    refine L_cons ?_ (by kernel_rfl)
    refine E_int ?_
    refine L_nil ?_
    refine L_nil ?_
    refine L_cons ?_ (by kernel_rfl)
    refine E_tuple ?_ (by decide)
    refine L_cons ?_ (by kernel_rfl)
    refine E_str ?_
    refine L_cons ?_ (by kernel_rfl)
    refine E_tuple ?_ (by decide)
    refine L_cons ?_ (by kernel_rfl)
    refine E_bool ?_
    refine L_cons ?_ (by kernel_rfl)
    refine E_int ?_
    refine L_nil ?_
    refine L_nil ?_
    refine L_cons ?_ (by kernel_rfl)
    refine E_tuple ?_ (by decide)
    refine L_cons ?_ (by kernel_rfl)
    refine E_str ?_
    refine L_cons ?_ (by kernel_rfl)
    refine E_tuple ?_ (by decide)
    refine L_cons ?_ (by kernel_rfl)
    refine E_str ?_
    refine L_nil ?_
    refine L_nil ?_
    refine L_cons ?_ (by kernel_rfl)
    refine E_tuple ?_ (by decide)
    refine L_cons ?_ (by kernel_rfl)
    refine E_str ?_
    refine L_cons ?_ (by kernel_rfl)
    refine E_tuple ?_ (by decide)
    refine L_cons ?_ (by kernel_rfl)
    refine E_int ?_
    refine L_cons ?_ (by kernel_rfl)
    refine E_str ?_
    refine L_nil ?_
    refine L_nil ?_
    refine L_nil ?_
    refine L_nil ?_
    refine ⟨_, rfl, ?_⟩
    refine And.intro ?_ ?_
    rotate_left
    refine And.intro ?_ ?_
    rotate_left
    refine fun _ => ?_
    refine fun _ => ?_
    rotate_left
    refine fun _ => ?_
    refine B_nil ?_
    refine B_cons ?_
    refine S_own1N (by kernel_rfl) (by kernel_rfl!) (by kernel_rfl) (by kernel_rfl) (by kernel_rfl!) ?_
    refine fun _ => ?_
    refine E_callW (by assumption) (by assumption) (by kernel_rfl) (by kernel_rfl) (by kernel_rfl) (by kernel_rfl) ?_
    refine L_cons ?_ (by kernel_rfl)
    refine E_local (by kernel_rfl!) (rho_h1 (by decide +kernel)) (by kernel_rfl) ?_
    refine L_cons ?_ (by kernel_rfl)
    refine E_list ?_ (by decide)
    refine L_cons ?_ (by kernel_rfl)
    refine E_int ?_
    refine L_cons ?_ (by kernel_rfl)
    refine E_int ?_
    refine L_cons ?_ (by kernel_rfl)
    refine E_int ?_
    refine L_cons ?_ (by kernel_rfl)
    refine E_int ?_
    refine L_cons ?_ (by kernel_rfl)
    refine E_int ?_
    refine L_nil ?_
    refine L_nil ?_
    refine ⟨_, rfl, ?_⟩
    refine And.intro ?_ ?_
    rotate_left
    refine And.intro ?_ ?_
    rotate_left
    refine fun _ => ?_
    refine fun _ => ?_
    refine N_local (by kernel_rfl!) (by first | (simp; done) | (intro p e; cases e; dsimp only; decide +kernel)) ?_
    refine And.intro ?_ ?_
  rfl
  with_reducible
    refine B_cons ?_
    refine S_for (by intro _; kernel_rfl) ?_
    refine Src_rangeW (by assumption) (by kernel_rfl) (by kernel_rfl) (by kernel_rfl) ?_
    refine L_cons ?_ (by kernel_rfl)
    refine E_callW (by assumption) (by assumption) (by kernel_rfl) (by kernel_rfl) (by kernel_rfl) (by kernel_rfl) ?_
    refine L_cons ?_ (by kernel_rfl)
    refine E_local (by kernel_rfl!) (rho_h2 (by decide +kernel)) (by kernel_rfl) ?_
    refine L_cons ?_ (by kernel_rfl)
    refine E_int ?_
    refine L_nil ?_
    refine ⟨_, rfl, ?_⟩
    refine And.intro ?_ ?_
    rotate_left
    refine And.intro ?_ ?_
    rotate_left
    refine fun _ => ?_
    refine fun _ => ?_
    refine fun _ => ?_
    refine L_nil ?_
    rotate_left
  all_goals try (first | decide | omega | (simp; done))
  · rename_i d hd
    simp only [List.mem_cons, List.not_mem_nil, or_false] at hd
    rcases hd with rfl | rfl | rfl | rfl | rfl | rfl | rfl | rfl | rfl | rfl | rfl | rfl <;> exact q _ (.number _)
  · exact mulOk1 rfl (by decide) (by decide)
  · exact mulOk1 rfl (by decide) (by decide)
  · exact mulOk1 rfl (by decide) (by decide)
  · rename_i d hd
    simp only [List.mem_cons, List.not_mem_nil, or_false] at hd
    rcases hd with rfl | rfl | rfl | rfl | rfl | rfl | rfl | rfl | rfl | rfl <;> exact q _ (.text _ (by decide +kernel) (by decide +kernel))
  · rename_i d hd
    simp only [List.mem_cons, List.not_mem_nil, or_false] at hd
    rcases hd with rfl | rfl | rfl | rfl | rfl | rfl | rfl
    · exact q _ (.truth _)
    · exact q _ (.truth _)
    all_goals exact q _ (.odd _ (by simp [oddThings]))
  · rename_i rs num hnum r hr0 hr1
    obtain ⟨i0, rfl⟩ : ∃ i, num = .int i := by
      simp only [List.mem_cons, List.not_mem_nil, or_false] at hnum
      rcases hnum with rfl | rfl | rfl | rfl | rfl <;> exact ⟨_, rfl⟩
    refine ⟨0, r, .inl ⟨rfl, rfl⟩, by omega, by omega, by omega, by omega, ?_⟩
    refine turns_0 (fun i ρ oc => ∃ (is : List Int) (n : Int), oc = some (("row" : Str), is.map D.int) ∧ is.length = i ∧ ρ "source" = some .src ∧ ρ "number" = some (.int n)) _ (fun k d ρ oc hk hJ rs => ?_) (fun ρ oc hJ => ?_) ?_
    · obtain ⟨is, n, rfl, hn, h1, h2⟩ := hJ
      have hk3 : k < 3 := by
        have := (List.getElem?_eq_some_iff.mp hk).1
        simp [intsD] at this; omega
      with_reducible
        refine A_local (by kernel_rfl!) (by first | (simp; done) | (intro p e; cases e; dsimp only; decide +kernel)) ?_
        refine B_cons ?_
        refine S_append (by kernel_rfl) (by kernel_rfl) (by decide +kernel) (by kernel_rfl) (by kernel_rfl) (by kernel_rfl) (by kernel_rfl) ?_ ?_
        rotate_left
        refine E_local (by kernel_rfl!) (rho_a1 (by decide +kernel) (by assumption)) (by kernel_rfl) ?_
        refine B_cons ?_
        refine S_assign (by kernel_rfl!) ?_
        refine E_binop ?_
        refine E_local (by kernel_rfl!) (rho_a1 (by decide +kernel) (by assumption)) (by kernel_rfl) ?_
        refine E_callW (by assumption) (by assumption) (by kernel_rfl) (by kernel_rfl) (by kernel_rfl) (by kernel_rfl) ?_
        refine L_cons ?_ (by kernel_rfl)
        refine E_local (by kernel_rfl!) (rho_a1 (by decide +kernel) (by assumption)) (by kernel_rfl) ?_
        refine L_cons ?_ (by kernel_rfl)
        refine E_list ?_ (by decide)
        refine L_cons ?_ (by kernel_rfl)
        refine E_int ?_
        refine L_cons ?_ (by kernel_rfl)
        refine E_int ?_
        refine L_cons ?_ (by kernel_rfl)
        refine E_int ?_
        refine L_cons ?_ (by kernel_rfl)
        refine E_int ?_
        refine L_cons ?_ (by kernel_rfl)
        refine E_int ?_
        refine L_cons ?_ (by kernel_rfl)
        refine E_neg ?_
        refine E_int ?_
        refine ⟨_, rfl, ?_⟩
        refine L_nil ?_
        refine L_nil ?_
        refine ⟨_, rfl, ?_⟩
        refine And.intro ?_ ?_
        rotate_left
        refine And.intro ?_ ?_
        rotate_left
        refine fun _ => ?_
        refine fun _ => ?_
        rotate_left
      all_goals try (first | decide | omega | (simp; done) | (simp; omega))
      rename_i m hm
      obtain ⟨j, rfl⟩ : ∃ i, m = .int i := by
        simp only [List.mem_cons, List.not_mem_nil, or_false] at hm
        rcases hm with rfl | rfl | rfl | rfl | rfl | rfl <;> exact ⟨_, rfl⟩
      with_reducible
        refine O_add ?_
        refine N_local (by kernel_rfl!) (by first | (simp; done) | (intro p e; cases e; dsimp only; decide +kernel)) ?_
        refine B_nil ?_
        rotate_left
      refine ⟨is ++ [n], n + j, by rw [List.map_append]; rfl, by rw [List.length_append, hn]; rfl, rho_miss (by decide +kernel) (rho_miss (by decide +kernel) h1), rho_hit⟩
    · obtain ⟨is, n, rfl, hn, h1, h2⟩ := hJ
      have hl : is.length ≤ 3 := by
        rw [hn]; simp [intsD]; omega
      refine B_freeze ?_
      with_reducible
        refine B_cons ?_
        refine S_return ?_
        refine E_tuple ?_ (by decide)
        refine L_cons ?_ (by kernel_rfl)
        refine E_str ?_
        refine L_cons ?_ (by kernel_rfl)
        refine E_tupleT (by assumption) (by kernel_rfl) (by kernel_rfl) (by kernel_rfl) ?_
        refine L_cons ?_ (by kernel_rfl)
        refine E_local (by kernel_rfl!) rho_hit (by kernel_rfl) ?_
        refine L_nil ?_
        refine L_tuple_lst ?_ ?_
        rotate_left
        refine L_nil ?_
        rotate_left
      · rw [List.length_map]; omega
      · exact q _ (.row _ hl)
    · exact ⟨[], i0, rfl, rfl, rho_miss (by decide +kernel) (rho_miss (by decide +kernel) rho_hit), rho_hit⟩


end

-- P22
section
theorem so2 : (∀ a ∈ (["number", "truth", "text", "none", "row"] : List Str), PyData.strOk a = true ∧ ∀ b ∈ (["number", "truth", "text", "none", "row"] : List Str), a ≠ b → (a == b) = false) := by decide +kernel
structure ThingR (so : Str) (th : D) : Prop where
  sok : PyData.strOk so = true
  ok : ThingOk th
  text : (so == "text") = true → ∃ x, th = .str x ∧ x.length ≤ 121 ∧ PyData.strOk x = true
  row : (so == "row") = true → ∃ is : List Int, th = .tup (is.map .int) ∧ is.length ≤ 3
theorem ne_str {a b : Str} (h : (a == b) = false) (e : (a == b) = true) {P : Prop} : P := by rw [h] at e; cases e
theorem sorts_ne : (("number" : Str) == "truth") = false ∧ (("number" : Str) == "text") = false ∧ (("number" : Str) == "row") = false ∧ (("truth" : Str) == "number") = false ∧ (("truth" : Str) == "text") = false ∧ (("truth" : Str) == "row") = false ∧
    (("text" : Str) == "number") = false ∧ (("text" : Str) == "truth") = false ∧ (("text" : Str) == "row") = false ∧ (("none" : Str) == "number") = false ∧ (("none" : Str) == "truth") = false ∧ (("none" : Str) == "text") = false ∧ (("none" : Str) == "row") = false ∧
    (("row" : Str) == "number") = false ∧ (("row" : Str) == "truth") = false ∧ (("row" : Str) == "text") = false := by decide +kernel
theorem ints_fine (is : List Int) : FineL (is.map .int) := fun d hd => by
  obtain ⟨i, _, rfl⟩ := List.mem_map.mp hd
  exact ⟨rfl, Nat.zero_le _⟩
theorem odd_ok : ∀ d ∈ oddThings, ThingOk d := by
  intro d hd
  simp only [oddThings, List.mem_cons, List.not_mem_nil, or_false] at hd
  rcases hd with rfl | rfl | rfl | rfl | rfl
  · exact ⟨by decide +kernel, fun x e => (nomatch e), fun l e => by cases e⟩
  · exact ⟨by decide +kernel, fun x e => (nomatch e), fun l e => by cases e⟩
  · exact ⟨by decide +kernel, fun x e => (nomatch e), fun l e => by cases e; exact ⟨by decide, by intro d hd; simp only [List.mem_cons, List.not_mem_nil, or_false] at hd; rcases hd with rfl | rfl <;> exact ⟨rfl, by decide⟩⟩⟩
  · exact ⟨by decide +kernel, fun x e => (nomatch e), fun l e => by cases e; exact ⟨by decide, by intro d hd; simp only [List.mem_cons, List.not_mem_nil, or_false] at hd; subst hd; exact ⟨by decide +kernel, by decide⟩⟩⟩
  · exact ⟨by decide +kernel, fun x e => (nomatch e), fun l e => by cases e; exact ⟨by decide, by intro d hd; simp only [List.mem_cons, List.not_mem_nil, or_false] at hd; rcases hd with rfl | rfl <;> exact ⟨by decide +kernel, by decide⟩⟩⟩
theorem ThingT.is {p : D} (h : ThingT p) : ∃ so th, p = .tup [.str so, th] ∧ ThingR so th := by
  obtain ⟨n1, n2, n3, n4, n5, n6, n7, n8, n9, n10, n11, n12, n13, n14, n15, n16⟩ := sorts_ne
  have ok : ∀ a ∈ (["number", "truth", "text", "none", "row"] : List Str), PyData.strOk a = true := fun a ha => (so2 a ha).1
  cases h with
  | number i => exact ⟨_, _, rfl, ok _ (by simp), ⟨rfl, fun x e => (nomatch e), fun l e => by cases e⟩, fun e => ne_str n2 e, fun e => ne_str n3 e⟩
  | truth b => exact ⟨_, _, rfl, ok _ (by simp), ⟨rfl, fun x e => (nomatch e), fun l e => by cases e⟩, fun e => ne_str n5 e, fun e => ne_str n6 e⟩
  | text x h1 h2 => exact ⟨_, _, rfl, ok _ (by simp), ⟨by simp [D.fine, D.ok, D.dep, h2], fun y e => by cases e; exact ⟨by omega, h2⟩, fun l e => by cases e⟩, fun _ => ⟨x, rfl, h1, h2⟩, fun e => ne_str n9 e⟩
  | odd d hd => exact ⟨_, _, rfl, ok _ (by simp), odd_ok d hd, fun e => ne_str n12 e, fun e => ne_str n13 e⟩
  | row is hl => exact ⟨_, _, rfl, ok _ (by simp), ⟨D.fine_tup (ints_fine is), fun x e => (nomatch e), fun l e => by cases e; exact ⟨by rw [List.length_map]; omega, ints_fine is⟩⟩, fun e => ne_str n16 e, fun _ => ⟨is, rfl, hl⟩⟩
noncomputable def Kd.Law : Kd → Prop
  | .number lo hi st => (lo = 0 ∧ hi = 240 ∧ st = 16) ∨ (lo = 1 ∧ hi = 10 ∧ st = 1) ∨ (lo = -16 ∧ hi = 16 ∧ st = 16)
  | .word ws => ws = (["off", "mst"] : List Str)
  | .text n => n = none ∨ n = some 5
  | _ => True
noncomputable def kinds11 : List D := [.tup [.str "truth"], .tup [.str "number", .int 0, .int 240, .int 16], .tup [.str "number", .int 1, .int 10, .int 1], .tup [.str "number", .int (-16), .int 16, .int 16], .tup [.str "word", .tup [.str "off", .str "mst"]], .tup [.str "name"], .tup [.str "text"], .tup [.str "text", .int 5], .tup [.str "numbers", .int 1, .int 4094], .tup [.str "numbers", .int 1, .int 4094], .tup [.str "numbers", .int 0, .int 2]]
theorem kinds_of {d : D} (h : d ∈ kinds11) : ∃ k : Kd, d = k.d ∧ k.Law := by
  simp only [kinds11, List.mem_cons, List.not_mem_nil, or_false] at h
  rcases h with rfl | rfl | rfl | rfl | rfl | rfl | rfl | rfl | rfl | rfl | rfl
  · exact ⟨.truth, rfl, trivial⟩
  · exact ⟨.number 0 240 16, rfl, .inl ⟨rfl, rfl, rfl⟩⟩
  · exact ⟨.number 1 10 1, rfl, .inr (.inl ⟨rfl, rfl, rfl⟩)⟩
  · exact ⟨.number (-16) 16 16, rfl, .inr (.inr ⟨rfl, rfl, rfl⟩)⟩
  · exact ⟨.word ["off", "mst"], rfl, rfl⟩
  · exact ⟨.name, rfl, trivial⟩
  · exact ⟨.text none, rfl, .inl rfl⟩
  · exact ⟨.text (some 5), rfl, .inr rfl⟩
  · exact ⟨.numbers 1 4094, rfl, trivial⟩
  · exact ⟨.numbers 1 4094, rfl, trivial⟩
  · exact ⟨.numbers 0 2, rfl, trivial⟩
theorem Kd.Law.ok {k : Kd} (h : k.Law) : k.Ok := by
  cases k with
  | truth => trivial
  | number lo hi st => rcases h with ⟨_, _, rfl⟩ | ⟨_, _, rfl⟩ | ⟨_, _, rfl⟩ <;> (show (_ : Int) ≠ 0; decide)
  | word ws => cases h; show ∀ x ∈ (["off", "mst"] : List Str), _; decide +kernel
  | name => trivial
  | text n => rcases h with rfl | rfl <;> first | trivial | (show (5 : Int) ≤ 100000; decide)
  | numbers lo hi => trivial
/-- plain law: the numbers of a range by steps -/
theorem steps_in (a st i : Int) (n : Nat) : (D.int i).inn (stepsD a st n) = true ↔ ∃ k : Nat, k < n ∧ a + (k : Int) * st = i := by
  unfold D.inn
  rw [List.any_eq_true]
  have pys : ∀ l : List D, D.pys l = l.map D.py := by
    intro l; induction l with
    | nil => rfl
    | cons d l ih => rw [D.pys, ih]; rfl
  rw [pys]
  simp only [stepsD, List.mem_map, List.mem_range]
  constructor
  · rintro ⟨y, ⟨d, ⟨k, hk, rfl⟩, rfl⟩, e⟩
    refine ⟨k, hk, ?_⟩
    simpa [D.py, PyData.eqv] using e
  · rintro ⟨k, hk, rfl⟩
    exact ⟨_, ⟨_, ⟨k, hk, rfl⟩, rfl⟩, by simp [D.py, PyData.eqv]⟩
noncomputable def numOk (lo hi st i : Int) : Bool := decide (lo ≤ i) && decide (i ≤ hi) && (i.fmod st == 0)
theorem number_range {lo hi st : Int} (h : (Kd.number lo hi st).Law) : ∃ n : Nat, 0 < st ∧ st < 2 ^ 31 ∧ Builtin.Range.small lo (hi + 1) st = true ∧ Builtin.Range.rangeSize lo (hi + 1) st = n ∧ n ≤ 1000000 ∧ ∀ i : Int, (D.int i).inn (stepsD lo st n) = numOk lo hi st i := by
  have key : ∀ (n : Nat) (lo hi st : Int), (∀ i : Int, (∃ k : Nat, k < n ∧ lo + (k : Int) * st = i) ↔ (lo ≤ i ∧ i ≤ hi ∧ i.fmod st = 0)) → ∀ i : Int, (D.int i).inn (stepsD lo st n) = numOk lo hi st i := fun n lo hi st hh i => by
    rw [Bool.eq_iff_iff, steps_in, hh i]
    simp [numOk, and_assoc]
  rcases h with ⟨rfl, rfl, rfl⟩ | ⟨rfl, rfl, rfl⟩ | ⟨rfl, rfl, rfl⟩
  · refine ⟨16, by decide, by decide, by decide +kernel, by decide +kernel, by decide, key _ _ _ _ fun i => ?_⟩
    rw [Int.fmod_eq_emod_of_nonneg i (by decide)]
    constructor
    · rintro ⟨k, hk, rfl⟩; omega
    · rintro ⟨h1, h2, h3⟩; exact ⟨(i / 16).toNat, by omega, by omega⟩
  · refine ⟨10, by decide, by decide, by decide +kernel, by decide +kernel, by decide, key _ _ _ _ fun i => ?_⟩
    rw [Int.fmod_eq_emod_of_nonneg i (by decide)]
    constructor
    · rintro ⟨k, hk, rfl⟩; omega
    · rintro ⟨h1, h2, h3⟩; exact ⟨(i - 1).toNat, by omega, by omega⟩
  · refine ⟨3, by decide, by decide, by decide +kernel, by decide +kernel, by decide, key _ _ _ _ fun i => ?_⟩
    rw [Int.fmod_eq_emod_of_nonneg i (by decide)]
    constructor
    · rintro ⟨k, hk, rfl⟩; omega
    · rintro ⟨h1, h2, h3⟩; exact ⟨((i + 16) / 16).toNat, by omega, by omega⟩
theorem kind_truth {p : D} {so : Str} {th : D} (h : ThingT p) (e : p = .tup [.str so, th]) : fitsKind .truth th = (so == "truth") := by
  obtain ⟨n1, n2, n3, n4, n5, n6, n7, n8, n9, n10, n11, n12, n13, n14, n15, n16⟩ := sorts_ne
  cases h with
  | number i => cases e; rw [n1]; rfl
  | truth b => cases e; rfl
  | text x h1 h2 => cases e; rw [n8]; rfl
  | odd d hd =>
    cases e; rw [n11]
    simp only [oddThings, List.mem_cons, List.not_mem_nil, or_false] at hd
    rcases hd with rfl | rfl | rfl | rfl | rfl <;> rfl
  | row is hl => cases e; rw [n15]; rfl
theorem kind_number {p : D} {so : Str} {th : D} {lo hi st : Int} (h : ThingT p) (e : p = .tup [.str so, th]) : ((so == "number") = false → fitsKind (.number lo hi st) th = false) ∧ ((so == "number") = true → ∃ i, th = .int i) := by
  obtain ⟨n1, n2, n3, n4, n5, n6, n7, n8, n9, n10, n11, n12, n13, n14, n15, n16⟩ := sorts_ne
  cases h with
  | number i => cases e; exact ⟨fun q => by simp at q, fun _ => ⟨i, rfl⟩⟩
  | truth b => cases e; exact ⟨fun _ => rfl, fun q => ne_str n4 q⟩
  | text x h1 h2 => cases e; exact ⟨fun _ => rfl, fun q => ne_str n7 q⟩
  | odd d hd =>
    cases e
    simp only [oddThings, List.mem_cons, List.not_mem_nil, or_false] at hd
    refine ⟨fun _ => ?_, fun q => ne_str n10 q⟩
    rcases hd with rfl | rfl | rfl | rfl | rfl <;> rfl
  | row is hl => cases e; exact ⟨fun _ => rfl, fun q => ne_str n14 q⟩
theorem kind_text {p : D} {so : Str} {th : D} (h : ThingT p) (e : p = .tup [.str so, th]) (q : (so == "text") = false) : fitsKind (.word ["off", "mst"]) th = false ∧ fitsKind .name th = false ∧ ∀ n, fitsKind (.text n) th = false := by
  cases h with
  | number i => cases e; exact ⟨rfl, rfl, fun _ => rfl⟩
  | truth b => cases e; exact ⟨rfl, rfl, fun _ => rfl⟩
  | text x h1 h2 => cases e; simp at q
  | odd d hd =>
    cases e
    simp only [oddThings, List.mem_cons, List.not_mem_nil, or_false] at hd
    rcases hd with rfl | rfl | rfl | rfl | rfl <;> exact ⟨rfl, rfl, fun _ => rfl⟩
  | row is hl => cases e; exact ⟨rfl, rfl, fun _ => rfl⟩
theorem kind_row {p : D} {so : Str} {th : D} {lo hi : Int} (h : ThingT p) (e : p = .tup [.str so, th]) (q : (so == "row") = false) : fitsKind (.numbers lo hi) th = false := by
  cases h with
  | number i => cases e; rfl
  | truth b => cases e; rfl
  | text x h1 h2 => cases e; rfl
  | odd d hd =>
    cases e
    simp only [oddThings, List.mem_cons, List.not_mem_nil, or_false] at hd
    rcases hd with rfl | rfl | rfl | rfl | rfl <;> rfl
  | row is hl => cases e; simp at q
noncomputable def outP (lo hi : Int) (d : D) : Bool := match d with
  | .int i => decide (i < lo) || decide (hi < i)
  | _ => false
theorem wholes_ints : ∀ is : List Int, wholes (is.map .int) = some is
  | [] => rfl
  | i :: is => by rw [List.map_cons, wholes, wholes_ints is]; rfl
theorem row_range {lo hi : Int} {is : List Int} (hl : is.length ≤ 3) (ha : ascB is = true) : rangeB lo hi is = ((is.map .int).filter (outP lo hi)).isEmpty := by
  have e : ((is.map .int).filter (outP lo hi)).isEmpty = is.all fun i => !(decide (i < lo) || decide (hi < i)) := by
    clear ha hl
    induction is with
    | nil => rfl
    | cons a is ih =>
      rw [List.map_cons, List.filter_cons, List.all_cons, ← ih]
      show (List.isEmpty (if (decide (a < lo) || decide (hi < a)) = true then (D.int a :: _) else _ : List D)) = _
      cases (decide (a < lo) || decide (hi < a)) <;> rfl
  rw [e]
  match is, hl, ha with
  | [], _, _ => rfl
  | [a], _, _ =>
    rw [Bool.eq_iff_iff]; simp [rangeB]
  | [a, b], _, ha =>
    have h1 : a < b := by
      simp only [ascB, intsD, List.length_cons, List.length_nil] at ha
      simp [List.range, List.range.loop, fallP] at ha
      omega
    rw [Bool.eq_iff_iff]; simp [rangeB]; omega
  | [a, b, c], _, ha =>
    have h1 : a < b ∧ b < c := by
      simp only [ascB, intsD, List.length_cons, List.length_nil] at ha
      simp [List.range, List.range.loop, fallP] at ha
      omega
    rw [Bool.eq_iff_iff]; simp [rangeB]; omega

theorem E_list_rangeW {c : Cx} {ρ : Rho} {Q : D → Prop} {pos p1 p2 pos2 : Pos} {e1 e2 e3 : Expr} {mg mb : Str → Option Value} (W : Wd c.w c.base mg mb) (hx : c.env.kindOf "list" = some .globalImplicit) (hxr : c.env.kindOf "range" = some .globalImplicit)
    (hst0 : starEach [.Call (.Name "range" p2) [e1, e2, e3] [] pos2] c.env = (false, eval (.Call (.Name "range" p2) [e1, e2, e3] [] pos2) c.env) :: starEach [] c.env) (hpl0 : ((backTo pos (starEach [] c.env)).any fun x => x.1) = false)
    (hst : starEach [e1, e2, e3] c.env = (false, eval e1 c.env) :: starEach [e2, e3] c.env) (hpl : ((backTo pos2 (starEach [e2, e3] c.env)).any fun x => x.1) = false)
    (h : SemL c pos2 [e1, e2, e3] ρ fun ds => ∃ a b st : Int, ∃ n : Nat, ds = [.int a, .int b, .int st] ∧ 0 < st ∧ st < 2 ^ 31 ∧ Builtin.Range.small a b st = true ∧ Builtin.Range.rangeSize a b st = n ∧ n ≤ 1000000 ∧ Q (.lst (stepsD a st n))) :
    SemE c (.Call (.Name "list" p1) [.Call (.Name "range" p2) [e1, e2, e3] [] pos2] [] pos) ρ Q :=
  E_list_range hx (by decide +kernel) hxr (by decide +kernel) W.G W.B W.list0 W.list1 W.range0 W.range1 hst0 hpl0 hst hpl h
theorem O_eq_bool' {c : Cx} {Q : D → Prop} {i j : Bool} (q : Q (.bool (i == j))) : OpD c (compareOp .Eq) (.bool i) (.bool j) Q := O_eq (by rfl) (by rfl) q
theorem fn_law_kind_right {w : World} {base : Heap} {mg mb : Str → Option Value} (W : Wd w base mg mb) : FnAt PySem.Challenge.rw_xm0979_01.prog w base mg "_law_kind_right" 4 (fun ds Q => ds = [.src] ∧ Q (.bool true)) := by
  have F2 := fn_law_one W
  have F3 := fn_law_thing W
  have F4 := fn_law_is_name W
  have F5 := fn_law_is_plain W
  have F6 := fn_fits_kind W
  obtain ⟨loose, mean, T⟩ := W.T
  refine fn_cells T mem29 "source" (fun pm cd doc v => by kernel_rfl) (fun L => .inl (by kernel_rfl)) (fun L x h => cellsFrom_has (.inl h)) (by kernel_rfl) (by kernel_rfl) (by kernel_rfl) (fun A L a pm cd doc sr fz s d Q hq => ?_) (fun ds Q ⟨e, _⟩ => ⟨_, e⟩)
  obtain ⟨e, q⟩ := hq
  cases e
  rw [rhoOf1]
  conv => arg 2; whnf
  with_reducible
    refine B_cons ?_
    refine S_assignT (by kernel_rfl) (by kernel_rfl!) ?_
    refine E_callW (by assumption) (by assumption) (by kernel_rfl) (by kernel_rfl) (by kernel_rfl) (by kernel_rfl) ?_
    refine L_cons ?_ (by kernel_rfl)
    refine E_local (by kernel_rfl!) rho_hit (by kernel_rfl) ?_
    refine L_nil ?_
    refine And.intro ?_ ?_
    rfl
    refine fun _ => ?_
    refine fun _ => ?_
    rotate_left
  all_goals try (first | decide | omega | (simp; done))
  rename_i p hp
  obtain ⟨so, th, e, R⟩ := hp.is
  subst e
  obtain ⟨hso, hth, htx, hrow⟩ := R
  have hfine := hth.fine
  with_reducible
    refine A_tuple (by kernel_rfl) (by kernel_rfl) ?_
    refine As_cons (by kernel_rfl) ?_
    refine A_local (by kernel_rfl!) (by first | (simp; done) | (intro p e; cases e; dsimp only; decide +kernel)) ?_
    refine As_cons (by kernel_rfl) ?_
    refine A_cell (by kernel_rfl!) (by kernel_rfl) (by kernel_rfl) ?_
    refine As_nil ?_
    refine B_cons ?_
    refine S_assign (by kernel_rfl!) ?_
    refine E_callW (by assumption) (by assumption) (by kernel_rfl) (by kernel_rfl) (by kernel_rfl) (by kernel_rfl) ?_
    refine L_cons ?_ (by kernel_rfl)
    refine E_local (by kernel_rfl!) (rho_h2 (by decide +kernel)) (by kernel_rfl) ?_
    refine L_cons ?_ (by kernel_rfl)
    refine E_list ?_ (by decide)
    refine L_cons ?_ (by kernel_rfl)
    refine E_tuple ?_ (by decide)
    refine L_cons ?_ (by kernel_rfl)
    refine E_str ?_
    refine L_nil ?_
    refine L_cons ?_ (by kernel_rfl)
    refine E_tuple ?_ (by decide)
    refine L_cons ?_ (by kernel_rfl)
    refine E_str ?_
    refine L_cons ?_ (by kernel_rfl)
    refine E_int ?_
    refine L_cons ?_ (by kernel_rfl)
    refine E_int ?_
    refine L_cons ?_ (by kernel_rfl)
    refine E_int ?_
    refine L_nil ?_
    refine L_cons ?_ (by kernel_rfl)
    refine E_tuple ?_ (by decide)
    refine L_cons ?_ (by kernel_rfl)
    refine E_str ?_
    refine L_cons ?_ (by kernel_rfl)
    refine E_int ?_
    refine L_cons ?_ (by kernel_rfl)
    refine E_int ?_
    refine L_cons ?_ (by kernel_rfl)
    refine E_int ?_
    refine L_nil ?_
    refine L_cons ?_ (by kernel_rfl)
    refine E_tuple ?_ (by decide)
    refine L_cons ?_ (by kernel_rfl)
    refine E_str ?_
    refine L_cons ?_ (by kernel_rfl)
    refine E_neg ?_
    refine E_int ?_
    refine ⟨_, rfl, ?_⟩
    refine L_cons ?_ (by kernel_rfl)
    refine E_int ?_
    refine L_cons ?_ (by kernel_rfl)
    refine E_int ?_
    refine L_nil ?_
    refine L_cons ?_ (by kernel_rfl)
    refine E_tuple ?_ (by decide)
    refine L_cons ?_ (by kernel_rfl)
    refine E_str ?_
    refine L_cons ?_ (by kernel_rfl)
    refine E_tuple ?_ (by decide)
    refine L_cons ?_ (by kernel_rfl)
    refine E_str ?_
    refine L_cons ?_ (by kernel_rfl)
    refine E_str ?_
    refine L_nil ?_
    refine L_nil ?_
    refine L_cons ?_ (by kernel_rfl)
    refine E_tuple ?_ (by decide)
    refine L_cons ?_ (by kernel_rfl)
    refine E_str ?_
    refine L_nil ?_
    refine L_cons ?_ (by kernel_rfl)
    refine E_tuple ?_ (by decide)
    refine L_cons ?_ (by kernel_rfl)
    refine E_str ?_
    refine L_nil ?_
    refine L_cons ?_ (by kernel_rfl)
    refine E_tuple ?_ (by decide)
    refine L_cons ?_ (by kernel_rfl)
    refine E_str ?_
    refine L_cons ?_ (by kernel_rfl)
    refine E_int ?_
    refine L_nil ?_
    refine L_cons ?_ (by kernel_rfl)
    refine E_tuple ?_ (by decide)
    refine L_cons ?_ (by kernel_rfl)
    refine E_str ?_
    refine L_cons ?_ (by kernel_rfl)
    refine E_int ?_
    refine L_cons ?_ (by kernel_rfl)
    refine E_int ?_
    refine L_nil ?_
    refine L_cons ?_ (by kernel_rfl)
    refine E_tuple ?_ (by decide)
    refine L_cons ?_ (by kernel_rfl)
    refine E_str ?_
    refine L_cons ?_ (by kernel_rfl)
    refine E_int ?_
    refine L_cons ?_ (by kernel_rfl)
    refine E_int ?_
    refine L_nil ?_
    refine L_cons ?_ (by kernel_rfl)
    refine E_tuple ?_ (by decide)
    refine L_cons ?_ (by kernel_rfl)
    refine E_str ?_
    refine L_cons ?_ (by kernel_rfl)
    refine E_int ?_
    refine L_cons ?_ (by kernel_rfl)
    refine E_int ?_
    refine L_nil ?_
    refine L_nil ?_
    refine L_nil ?_
    refine ⟨_, rfl, ?_⟩
    refine And.intro ?_ ?_
    rotate_left
    refine And.intro ?_ ?_
    rotate_left
    refine fun _ => ?_
    refine fun _ => ?_
    refine N_cell (by kernel_rfl!) (by kernel_rfl) (by kernel_rfl) ?_
    refine B_cons ?_
    refine S_assign (by kernel_rfl!) ?_
    refine E_bool ?_
    refine N_local (by kernel_rfl!) (by first | (simp; done) | (intro p e; cases e; dsimp only; decide +kernel)) ?_
    refine B_cons ?_
    refine S_if ?_
    refine C_cmp (by kernel_rfl) ?_
    refine E_index ?_
    refine E_cell (by kernel_rfl!) (rho_h1 (by decide +kernel)) (by kernel_rfl) ?_
    refine E_int ?_
    rotate_left
  all_goals try (first | decide | omega | (simp; done))
  rename_i kd hkd
  obtain ⟨k, e, hK⟩ := kinds_of hkd
  subst e
  have hOk := hK.ok
  clear hkd
  cases k with
  | truth =>
    dsimp only [Kd.d]
    have hd := kind_truth hp rfl
    with_reducible
      refine O_tup0 (by intro _ _ _; kernel_rfl) ?_
      refine E_str ?_
      refine O_eq_str (by first | assumption | kernel_rfl!) (by first | assumption | kernel_rfl!) ?_
      refine ⟨_, rfl, ?_⟩
      refine And.intro ?_ ?_
      refine fun _ => ?_
      refine B_cons ?_
      refine S_assign (by kernel_rfl!) ?_
      refine E_cmp (by kernel_rfl) ?_
      refine E_local (by kernel_rfl!) (rho_h3 (by decide +kernel)) (by kernel_rfl) ?_
      refine E_str ?_
      refine O_eq_str (by first | assumption | kernel_rfl!) (by first | assumption | kernel_rfl!) ?_
      refine N_local (by kernel_rfl!) (by first | (simp; done) | (intro p e; cases e; dsimp only; decide +kernel)) ?_
      refine B_nil ?_
      refine B_cons ?_
      refine S_return ?_
      refine E_cmp (by kernel_rfl) ?_
      refine E_callW (by assumption) (by assumption) (by kernel_rfl) (by kernel_rfl) (by kernel_rfl) (by kernel_rfl) ?_
      refine L_cons ?_ (by kernel_rfl)
      refine E_cell (by kernel_rfl!) (rho_h2 (by decide +kernel)) (by kernel_rfl) ?_
      refine L_cons ?_ (by kernel_rfl)
      refine E_cell (by kernel_rfl!) (rho_h3 (by decide +kernel)) (by kernel_rfl) ?_
      refine L_nil ?_
      rotate_left
    with_reducible refine dead ?_
    rfl
    refine ⟨.truth, th, rfl, hOk, hth, ?_⟩
    with_reducible
      refine E_local (by kernel_rfl!) rho_hit (by kernel_rfl) ?_
      refine O_eq_bool' ?_
      rotate_left
    exact qb q (by rw [hd]; exact (beq_self_eq_true _).symm)
  | number lo hi st =>
    dsimp only [Kd.d]
    obtain ⟨hd1, hd2⟩ := kind_number (lo := lo) (hi := hi) (st := st) hp rfl
    obtain ⟨n, g1, g2, g3, g4, g5, g6⟩ := number_range hK
    have hsf : (D.lst (stepsD lo st n)).fine = true := D.fine_lst fun d hd => by
      obtain ⟨j, _, rfl⟩ := List.mem_map.mp hd
      exact ⟨rfl, Nat.zero_le _⟩
    with_reducible
      refine O_tup0 (by intro _ _ _; kernel_rfl) ?_
      refine E_str ?_
      refine O_eq_str (by first | assumption | kernel_rfl!) (by first | assumption | kernel_rfl!) ?_
      refine ⟨_, rfl, ?_⟩
      refine And.intro ?_ ?_
    with_reducible refine dead ?_
    rfl
    with_reducible
      refine fun _ => ?_
      refine B_cons ?_
      refine S_if ?_
      refine C_cmp (by kernel_rfl) ?_
      refine E_index ?_
      refine E_cell (by kernel_rfl!) (rho_h1 (by decide +kernel)) (by kernel_rfl) ?_
      refine E_int ?_
      refine O_tup0 (by intro _ _ _; kernel_rfl) ?_
      refine E_str ?_
      refine O_eq_str (by first | assumption | kernel_rfl!) (by first | assumption | kernel_rfl!) ?_
      refine ⟨_, rfl, ?_⟩
      refine And.intro ?_ ?_
      refine fun _ => ?_
      refine B_cons ?_
      refine S_assign (by kernel_rfl!) ?_
      refine E_and ?_
      refine E_cmp (by kernel_rfl) ?_
      refine E_local (by kernel_rfl!) (rho_h3 (by decide +kernel)) (by kernel_rfl) ?_
      refine E_str ?_
      refine O_eq_str (by first | assumption | kernel_rfl!) (by first | assumption | kernel_rfl!) ?_
      refine ⟨_, rfl, ?_⟩
      refine And.intro ?_ ?_
      refine fun _ => ?_
      refine E_bool1 ?_
      refine E_cmp (by kernel_rfl) ?_
      refine E_cell (by kernel_rfl!) (rho_h2 (by decide +kernel)) (by kernel_rfl) ?_
      refine E_list_rangeW (by assumption) (by kernel_rfl) (by kernel_rfl) (by kernel_rfl) (by kernel_rfl) (by kernel_rfl) (by kernel_rfl) ?_
      refine L_cons ?_ (by kernel_rfl)
      refine E_index ?_
      refine E_cell (by kernel_rfl!) (rho_h1 (by decide +kernel)) (by kernel_rfl) ?_
      refine E_int ?_
      refine O_tup1 (by intro _ _ _; kernel_rfl) ?_
      refine L_cons ?_ (by kernel_rfl)
      refine E_binop ?_
      refine E_index ?_
      refine E_cell (by kernel_rfl!) (rho_h1 (by decide +kernel)) (by kernel_rfl) ?_
      refine E_int ?_
      refine O_tup2 (by intro _ _ _; kernel_rfl) ?_
      refine E_int ?_
      refine O_add ?_
      refine L_cons ?_ (by kernel_rfl)
      refine E_index ?_
      refine E_cell (by kernel_rfl!) (rho_h1 (by decide +kernel)) (by kernel_rfl) ?_
      refine E_int ?_
      refine O_tup3 (by intro _ _ _; kernel_rfl) ?_
      refine L_nil ?_
      rotate_left
      refine fun _ => ?_
      refine N_local (by kernel_rfl!) (by first | (simp; done) | (intro p e; cases e; dsimp only; decide +kernel)) ?_
      refine B_nil ?_
      refine B_nil ?_
      refine B_cons ?_
      refine S_return ?_
      refine E_cmp (by kernel_rfl) ?_
      refine E_callW (by assumption) (by assumption) (by kernel_rfl) (by kernel_rfl) (by kernel_rfl) (by kernel_rfl) ?_
      refine L_cons ?_ (by kernel_rfl)
      refine E_cell (by kernel_rfl!) (rho_h2 (by decide +kernel)) (by kernel_rfl) ?_
      refine L_cons ?_ (by kernel_rfl)
      refine E_cell (by kernel_rfl!) (rho_h3 (by decide +kernel)) (by kernel_rfl) ?_
      refine L_nil ?_
      rotate_left
    with_reducible refine dead ?_
    rfl
    · refine ⟨lo, hi + 1, st, n, rfl, g1, g2, g3, g4, g5, ?_⟩
      obtain ⟨i, rfl⟩ := hd2 (by assumption)
      refine O_in_lst rfl hsf ?_
      rw [g6]
      with_reducible
        refine N_local (by kernel_rfl!) (by first | (simp; done) | (intro p e; cases e; dsimp only; decide +kernel)) ?_
        refine B_nil ?_
        refine B_nil ?_
        refine B_cons ?_
        refine S_return ?_
        refine E_cmp (by kernel_rfl) ?_
        refine E_callW (by assumption) (by assumption) (by kernel_rfl) (by kernel_rfl) (by kernel_rfl) (by kernel_rfl) ?_
        refine L_cons ?_ (by kernel_rfl)
        refine E_cell (by kernel_rfl!) (rho_h2 (by decide +kernel)) (by kernel_rfl) ?_
        refine L_cons ?_ (by kernel_rfl)
        refine E_cell (by kernel_rfl!) (rho_h3 (by decide +kernel)) (by kernel_rfl) ?_
        refine L_nil ?_
        rotate_left
      refine ⟨.number lo hi st, _, rfl, hOk, hth, ?_⟩
      with_reducible
        refine E_local (by kernel_rfl!) rho_hit (by kernel_rfl) ?_
        refine O_eq_bool' ?_
        rotate_left
      exact qb q (beq_self_eq_true _).symm
    · refine ⟨.number lo hi st, th, rfl, hOk, hth, ?_⟩
      have hd := hd1 (by assumption)
      with_reducible
        refine E_local (by kernel_rfl!) rho_hit (by kernel_rfl) ?_
        refine O_eq_bool' ?_
        rotate_left
      exact qb q (by rw [hd]; rfl)
  | word ws =>
    dsimp only [Kd.d]
    cases hK
    have hd := fun e => (kind_text hp rfl e).1
    with_reducible
      refine O_tup0 (by intro _ _ _; kernel_rfl) ?_
      refine E_str ?_
      refine O_eq_str (by first | assumption | kernel_rfl!) (by first | assumption | kernel_rfl!) ?_
      refine ⟨_, rfl, ?_⟩
      refine And.intro ?_ ?_
    with_reducible refine dead ?_
    rfl
    with_reducible
      refine fun _ => ?_
      refine B_cons ?_
      refine S_if ?_
      refine C_cmp (by kernel_rfl) ?_
      refine E_index ?_
      refine E_cell (by kernel_rfl!) (rho_h1 (by decide +kernel)) (by kernel_rfl) ?_
      refine E_int ?_
      refine O_tup0 (by intro _ _ _; kernel_rfl) ?_
      refine E_str ?_
      refine O_eq_str (by first | assumption | kernel_rfl!) (by first | assumption | kernel_rfl!) ?_
      refine ⟨_, rfl, ?_⟩
      refine And.intro ?_ ?_
    with_reducible refine dead ?_
    rfl
    with_reducible
      refine fun _ => ?_
      refine B_cons ?_
      refine S_if ?_
      refine C_cmp (by kernel_rfl) ?_
      refine E_index ?_
      refine E_cell (by kernel_rfl!) (rho_h1 (by decide +kernel)) (by kernel_rfl) ?_
      refine E_int ?_
      refine O_tup0 (by intro _ _ _; kernel_rfl) ?_
      refine E_str ?_
      refine O_eq_str (by first | assumption | kernel_rfl!) (by first | assumption | kernel_rfl!) ?_
      refine ⟨_, rfl, ?_⟩
      refine And.intro ?_ ?_
      refine fun _ => ?_
      refine B_cons ?_
      refine S_assign (by kernel_rfl!) ?_
      refine E_and ?_
      refine E_cmp (by kernel_rfl) ?_
      refine E_local (by kernel_rfl!) (rho_h3 (by decide +kernel)) (by kernel_rfl) ?_
      refine E_str ?_
      refine O_eq_str (by first | assumption | kernel_rfl!) (by first | assumption | kernel_rfl!) ?_
      refine ⟨_, rfl, ?_⟩
      refine And.intro ?_ ?_
      refine fun _ => ?_
      refine E_bool1 ?_
      refine E_or ?_
      refine E_cmp (by kernel_rfl) ?_
      refine E_cell (by kernel_rfl!) (rho_h2 (by decide +kernel)) (by kernel_rfl) ?_
      refine E_str ?_
      rotate_left
      refine fun _ => ?_
      refine N_local (by kernel_rfl!) (by first | (simp; done) | (intro p e; cases e; dsimp only; decide +kernel)) ?_
      refine B_nil ?_
      refine B_nil ?_
      refine B_nil ?_
      refine B_cons ?_
      refine S_return ?_
      refine E_cmp (by kernel_rfl) ?_
      refine E_callW (by assumption) (by assumption) (by kernel_rfl) (by kernel_rfl) (by kernel_rfl) (by kernel_rfl) ?_
      refine L_cons ?_ (by kernel_rfl)
      refine E_cell (by kernel_rfl!) (rho_h2 (by decide +kernel)) (by kernel_rfl) ?_
      refine L_cons ?_ (by kernel_rfl)
      refine E_cell (by kernel_rfl!) (rho_h3 (by decide +kernel)) (by kernel_rfl) ?_
      refine L_nil ?_
      rotate_left
    with_reducible refine dead ?_
    rfl
    · obtain ⟨x, rfl, hx1, hx2⟩ := htx (by assumption)
      have hin : fitsKind (.word ["off", "mst"]) (.str x) = ((x == "off") || (x == "mst")) := by
        show (("off" : Str) == x || (("mst" : Str) == x || false)) = _
        rw [Bool.or_false, Bool.beq_comm (a := ("off" : Str)), Bool.beq_comm (a := ("mst" : Str))]
      with_reducible
        refine O_eq_str (by first | assumption | kernel_rfl!) (by first | assumption | kernel_rfl!) ?_
        refine ⟨_, rfl, ?_⟩
        refine And.intro ?_ ?_
        refine fun _ => ?_
        refine N_local (by kernel_rfl!) (by first | (simp; done) | (intro p e; cases e; dsimp only; decide +kernel)) ?_
        refine B_nil ?_
        refine B_nil ?_
        refine B_nil ?_
        refine B_cons ?_
        refine S_return ?_
        refine E_cmp (by kernel_rfl) ?_
        refine E_callW (by assumption) (by assumption) (by kernel_rfl) (by kernel_rfl) (by kernel_rfl) (by kernel_rfl) ?_
        refine L_cons ?_ (by kernel_rfl)
        refine E_cell (by kernel_rfl!) (rho_h2 (by decide +kernel)) (by kernel_rfl) ?_
        refine L_cons ?_ (by kernel_rfl)
        refine E_cell (by kernel_rfl!) (rho_h3 (by decide +kernel)) (by kernel_rfl) ?_
        refine L_nil ?_
        rotate_left
        refine fun _ => ?_
        refine E_bool1 ?_
        refine E_cmp (by kernel_rfl) ?_
        refine E_cell (by kernel_rfl!) (rho_h2 (by decide +kernel)) (by kernel_rfl) ?_
        refine E_str ?_
        refine O_eq_str (by first | assumption | kernel_rfl!) (by first | assumption | kernel_rfl!) ?_
        refine N_local (by kernel_rfl!) (by first | (simp; done) | (intro p e; cases e; dsimp only; decide +kernel)) ?_
        refine B_nil ?_
        refine B_nil ?_
        refine B_nil ?_
        refine B_cons ?_
        refine S_return ?_
        refine E_cmp (by kernel_rfl) ?_
        refine E_callW (by assumption) (by assumption) (by kernel_rfl) (by kernel_rfl) (by kernel_rfl) (by kernel_rfl) ?_
        refine L_cons ?_ (by kernel_rfl)
        refine E_cell (by kernel_rfl!) (rho_h2 (by decide +kernel)) (by kernel_rfl) ?_
        refine L_cons ?_ (by kernel_rfl)
        refine E_cell (by kernel_rfl!) (rho_h3 (by decide +kernel)) (by kernel_rfl) ?_
        refine L_nil ?_
        rotate_left
      · rename_i h1
        refine ⟨.word ["off", "mst"], _, rfl, hOk, hth, ?_⟩
        with_reducible
          refine E_local (by kernel_rfl!) rho_hit (by kernel_rfl) ?_
          refine O_eq_bool' ?_
          rotate_left
        exact qb q (by rw [hin, h1]; rfl)
      · rename_i h1
        refine ⟨.word ["off", "mst"], _, rfl, hOk, hth, ?_⟩
        with_reducible
          refine E_local (by kernel_rfl!) rho_hit (by kernel_rfl) ?_
          refine O_eq_bool' ?_
          rotate_left
        exact qb q (by rw [hin, h1, Bool.false_or]; exact (beq_self_eq_true _).symm)
    · refine ⟨.word ["off", "mst"], th, rfl, hOk, hth, ?_⟩
      have hd := hd (by assumption)
      with_reducible
        refine E_local (by kernel_rfl!) rho_hit (by kernel_rfl) ?_
        refine O_eq_bool' ?_
        rotate_left
      exact qb q (by rw [hd]; rfl)
  | name =>
    dsimp only [Kd.d]
    have hd := fun e => (kind_text hp rfl e).2.1
    with_reducible
      refine O_tup0 (by intro _ _ _; kernel_rfl) ?_
      refine E_str ?_
      refine O_eq_str (by first | assumption | kernel_rfl!) (by first | assumption | kernel_rfl!) ?_
      refine ⟨_, rfl, ?_⟩
      refine And.intro ?_ ?_
    with_reducible refine dead ?_
    rfl
    with_reducible
      refine fun _ => ?_
      refine B_cons ?_
      refine S_if ?_
      refine C_cmp (by kernel_rfl) ?_
      refine E_index ?_
      refine E_cell (by kernel_rfl!) (rho_h1 (by decide +kernel)) (by kernel_rfl) ?_
      refine E_int ?_
      refine O_tup0 (by intro _ _ _; kernel_rfl) ?_
      refine E_str ?_
      refine O_eq_str (by first | assumption | kernel_rfl!) (by first | assumption | kernel_rfl!) ?_
      refine ⟨_, rfl, ?_⟩
      refine And.intro ?_ ?_
    with_reducible refine dead ?_
    rfl
    with_reducible
      refine fun _ => ?_
      refine B_cons ?_
      refine S_if ?_
      refine C_cmp (by kernel_rfl) ?_
      refine E_index ?_
      refine E_cell (by kernel_rfl!) (rho_h1 (by decide +kernel)) (by kernel_rfl) ?_
      refine E_int ?_
      refine O_tup0 (by intro _ _ _; kernel_rfl) ?_
      refine E_str ?_
      refine O_eq_str (by first | assumption | kernel_rfl!) (by first | assumption | kernel_rfl!) ?_
      refine ⟨_, rfl, ?_⟩
      refine And.intro ?_ ?_
    with_reducible refine dead ?_
    rfl
    with_reducible
      refine fun _ => ?_
      refine B_cons ?_
      refine S_if ?_
      refine C_cmp (by kernel_rfl) ?_
      refine E_index ?_
      refine E_cell (by kernel_rfl!) (rho_h1 (by decide +kernel)) (by kernel_rfl) ?_
      refine E_int ?_
      refine O_tup0 (by intro _ _ _; kernel_rfl) ?_
      refine E_str ?_
      refine O_eq_str (by first | assumption | kernel_rfl!) (by first | assumption | kernel_rfl!) ?_
      refine ⟨_, rfl, ?_⟩
      refine And.intro ?_ ?_
      refine fun _ => ?_
      refine B_cons ?_
      refine S_assign (by kernel_rfl!) ?_
      refine E_and ?_
      refine E_cmp (by kernel_rfl) ?_
      refine E_local (by kernel_rfl!) (rho_h3 (by decide +kernel)) (by kernel_rfl) ?_
      refine E_str ?_
      refine O_eq_str (by first | assumption | kernel_rfl!) (by first | assumption | kernel_rfl!) ?_
      refine ⟨_, rfl, ?_⟩
      refine And.intro ?_ ?_
      refine fun _ => ?_
      refine E_bool1 ?_
      refine E_callW (by assumption) (by assumption) (by kernel_rfl) (by kernel_rfl) (by kernel_rfl) (by kernel_rfl) ?_
      refine L_cons ?_ (by kernel_rfl)
      refine E_cell (by kernel_rfl!) (rho_h2 (by decide +kernel)) (by kernel_rfl) ?_
      refine L_nil ?_
      rotate_left
      refine fun _ => ?_
      refine N_local (by kernel_rfl!) (by first | (simp; done) | (intro p e; cases e; dsimp only; decide +kernel)) ?_
      refine B_nil ?_
      refine B_nil ?_
      refine B_nil ?_
      refine B_nil ?_
      refine B_cons ?_
      refine S_return ?_
      refine E_cmp (by kernel_rfl) ?_
      refine E_callW (by assumption) (by assumption) (by kernel_rfl) (by kernel_rfl) (by kernel_rfl) (by kernel_rfl) ?_
      refine L_cons ?_ (by kernel_rfl)
      refine E_cell (by kernel_rfl!) (rho_h2 (by decide +kernel)) (by kernel_rfl) ?_
      refine L_cons ?_ (by kernel_rfl)
      refine E_cell (by kernel_rfl!) (rho_h3 (by decide +kernel)) (by kernel_rfl) ?_
      refine L_nil ?_
      rotate_left
    with_reducible refine dead ?_
    rfl
    · obtain ⟨x, rfl, hx1, hx2⟩ := htx (by assumption)
      refine ⟨x, rfl, by omega, ?_⟩
      with_reducible
        refine N_local (by kernel_rfl!) (by first | (simp; done) | (intro p e; cases e; dsimp only; decide +kernel)) ?_
        refine B_nil ?_
        refine B_nil ?_
        refine B_nil ?_
        refine B_nil ?_
        refine B_cons ?_
        refine S_return ?_
        refine E_cmp (by kernel_rfl) ?_
        refine E_callW (by assumption) (by assumption) (by kernel_rfl) (by kernel_rfl) (by kernel_rfl) (by kernel_rfl) ?_
        refine L_cons ?_ (by kernel_rfl)
        refine E_cell (by kernel_rfl!) (rho_h2 (by decide +kernel)) (by kernel_rfl) ?_
        refine L_cons ?_ (by kernel_rfl)
        refine E_cell (by kernel_rfl!) (rho_h3 (by decide +kernel)) (by kernel_rfl) ?_
        refine L_nil ?_
        rotate_left
      refine ⟨.name, _, rfl, hOk, hth, ?_⟩
      with_reducible
        refine E_local (by kernel_rfl!) rho_hit (by kernel_rfl) ?_
        refine O_eq_bool' ?_
        rotate_left
      exact qb q (by show true = (isName (.str x) == lawName x); rw [name_eq]; exact (beq_self_eq_true _).symm)
    · refine ⟨.name, th, rfl, hOk, hth, ?_⟩
      have hd := hd (by assumption)
      with_reducible
        refine E_local (by kernel_rfl!) rho_hit (by kernel_rfl) ?_
        refine O_eq_bool' ?_
        rotate_left
      exact qb q (by rw [hd]; rfl)
  | text n =>
    have hd := fun e => (kind_text hp rfl e).2.2 n
    rcases hK with rfl | rfl
    · dsimp only [Kd.d]
      with_reducible
        refine O_tup0 (by intro _ _ _; kernel_rfl) ?_
        refine E_str ?_
        refine O_eq_str (by first | assumption | kernel_rfl!) (by first | assumption | kernel_rfl!) ?_
        refine ⟨_, rfl, ?_⟩
        refine And.intro ?_ ?_
      with_reducible refine dead ?_
      rfl
      with_reducible
        refine fun _ => ?_
        refine B_cons ?_
        refine S_if ?_
        refine C_cmp (by kernel_rfl) ?_
        refine E_index ?_
        refine E_cell (by kernel_rfl!) (rho_h1 (by decide +kernel)) (by kernel_rfl) ?_
        refine E_int ?_
        refine O_tup0 (by intro _ _ _; kernel_rfl) ?_
        refine E_str ?_
        refine O_eq_str (by first | assumption | kernel_rfl!) (by first | assumption | kernel_rfl!) ?_
        refine ⟨_, rfl, ?_⟩
        refine And.intro ?_ ?_
      with_reducible refine dead ?_
      rfl
      with_reducible
        refine fun _ => ?_
        refine B_cons ?_
        refine S_if ?_
        refine C_cmp (by kernel_rfl) ?_
        refine E_index ?_
        refine E_cell (by kernel_rfl!) (rho_h1 (by decide +kernel)) (by kernel_rfl) ?_
        refine E_int ?_
        refine O_tup0 (by intro _ _ _; kernel_rfl) ?_
        refine E_str ?_
        refine O_eq_str (by first | assumption | kernel_rfl!) (by first | assumption | kernel_rfl!) ?_
        refine ⟨_, rfl, ?_⟩
        refine And.intro ?_ ?_
      with_reducible refine dead ?_
      rfl
      with_reducible
        refine fun _ => ?_
        refine B_cons ?_
        refine S_if ?_
        refine C_cmp (by kernel_rfl) ?_
        refine E_index ?_
        refine E_cell (by kernel_rfl!) (rho_h1 (by decide +kernel)) (by kernel_rfl) ?_
        refine E_int ?_
        refine O_tup0 (by intro _ _ _; kernel_rfl) ?_
        refine E_str ?_
        refine O_eq_str (by first | assumption | kernel_rfl!) (by first | assumption | kernel_rfl!) ?_
        refine ⟨_, rfl, ?_⟩
        refine And.intro ?_ ?_
      with_reducible refine dead ?_
      rfl
      with_reducible
        refine fun _ => ?_
        refine B_cons ?_
        refine S_if ?_
        refine C_cmp (by kernel_rfl) ?_
        refine E_index ?_
        refine E_cell (by kernel_rfl!) (rho_h1 (by decide +kernel)) (by kernel_rfl) ?_
        refine E_int ?_
        refine O_tup0 (by intro _ _ _; kernel_rfl) ?_
        refine E_str ?_
        refine O_eq_str (by first | assumption | kernel_rfl!) (by first | assumption | kernel_rfl!) ?_
        refine ⟨_, rfl, ?_⟩
        refine And.intro ?_ ?_
        refine fun _ => ?_
        refine B_cons ?_
        refine S_assign (by kernel_rfl!) ?_
        refine E_and ?_
        refine E_cmp (by kernel_rfl) ?_
        refine E_local (by kernel_rfl!) (rho_h3 (by decide +kernel)) (by kernel_rfl) ?_
        refine E_str ?_
        refine O_eq_str (by first | assumption | kernel_rfl!) (by first | assumption | kernel_rfl!) ?_
        refine ⟨_, rfl, ?_⟩
        refine And.intro ?_ ?_
        refine fun _ => ?_
        refine E_bool1 ?_
        refine E_callW (by assumption) (by assumption) (by kernel_rfl) (by kernel_rfl) (by kernel_rfl) (by kernel_rfl) ?_
        refine L_cons ?_ (by kernel_rfl)
        refine E_cell (by kernel_rfl!) (rho_h2 (by decide +kernel)) (by kernel_rfl) ?_
        refine L_cons ?_ (by kernel_rfl)
        refine E_ifexp ?_
        refine C_cmp (by kernel_rfl) ?_
        refine E_len (by assumption) (by kernel_rfl) (by kernel_rfl) (by kernel_rfl) ?_
        refine L_cons ?_ (by kernel_rfl)
        refine E_cell (by kernel_rfl!) (rho_h1 (by decide +kernel)) (by kernel_rfl) ?_
        refine L_nil ?_
        refine L_len_tup ?_ ?_
        rotate_left
        refine E_int ?_
        refine O_eq_int ?_
        refine ⟨_, rfl, ?_⟩
        refine And.intro ?_ ?_
      with_reducible refine dead ?_
      rfl
      with_reducible
        refine fun _ => ?_
        refine E_int ?_
        refine L_nil ?_
        rotate_left
        refine fun _ => ?_
        refine N_local (by kernel_rfl!) (by first | (simp; done) | (intro p e; cases e; dsimp only; decide +kernel)) ?_
        refine B_nil ?_
        refine B_nil ?_
        refine B_nil ?_
        refine B_nil ?_
        refine B_nil ?_
        refine B_cons ?_
        refine S_return ?_
        refine E_cmp (by kernel_rfl) ?_
        refine E_callW (by assumption) (by assumption) (by kernel_rfl) (by kernel_rfl) (by kernel_rfl) (by kernel_rfl) ?_
        refine L_cons ?_ (by kernel_rfl)
        refine E_cell (by kernel_rfl!) (rho_h2 (by decide +kernel)) (by kernel_rfl) ?_
        refine L_cons ?_ (by kernel_rfl)
        refine E_cell (by kernel_rfl!) (rho_h3 (by decide +kernel)) (by kernel_rfl) ?_
        refine L_nil ?_
        rotate_left
      with_reducible refine dead ?_
      rfl
      · decide
      · obtain ⟨x, rfl, hx1, hx2⟩ := htx (by assumption)
        refine ⟨x, 120, rfl, by decide, by omega, hx2, ?_⟩
        with_reducible
          refine N_local (by kernel_rfl!) (by first | (simp; done) | (intro p e; cases e; dsimp only; decide +kernel)) ?_
          refine B_nil ?_
          refine B_nil ?_
          refine B_nil ?_
          refine B_nil ?_
          refine B_nil ?_
          refine B_cons ?_
          refine S_return ?_
          refine E_cmp (by kernel_rfl) ?_
          refine E_callW (by assumption) (by assumption) (by kernel_rfl) (by kernel_rfl) (by kernel_rfl) (by kernel_rfl) ?_
          refine L_cons ?_ (by kernel_rfl)
          refine E_cell (by kernel_rfl!) (rho_h2 (by decide +kernel)) (by kernel_rfl) ?_
          refine L_cons ?_ (by kernel_rfl)
          refine E_cell (by kernel_rfl!) (rho_h3 (by decide +kernel)) (by kernel_rfl) ?_
          refine L_nil ?_
          rotate_left
        refine ⟨.text none, _, rfl, hOk, hth, ?_⟩
        with_reducible
          refine E_local (by kernel_rfl!) rho_hit (by kernel_rfl) ?_
          refine O_eq_bool' ?_
          rotate_left
        exact qb q (by show true = (isPlain (.str x) 120 == lawPlain x 120); rw [plainText_eq]; exact (beq_self_eq_true _).symm)
      · refine ⟨.text none, th, rfl, hOk, hth, ?_⟩
        have hd := hd (by assumption)
        with_reducible
          refine E_local (by kernel_rfl!) rho_hit (by kernel_rfl) ?_
          refine O_eq_bool' ?_
          rotate_left
        exact qb q (by rw [hd]; rfl)
    · dsimp only [Kd.d]
      with_reducible
        refine O_tup0 (by intro _ _ _; kernel_rfl) ?_
        refine E_str ?_
        refine O_eq_str (by first | assumption | kernel_rfl!) (by first | assumption | kernel_rfl!) ?_
        refine ⟨_, rfl, ?_⟩
        refine And.intro ?_ ?_
      with_reducible refine dead ?_
      rfl
      with_reducible
        refine fun _ => ?_
        refine B_cons ?_
        refine S_if ?_
        refine C_cmp (by kernel_rfl) ?_
        refine E_index ?_
        refine E_cell (by kernel_rfl!) (rho_h1 (by decide +kernel)) (by kernel_rfl) ?_
        refine E_int ?_
        refine O_tup0 (by intro _ _ _; kernel_rfl) ?_
        refine E_str ?_
        refine O_eq_str (by first | assumption | kernel_rfl!) (by first | assumption | kernel_rfl!) ?_
        refine ⟨_, rfl, ?_⟩
        refine And.intro ?_ ?_
      with_reducible refine dead ?_
      rfl
      with_reducible
        refine fun _ => ?_
        refine B_cons ?_
        refine S_if ?_
        refine C_cmp (by kernel_rfl) ?_
        refine E_index ?_
        refine E_cell (by kernel_rfl!) (rho_h1 (by decide +kernel)) (by kernel_rfl) ?_
        refine E_int ?_
        refine O_tup0 (by intro _ _ _; kernel_rfl) ?_
        refine E_str ?_
        refine O_eq_str (by first | assumption | kernel_rfl!) (by first | assumption | kernel_rfl!) ?_
        refine ⟨_, rfl, ?_⟩
        refine And.intro ?_ ?_
      with_reducible refine dead ?_
      rfl
      with_reducible
        refine fun _ => ?_
        refine B_cons ?_
        refine S_if ?_
        refine C_cmp (by kernel_rfl) ?_
        refine E_index ?_
        refine E_cell (by kernel_rfl!) (rho_h1 (by decide +kernel)) (by kernel_rfl) ?_
        refine E_int ?_
        refine O_tup0 (by intro _ _ _; kernel_rfl) ?_
        refine E_str ?_
        refine O_eq_str (by first | assumption | kernel_rfl!) (by first | assumption | kernel_rfl!) ?_
        refine ⟨_, rfl, ?_⟩
        refine And.intro ?_ ?_
      with_reducible refine dead ?_
      rfl
      with_reducible
        refine fun _ => ?_
        refine B_cons ?_
        refine S_if ?_
        refine C_cmp (by kernel_rfl) ?_
        refine E_index ?_
        refine E_cell (by kernel_rfl!) (rho_h1 (by decide +kernel)) (by kernel_rfl) ?_
        refine E_int ?_
        refine O_tup0 (by intro _ _ _; kernel_rfl) ?_
        refine E_str ?_
        refine O_eq_str (by first | assumption | kernel_rfl!) (by first | assumption | kernel_rfl!) ?_
        refine ⟨_, rfl, ?_⟩
        refine And.intro ?_ ?_
        refine fun _ => ?_
        refine B_cons ?_
        refine S_assign (by kernel_rfl!) ?_
        refine E_and ?_
        refine E_cmp (by kernel_rfl) ?_
        refine E_local (by kernel_rfl!) (rho_h3 (by decide +kernel)) (by kernel_rfl) ?_
        refine E_str ?_
        refine O_eq_str (by first | assumption | kernel_rfl!) (by first | assumption | kernel_rfl!) ?_
        refine ⟨_, rfl, ?_⟩
        refine And.intro ?_ ?_
        refine fun _ => ?_
        refine E_bool1 ?_
        refine E_callW (by assumption) (by assumption) (by kernel_rfl) (by kernel_rfl) (by kernel_rfl) (by kernel_rfl) ?_
        refine L_cons ?_ (by kernel_rfl)
        refine E_cell (by kernel_rfl!) (rho_h2 (by decide +kernel)) (by kernel_rfl) ?_
        refine L_cons ?_ (by kernel_rfl)
        refine E_ifexp ?_
        refine C_cmp (by kernel_rfl) ?_
        refine E_len (by assumption) (by kernel_rfl) (by kernel_rfl) (by kernel_rfl) ?_
        refine L_cons ?_ (by kernel_rfl)
        refine E_cell (by kernel_rfl!) (rho_h1 (by decide +kernel)) (by kernel_rfl) ?_
        refine L_nil ?_
        refine L_len_tup ?_ ?_
        rotate_left
        refine E_int ?_
        refine O_eq_int ?_
        refine ⟨_, rfl, ?_⟩
        refine And.intro ?_ ?_
        refine fun _ => ?_
        refine E_int ?_
        refine L_nil ?_
        rotate_left
      with_reducible refine dead ?_
      rfl
      with_reducible
        refine fun _ => ?_
        refine N_local (by kernel_rfl!) (by first | (simp; done) | (intro p e; cases e; dsimp only; decide +kernel)) ?_
        refine B_nil ?_
        refine B_nil ?_
        refine B_nil ?_
        refine B_nil ?_
        refine B_nil ?_
        refine B_cons ?_
        refine S_return ?_
        refine E_cmp (by kernel_rfl) ?_
        refine E_callW (by assumption) (by assumption) (by kernel_rfl) (by kernel_rfl) (by kernel_rfl) (by kernel_rfl) ?_
        refine L_cons ?_ (by kernel_rfl)
        refine E_cell (by kernel_rfl!) (rho_h2 (by decide +kernel)) (by kernel_rfl) ?_
        refine L_cons ?_ (by kernel_rfl)
        refine E_cell (by kernel_rfl!) (rho_h3 (by decide +kernel)) (by kernel_rfl) ?_
        refine L_nil ?_
        rotate_left
      with_reducible refine dead ?_
      rfl
      · decide
      · obtain ⟨x, rfl, hx1, hx2⟩ := htx (by assumption)
        refine ⟨x, 5, rfl, by decide, by omega, hx2, ?_⟩
        with_reducible
          refine N_local (by kernel_rfl!) (by first | (simp; done) | (intro p e; cases e; dsimp only; decide +kernel)) ?_
          refine B_nil ?_
          refine B_nil ?_
          refine B_nil ?_
          refine B_nil ?_
          refine B_nil ?_
          refine B_cons ?_
          refine S_return ?_
          refine E_cmp (by kernel_rfl) ?_
          refine E_callW (by assumption) (by assumption) (by kernel_rfl) (by kernel_rfl) (by kernel_rfl) (by kernel_rfl) ?_
          refine L_cons ?_ (by kernel_rfl)
          refine E_cell (by kernel_rfl!) (rho_h2 (by decide +kernel)) (by kernel_rfl) ?_
          refine L_cons ?_ (by kernel_rfl)
          refine E_cell (by kernel_rfl!) (rho_h3 (by decide +kernel)) (by kernel_rfl) ?_
          refine L_nil ?_
          rotate_left
        refine ⟨.text (some 5), _, rfl, hOk, hth, ?_⟩
        with_reducible
          refine E_local (by kernel_rfl!) rho_hit (by kernel_rfl) ?_
          refine O_eq_bool' ?_
          rotate_left
        exact qb q (by show true = (isPlain (.str x) 5 == lawPlain x 5); rw [plainText_eq]; exact (beq_self_eq_true _).symm)
      · refine ⟨.text (some 5), th, rfl, hOk, hth, ?_⟩
        have hd := hd (by assumption)
        with_reducible
          refine E_local (by kernel_rfl!) rho_hit (by kernel_rfl) ?_
          refine O_eq_bool' ?_
          rotate_left
        exact qb q (by rw [hd]; rfl)
  | numbers lo hi =>
    dsimp only [Kd.d]
    have hd := kind_row (lo := lo) (hi := hi) hp rfl
    with_reducible
      refine O_tup0 (by intro _ _ _; kernel_rfl) ?_
      refine E_str ?_
      refine O_eq_str (by first | assumption | kernel_rfl!) (by first | assumption | kernel_rfl!) ?_
      refine ⟨_, rfl, ?_⟩
      refine And.intro ?_ ?_
    with_reducible refine dead ?_
    rfl
    with_reducible
      refine fun _ => ?_
      refine B_cons ?_
      refine S_if ?_
      refine C_cmp (by kernel_rfl) ?_
      refine E_index ?_
      refine E_cell (by kernel_rfl!) (rho_h1 (by decide +kernel)) (by kernel_rfl) ?_
      refine E_int ?_
      refine O_tup0 (by intro _ _ _; kernel_rfl) ?_
      refine E_str ?_
      refine O_eq_str (by first | assumption | kernel_rfl!) (by first | assumption | kernel_rfl!) ?_
      refine ⟨_, rfl, ?_⟩
      refine And.intro ?_ ?_
    with_reducible refine dead ?_
    rfl
    with_reducible
      refine fun _ => ?_
      refine B_cons ?_
      refine S_if ?_
      refine C_cmp (by kernel_rfl) ?_
      refine E_index ?_
      refine E_cell (by kernel_rfl!) (rho_h1 (by decide +kernel)) (by kernel_rfl) ?_
      refine E_int ?_
      refine O_tup0 (by intro _ _ _; kernel_rfl) ?_
      refine E_str ?_
      refine O_eq_str (by first | assumption | kernel_rfl!) (by first | assumption | kernel_rfl!) ?_
      refine ⟨_, rfl, ?_⟩
      refine And.intro ?_ ?_
    with_reducible refine dead ?_
    rfl
    with_reducible
      refine fun _ => ?_
      refine B_cons ?_
      refine S_if ?_
      refine C_cmp (by kernel_rfl) ?_
      refine E_index ?_
      refine E_cell (by kernel_rfl!) (rho_h1 (by decide +kernel)) (by kernel_rfl) ?_
      refine E_int ?_
      refine O_tup0 (by intro _ _ _; kernel_rfl) ?_
      refine E_str ?_
      refine O_eq_str (by first | assumption | kernel_rfl!) (by first | assumption | kernel_rfl!) ?_
      refine ⟨_, rfl, ?_⟩
      refine And.intro ?_ ?_
    with_reducible refine dead ?_
    rfl
    with_reducible
      refine fun _ => ?_
      refine B_cons ?_
      refine S_if ?_
      refine C_cmp (by kernel_rfl) ?_
      refine E_index ?_
      refine E_cell (by kernel_rfl!) (rho_h1 (by decide +kernel)) (by kernel_rfl) ?_
      refine E_int ?_
      refine O_tup0 (by intro _ _ _; kernel_rfl) ?_
      refine E_str ?_
      refine O_eq_str (by first | assumption | kernel_rfl!) (by first | assumption | kernel_rfl!) ?_
      refine ⟨_, rfl, ?_⟩
      refine And.intro ?_ ?_
    with_reducible refine dead ?_
    rfl
    with_reducible
      refine fun _ => ?_
      refine B_cons ?_
      refine S_if ?_
      refine C_cmp (by kernel_rfl) ?_
      refine E_local (by kernel_rfl!) (rho_h3 (by decide +kernel)) (by kernel_rfl) ?_
      refine E_str ?_
      refine O_eq_str (by first | assumption | kernel_rfl!) (by first | assumption | kernel_rfl!) ?_
      refine ⟨_, rfl, ?_⟩
      refine And.intro ?_ ?_
      refine fun _ => ?_
      refine B_cons ?_
      refine S_assignC (by kernel_rfl!) (by intro _; kernel_rfl) (CompScope.of (by kernel_rfl) (by kernel_rfl)) ?_
      refine Src_rangeW (by assumption) (by kernel_rfl) (by kernel_rfl) (by kernel_rfl) ?_
      refine L_cons ?_ (by kernel_rfl)
      refine E_int ?_
      refine L_cons ?_ (by kernel_rfl)
      refine E_len (by assumption) (by kernel_rfl) (by kernel_rfl) (by kernel_rfl) ?_
      refine L_cons ?_ (by kernel_rfl)
      refine E_cell (by kernel_rfl!) (rho_h2 (by decide +kernel)) (by kernel_rfl) ?_
      refine L_nil ?_
      rotate_left
      refine fun _ => ?_
      refine B_nil ?_
      refine B_nil ?_
      refine B_nil ?_
      refine B_nil ?_
      refine B_nil ?_
      refine B_nil ?_
      refine B_cons ?_
      refine S_return ?_
      refine E_cmp (by kernel_rfl) ?_
      refine E_callW (by assumption) (by assumption) (by kernel_rfl) (by kernel_rfl) (by kernel_rfl) (by kernel_rfl) ?_
      refine L_cons ?_ (by kernel_rfl)
      refine E_cell (by kernel_rfl!) (rho_h1 (by decide +kernel)) (by kernel_rfl) ?_
      refine L_cons ?_ (by kernel_rfl)
      refine E_cell (by kernel_rfl!) (rho_h2 (by decide +kernel)) (by kernel_rfl) ?_
      refine L_nil ?_
      rotate_left
    · obtain ⟨is, rfl, hl⟩ := hrow (by assumption)
      have hwl := wholes_ints is
      with_reducible
        refine L_len_tup ?_ ?_
        rotate_left
        refine L_nil ?_
        rotate_left
      · rw [List.length_map]; omega
      refine ⟨1, is.length, .inr (by rw [List.length_map]), by omega, by omega, by omega, by omega, ?_, fun C f s0 => ?_⟩
      · simp [intsD]; omega
      have hn : ((is.length : Int) - 1).toNat = is.length - 1 := by omega
      rw [hn]
      refine comp_filter (fallP is) id (fun ρ => ρ "thing" = some (.tup (is.map .int))) _ (fun d hd ρ hρ rs => ?_) _ _ (rho_comp (by kernel_rfl) (by kernel_rfl) (rho_miss (by decide +kernel) (rho_miss (by decide +kernel) rho_hit))) ?_
      · obtain ⟨i, rfl, h1, h2⟩ := mem_ints hd
        with_reducible
          refine A_local (by kernel_rfl!) (by first | (simp; done) | (intro p e; cases e; dsimp only; decide +kernel)) ?_
          refine And.intro ?_ ?_
        assumption
        with_reducible
          refine T_one ?_
          refine C_cmp (by kernel_rfl) ?_
          refine E_index ?_
          refine E_cell (by kernel_rfl!) (rho_a1 (by decide +kernel) (by assumption)) (by kernel_rfl) ?_
          refine E_local (by kernel_rfl!) rho_hit (by kernel_rfl) ?_
          refine O_tup_at (by intro _ _ _; kernel_rfl) ?_ ?_ ?_ ?_
          rotate_left
          rotate_left
          rotate_left
          refine E_index ?_
          refine E_cell (by kernel_rfl!) (rho_a1 (by decide +kernel) (by assumption)) (by kernel_rfl) ?_
          refine E_binop ?_
          refine E_local (by kernel_rfl!) rho_hit (by kernel_rfl) ?_
          refine E_int ?_
          refine O_sub ?_
          refine O_tup_at (by intro _ _ _; kernel_rfl) ?_ ?_ ?_ ?_
          rotate_left
          rotate_left
          rotate_left
          refine O_le ?_
          refine ⟨_, rfl, ?_⟩
          refine And.intro ?_ ?_
        rfl
        with_reducible
          refine fun _ => ?_
          refine E_local (by kernel_rfl!) rho_hit (by kernel_rfl) ?_
        rfl
        all_goals omega
      rw [List.nil_append, List.map_id]
      have hF : fitsKind (.numbers lo hi) (.tup (is.map .int)) = (ascB is && rangeB lo hi is) := by
        simp only [fitsKind, hwl]
      with_reducible
        refine fun _ => ?_
        refine N_local (by kernel_rfl!) (by first | (simp; done) | (intro p e; cases e; dsimp only; decide +kernel)) ?_
        refine B_cons ?_
        refine S_assign (by kernel_rfl!) ?_
        refine E_and ?_
        refine E_cmp (by kernel_rfl) ?_
        refine E_local (by kernel_rfl!) rho_hit (by kernel_rfl) ?_
        refine E_list ?_ (by decide)
        refine L_nil ?_
        refine O_eq_nil ?_ ?_
        rotate_left
        refine ⟨_, rfl, ?_⟩
        refine And.intro ?_ ?_
        refine fun _ => ?_
        refine E_bool1 ?_
        refine E_cmp (by kernel_rfl) ?_
        refine E_comp (by intro _; kernel_rfl) (CompScope.of (by kernel_rfl) (by kernel_rfl)) ?_
        refine Src_of ?_
        refine E_cell (by kernel_rfl!) (rho_h3 (by decide +kernel)) (by kernel_rfl) ?_
        refine SrcD.tup ?_
        refine And.intro ?_ ?_
        rotate_left
        refine fun _ => ?_
        refine fun _ => ?_
        refine fun _ => ?_
        rotate_left
        refine fun _ => ?_
        refine N_local (by kernel_rfl!) (by first | (simp; done) | (intro p e; cases e; dsimp only; decide +kernel)) ?_
        refine B_nil ?_
        refine B_nil ?_
        refine B_nil ?_
        refine B_nil ?_
        refine B_nil ?_
        refine B_nil ?_
        refine B_cons ?_
        refine S_return ?_
        refine E_cmp (by kernel_rfl) ?_
        refine E_callW (by assumption) (by assumption) (by kernel_rfl) (by kernel_rfl) (by kernel_rfl) (by kernel_rfl) ?_
        refine L_cons ?_ (by kernel_rfl)
        refine E_cell (by kernel_rfl!) (rho_h3 (by decide +kernel)) (by kernel_rfl) ?_
        refine L_cons ?_ (by kernel_rfl)
        refine E_cell (by kernel_rfl!) (rho_h4 (by decide +kernel)) (by kernel_rfl) ?_
        refine L_nil ?_
        rotate_left
      · intro d hd
        obtain ⟨i, rfl, _⟩ := mem_ints (List.mem_filter.mp hd).1
        exact ⟨rfl, Nat.zero_le _⟩
      · rw [List.length_map]; omega
      · rename_i hasc _ _ _
        have hasc : ascB is = true := hasc
        refine comp_filter (outP lo hi) id (fun ρ => ρ "kind" = some (.tup [.str "numbers", .int lo, .int hi])) _ (fun d hd ρ hρ rs => ?_) _ _ (rho_comp (by kernel_rfl) (by kernel_rfl) (rho_miss (by decide +kernel) (rho_miss (by decide +kernel) rho_hit))) ?_
        · obtain ⟨i, _, rfl⟩ := List.mem_map.mp hd
          with_reducible
            refine A_local (by kernel_rfl!) (by first | (simp; done) | (intro p e; cases e; dsimp only; decide +kernel)) ?_
            refine And.intro ?_ ?_
          assumption
          with_reducible
            refine T_one ?_
            refine C_or ?_
            refine C_cmp (by kernel_rfl) ?_
            refine E_local (by kernel_rfl!) rho_hit (by kernel_rfl) ?_
            refine E_index ?_
            refine E_cell (by kernel_rfl!) (rho_a1 (by decide +kernel) (by assumption)) (by kernel_rfl) ?_
            refine E_int ?_
            refine O_tup1 (by intro _ _ _; kernel_rfl) ?_
            refine O_lt ?_
            refine ⟨_, rfl, ?_⟩
            refine And.intro ?_ ?_
            refine fun _ => ?_
            refine And.intro ?_ ?_
            rotate_left
            refine fun _ => ?_
            refine E_local (by kernel_rfl!) rho_hit (by kernel_rfl) ?_
          rfl
          with_reducible
            refine fun _ => ?_
            refine C_or ?_
            refine C_cmp (by kernel_rfl) ?_
            refine E_local (by kernel_rfl!) rho_hit (by kernel_rfl) ?_
            refine E_index ?_
            refine E_cell (by kernel_rfl!) (rho_a1 (by decide +kernel) (by assumption)) (by kernel_rfl) ?_
            refine E_int ?_
            refine O_tup2 (by intro _ _ _; kernel_rfl) ?_
            refine O_gt ?_
            refine ⟨_, rfl, ?_⟩
            refine And.intro ?_ ?_
            refine fun _ => ?_
            refine And.intro ?_ ?_
            rotate_left
            refine fun _ => ?_
            refine E_local (by kernel_rfl!) rho_hit (by kernel_rfl) ?_
          rfl
          with_reducible
            refine fun _ => ?_
            refine C_or_nil ?_
            refine And.intro ?_ ?_
            rotate_left
            refine fun _ => ?_
            refine E_local (by kernel_rfl!) rho_hit (by kernel_rfl) ?_
          rfl
          · rename_i h1
            show true = (decide (i < lo) || decide (hi < i))
            rw [show decide (i < lo) = true from h1]; rfl
          · rename_i h1 h2
            show true = (decide (i < lo) || decide (hi < i))
            rw [show decide (i < lo) = false from h1, show decide (hi < i) = true from h2]; rfl
          · rename_i h1 h2
            show false = (decide (i < lo) || decide (hi < i))
            rw [show decide (i < lo) = false from h1, show decide (hi < i) = false from h2]; rfl
        rw [List.nil_append, List.map_id]
        with_reducible
          refine E_list ?_ (by decide)
          refine L_nil ?_
          refine O_eq_nil ?_ ?_
          rotate_left
          refine N_local (by kernel_rfl!) (by first | (simp; done) | (intro p e; cases e; dsimp only; decide +kernel)) ?_
          refine B_nil ?_
          refine B_nil ?_
          refine B_nil ?_
          refine B_nil ?_
          refine B_nil ?_
          refine B_nil ?_
          refine B_cons ?_
          refine S_return ?_
          refine E_cmp (by kernel_rfl) ?_
          refine E_callW (by assumption) (by assumption) (by kernel_rfl) (by kernel_rfl) (by kernel_rfl) (by kernel_rfl) ?_
          refine L_cons ?_ (by kernel_rfl)
          refine E_cell (by kernel_rfl!) (rho_h3 (by decide +kernel)) (by kernel_rfl) ?_
          refine L_cons ?_ (by kernel_rfl)
          refine E_cell (by kernel_rfl!) (rho_h4 (by decide +kernel)) (by kernel_rfl) ?_
          refine L_nil ?_
          rotate_left
        · intro d hd
          obtain ⟨i, _, rfl⟩ := List.mem_map.mp (List.mem_filter.mp hd).1
          exact ⟨rfl, Nat.zero_le _⟩
        refine ⟨.numbers lo hi, _, rfl, hOk, hth, ?_⟩
        with_reducible
          refine E_local (by kernel_rfl!) rho_hit (by kernel_rfl) ?_
          refine O_eq_bool' ?_
          rotate_left
        exact qb q (by rw [hF, hasc, Bool.true_and, row_range hl hasc]; exact (beq_self_eq_true _).symm)
      · rename_i hasc
        have hasc : ascB is = false := hasc
        refine ⟨.numbers lo hi, _, rfl, hOk, hth, ?_⟩
        with_reducible
          refine E_local (by kernel_rfl!) rho_hit (by kernel_rfl) ?_
          refine O_eq_bool' ?_
          rotate_left
        exact qb q (by rw [hF, hasc]; rfl)
    · refine ⟨.numbers lo hi, th, rfl, hOk, hth, ?_⟩
      have hd := hd (by assumption)
      with_reducible
        refine E_local (by kernel_rfl!) rho_hit (by kernel_rfl) ?_
        refine O_eq_bool' ?_
        rotate_left
      exact qb q (by rw [hd]; rfl)


end

-- P23
section
noncomputable def lawRows : List (List D) := [[.str "host"], [.str "spanning", .str "mode"], [.str "spanning", .str "hello"], [.str "map", .int 0, .str "instance"], [.str "vlan", .int 0, .str "kind"], [.str "vlan", .int 0, .str "name"], [.str "port", .int 0, .str "up"], [.str "port", .int 0, .str "native"], [.str "port", .int 0, .str "promiscuous"], [.str "list", .str "", .int 0], [.str "mirror", .int 0, .str "goal"], [.str "queue", .int 0, .str "weight"], [.str "lldp", .str "on"], [.str "lldp", .str "hold"], [.str "snooping", .str "on"]]
noncomputable def nonePaths : List (List D) := [[], [.str "hosts"], [.str "port", .int 0, .str "up"], [.str "port", .int 3], [.str "list", .str "a b", .int 1], [.str "host", .str "name"], [.str "map", .int 5, .str "name"]]
noncomputable def lawHeads : List Str := ["host", "spanning", "spanning", "map", "vlan", "vlan", "port", "port", "port", "list", "mirror", "queue", "lldp", "lldp", "snooping"]
noncomputable def lawFirst : List Nat := [0, 1, 1, 3, 4, 4, 6, 6, 6, 9, 10, 11, 12, 12, 14]
noncomputable def choices : D → List D
  | .int i => if i = 0 then [.int 1, .int 2, .int 7] else [.int i]
  | .str x => if x = "" then [.str "web", .str "a", .str "Z"] else [.str x]
  | d => [d]
noncomputable def subs : List D → List (List D)
  | [] => [[]]
  | p :: row => (choices p).flatMap fun d => (subs row).map fun r => d :: r
theorem subs_of : ∀ {row ps : List D}, ps.length = row.length → (∀ (j : Nat) (p d : D), row[j]? = some p → ps[j]? = some d → d ∈ choices p) → ps ∈ subs row
  | [], [], _, _ => by simp [subs]
  | [], _ :: _, h, _ => by simp at h
  | _ :: _, [], h, _ => by simp at h
  | p :: row, d :: ps, h, k => by
    rw [subs, List.mem_flatMap]
    exact ⟨d, k 0 p d rfl rfl, List.mem_map.mpr ⟨ps, subs_of (by simpa using h) (fun j p d e1 e2 => k (j + 1) p d (by simpa using e1) (by simpa using e2)), rfl⟩⟩
theorem choice_step {row ps : List D} {i : Nat} {d e : D} (hn : ps.length = i) (hps : ∀ (j : Nat) (p d : D), row[j]? = some p → ps[j]? = some d → d ∈ choices p) (hi : row[i]? = some d) (he : e ∈ choices d) (j : Nat) (p d' : D) (e1 : row[j]? = some p) (e2 : (ps ++ [e])[j]? = some d') : d' ∈ choices p := by
  by_cases h : j < ps.length
  · rw [List.getElem?_append_left h] at e2; exact hps j p d' e1 e2
  · rw [List.getElem?_append_right (by omega)] at e2
    have hj : j = i := by
      have := (List.getElem?_eq_some_iff.mp e2).1
      simp at this; omega
    subst hj
    rw [hi] at e1; cases e1
    rw [hn, Nat.sub_self] at e2
    simp at e2
    subst e2; exact he
theorem choice_int {d e : D} (hd : PartS d) (h : d.eq (.int 0) = true) (he : e ∈ ([.int 1, .int 2, .int 2, .int 7] : List D)) : e ∈ choices d := by
  rcases hd with ⟨i, rfl⟩ | ⟨x, rfl, _⟩
  · have : i = 0 := by
      have h : (i == 0) = true := h
      simpa using h
    subst this
    simp only [List.mem_cons, List.not_mem_nil, or_false] at he
    rcases he with rfl | rfl | rfl | rfl <;> simp [choices]
  · cases h
theorem choice_str {d e : D} (hd : PartS d) (h : d.eq (.str "") = true) (he : e ∈ ([.str "web", .str "a", .str "Z", .str "web"] : List D)) : e ∈ choices d := by
  rcases hd with ⟨i, rfl⟩ | ⟨x, rfl, _⟩
  · cases h
  · have : x = "" := by
      have h : (x == "") = true := h
      simpa using h
    subst this
    simp only [List.mem_cons, List.not_mem_nil, or_false] at he
    rcases he with rfl | rfl | rfl | rfl <;> simp [choices]
theorem choice_self {d : D} (hd : PartS d) (h1 : d.eq (.int 0) = false) (h2 : d.eq (.str "") = false) : d ∈ choices d := by
  rcases hd with ⟨i, rfl⟩ | ⟨x, rfl, _⟩
  · have : i ≠ 0 := by
      have h : (i == 0) = false := h1
      simpa using h
    simp [choices, this]
  · have : x ≠ "" := by
      have h : (x == "") = false := h2
      simpa using h
    simp [choices, this]
inductive PathT : D → Prop
  | none (p : List D) (h : p ∈ nonePaths) : PathT (.tup [.tup p, .lst [.int 99]])
  | near (k : Nat) (row ps : List D) (hk : lawRows[k]? = some row) (hs : ps ∈ subs row) : PathT (.tup [.tup ps, .lst [.int (lawFirst.getD k 0 : Nat), .lst ((midOf ps).map partKey), .int (k : Nat), partKey (lastOf ps)]])
noncomputable def headB : List D → Bool
  | .str x :: _ => PyData.strOk x && decide (x.length ≤ 100)
  | _ => false
noncomputable def isPartB : D → Bool
  | .int _ => true
  | .str x => PyData.strOk x && decide (x.length ≤ 100)
  | _ => false
theorem isPart_of {d : D} (h : isPartB d = true) : PartS d := by
  cases d with
  | int i => exact .inl ⟨i, rfl⟩
  | str x =>
    simp only [isPartB, Bool.and_eq_true, decide_eq_true_eq] at h
    exact .inr ⟨x, rfl, by omega, h.1⟩
  | _ => simp [isPartB] at h
theorem rows_ok : (lawRows.all fun row => headB row && row.all isPartB && decide (row.length ≤ 3)) = true := by decide +kernel
theorem lawRow_ok {k : Nat} {row : List D} (h : lawRows[k]? = some row) : k < 15 ∧ (∀ d ∈ row, PartS d) ∧ 0 < row.length ∧ row.length ≤ 3 ∧ ∃ x r, row = .str x :: r := by
  have hk := (List.getElem?_eq_some_iff.mp h).1
  have := List.all_eq_true.mp rows_ok _ (List.mem_of_getElem? h)
  simp only [Bool.and_eq_true, List.all_eq_true, decide_eq_true_eq] at this
  obtain ⟨⟨h1, h2⟩, h3⟩ := this
  refine ⟨hk, fun d hd => isPart_of (h2 d hd), ?_, h3, ?_⟩
  · cases row with
    | nil => simp [headB] at h1
    | cons _ _ => simp
  · cases row with
    | nil => simp [headB] at h1
    | cons a r => cases a with
      | str x => exact ⟨x, r, rfl⟩
      | _ => simp [headB] at h1
noncomputable def headOf : D → D
  | .tup (d :: _) => d
  | _ => .none
theorem heads_eq : (lawRows.map .tup).map headOf = lawHeads.map .str := rfl
theorem heads_ok : (lawHeads.all fun x => PyData.strOk x) = true := by decide +kernel
theorem first_ok : ∀ k : Fin 15, (match lawRows[k.val]? with
  | some (.str x :: _) => decide (x ≠ "") && PyData.strOk x && decide (lawHeads[lawFirst.getD k.val 0]? = some x) && (List.range (lawFirst.getD k.val 0)).all fun m => decide (lawHeads[m]? ≠ some x)
  | _ => false) = true := by decide +kernel
theorem O_lstD_last {c : Cx} {Q : D → Prop} {value slice : Expr} {l : List D} (hs : SubS slice) (h0 : 0 < l.length) (h1 : l.length < 2 ^ 62) (h : Q (lastOf l)) : OpD c (subscriptTail value slice) (.lst l) (.int (-1)) Q := by
  refine O_lst_neg (d := lastOf l) hs (by decide) (by omega) (by decide) ?_ h
  have e3 : (-1 + (l.length : Int)).toNat = l.length - 1 := by omega
  rw [e3]
  have : l.length - 1 < l.length := by omega
  unfold lastOf
  simp [this]
theorem S_own0 {c : Cx} {ρ : Rho} {x : Str} {p lp pos : Pos} {Qn : Rho → Oc → Prop} {Qr : D → Prop} (hsw : swapsWith (.List [] lp) (some (.Name x p)) pos.line c.env = pure false) (hx : c.env.kindOf x = some .local) (hρ : ρ x = none) (h : Qn ρ (some (x, []))) :
    SemS c (.Assign [.Name x p] (.List [] lp) pos) ρ none Qn Qr := S_own hsw hx hρ h
theorem E_midW {c : Cx} {ρ : Rho} {Q : D → Prop} {pos p : Pos} {value e1 e : Expr} (hs : ∀ t k, subscripted (.Slice (some e1) (some e) none p) false (.ref t) (.ref k) = operate [.ref k, .ref t] (getItem (.ref t) (.ref k)))
    (h : SemE c value ρ fun d => ∃ l, d = .lst l ∧ l.length ≤ 1000000 ∧ SemE c e1 ρ fun d => d = .int 1 ∧ SemE c e ρ fun d => d = .int (-1) ∧ Q (.lst ((l.drop 1).take (l.length - 2)))) : SemE c (.Subscript value (.Slice (some e1) (some e) none p) pos) ρ Q := E_mid hs h
theorem fn_law_path {w : World} {base : Heap} {mg mb : Str → Option Value} (W : Wd w base mg mb) : FnAt PySem.Challenge.rw_xm0979_01.prog w base mg "_law_path" 3 (fun ds Q => ds = [.src] ∧ ∀ p, PathT p → Q p) := by
  have F1 := fn_law_take W
  have F2 := fn_law_one W
  have F3 := fn_law_part_key W
  obtain ⟨loose, mean, T⟩ := W.T
  refine fn_plain T mem31 ["source"] (fun pm cd doc vs h => by match vs, h with | [v], _ => kernel_rfl) (by kernel_rfl) (by kernel_rfl) (by kernel_rfl) (by kernel_rfl) (by decide +kernel) (fun A L a cd sr fz s ds Q ⟨e, q⟩ => ?_)
  subst e
  refine ⟨rfl, ?_⟩
  rw [rhoOf1]
  conv => arg 2; whnf
  with_reducible
    refine B_cons ?_
    refine S_assign (by kernel_rfl!) ?_
    refine E_list ?_ (by decide)
    refine L_cons ?_ (by kernel_rfl)
    refine E_tuple ?_ (by decide)
    refine L_cons ?_ (by kernel_rfl)
    refine E_str ?_
    refine L_nil ?_
    refine L_cons ?_ (by kernel_rfl)
    refine E_tuple ?_ (by decide)
    refine L_cons ?_ (by kernel_rfl)
    refine E_str ?_
    refine L_cons ?_ (by kernel_rfl)
    refine E_str ?_
    refine L_nil ?_
    refine L_cons ?_ (by kernel_rfl)
    refine E_tuple ?_ (by decide)
    refine L_cons ?_ (by kernel_rfl)
    refine E_str ?_
    refine L_cons ?_ (by kernel_rfl)
    refine E_str ?_
    refine L_nil ?_
    refine L_cons ?_ (by kernel_rfl)
    refine E_tuple ?_ (by decide)
    refine L_cons ?_ (by kernel_rfl)
    refine E_str ?_
    refine L_cons ?_ (by kernel_rfl)
    refine E_int ?_
    refine L_cons ?_ (by kernel_rfl)
    refine E_str ?_
    refine L_nil ?_
    refine L_cons ?_ (by kernel_rfl)
    refine E_tuple ?_ (by decide)
    refine L_cons ?_ (by kernel_rfl)
    refine E_str ?_
    refine L_cons ?_ (by kernel_rfl)
    refine E_int ?_
    refine L_cons ?_ (by kernel_rfl)
    refine E_str ?_
    refine L_nil ?_
    refine L_cons ?_ (by kernel_rfl)
    refine E_tuple ?_ (by decide)
    refine L_cons ?_ (by kernel_rfl)
    refine E_str ?_
    refine L_cons ?_ (by kernel_rfl)
    refine E_int ?_
    refine L_cons ?_ (by kernel_rfl)
    refine E_str ?_
    refine L_nil ?_
    refine L_cons ?_ (by kernel_rfl)
    refine E_tuple ?_ (by decide)
    refine L_cons ?_ (by kernel_rfl)
    refine E_str ?_
    refine L_cons ?_ (by kernel_rfl)
    refine E_int ?_
    refine L_cons ?_ (by kernel_rfl)
    refine E_str ?_
    refine L_nil ?_
    refine L_cons ?_ (by kernel_rfl)
    refine E_tuple ?_ (by decide)
    refine L_cons ?_ (by kernel_rfl)
    refine E_str ?_
    refine L_cons ?_ (by kernel_rfl)
    refine E_int ?_
    refine L_cons ?_ (by kernel_rfl)
    refine E_str ?_
    refine L_nil ?_
    refine L_cons ?_ (by kernel_rfl)
    refine E_tuple ?_ (by decide)
    refine L_cons ?_ (by kernel_rfl)
    refine E_str ?_
    refine L_cons ?_ (by kernel_rfl)
    refine E_int ?_
    refine L_cons ?_ (by kernel_rfl)
    refine E_str ?_
    refine L_nil ?_
    refine L_cons ?_ (by kernel_rfl)
    refine E_tuple ?_ (by decide)
    refine L_cons ?_ (by kernel_rfl)
    refine E_str ?_
    refine L_cons ?_ (by kernel_rfl)
    refine E_str ?_
    refine L_cons ?_ (by kernel_rfl)
    refine E_int ?_
    refine L_nil ?_
    refine L_cons ?_ (by kernel_rfl)
    refine E_tuple ?_ (by decide)
    refine L_cons ?_ (by kernel_rfl)
    refine E_str ?_
    refine L_cons ?_ (by kernel_rfl)
    refine E_int ?_
    refine L_cons ?_ (by kernel_rfl)
    refine E_str ?_
    refine L_nil ?_
    refine L_cons ?_ (by kernel_rfl)
    refine E_tuple ?_ (by decide)
    refine L_cons ?_ (by kernel_rfl)
    refine E_str ?_
    refine L_cons ?_ (by kernel_rfl)
    refine E_int ?_
    refine L_cons ?_ (by kernel_rfl)
    refine E_str ?_
    refine L_nil ?_
    refine L_cons ?_ (by kernel_rfl)
    refine E_tuple ?_ (by decide)
    refine L_cons ?_ (by kernel_rfl)
    refine E_str ?_
    refine L_cons ?_ (by kernel_rfl)
    refine E_str ?_
    refine L_nil ?_
    refine L_cons ?_ (by kernel_rfl)
    refine E_tuple ?_ (by decide)
    refine L_cons ?_ (by kernel_rfl)
    refine E_str ?_
    refine L_cons ?_ (by kernel_rfl)
    refine E_str ?_
    refine L_nil ?_
    refine L_cons ?_ (by kernel_rfl)
    refine E_tuple ?_ (by decide)
    refine L_cons ?_ (by kernel_rfl)
    refine E_str ?_
    refine L_cons ?_ (by kernel_rfl)
    refine E_str ?_
    refine L_nil ?_
    refine L_nil ?_
    refine N_local (by kernel_rfl!) (by first | (simp; done) | (intro p e; cases e; dsimp only; decide +kernel)) ?_
    refine B_cons ?_
    refine S_assign (by kernel_rfl!) ?_
    refine E_list ?_ (by decide)
    refine L_cons ?_ (by kernel_rfl)
    refine E_tuple ?_ (by decide)
    refine L_nil ?_
    refine L_cons ?_ (by kernel_rfl)
    refine E_tuple ?_ (by decide)
    refine L_cons ?_ (by kernel_rfl)
    refine E_str ?_
    refine L_nil ?_
    refine L_cons ?_ (by kernel_rfl)
    refine E_tuple ?_ (by decide)
    refine L_cons ?_ (by kernel_rfl)
    refine E_str ?_
    refine L_cons ?_ (by kernel_rfl)
    refine E_int ?_
    refine L_cons ?_ (by kernel_rfl)
    refine E_str ?_
    refine L_nil ?_
    refine L_cons ?_ (by kernel_rfl)
    refine E_tuple ?_ (by decide)
    refine L_cons ?_ (by kernel_rfl)
    refine E_str ?_
    refine L_cons ?_ (by kernel_rfl)
    refine E_int ?_
    refine L_nil ?_
    refine L_cons ?_ (by kernel_rfl)
    refine E_tuple ?_ (by decide)
    refine L_cons ?_ (by kernel_rfl)
    refine E_str ?_
    refine L_cons ?_ (by kernel_rfl)
    refine E_str ?_
    refine L_cons ?_ (by kernel_rfl)
    refine E_int ?_
    refine L_nil ?_
    refine L_cons ?_ (by kernel_rfl)
    refine E_tuple ?_ (by decide)
    refine L_cons ?_ (by kernel_rfl)
    refine E_str ?_
    refine L_cons ?_ (by kernel_rfl)
    refine E_str ?_
    refine L_nil ?_
    refine L_cons ?_ (by kernel_rfl)
    refine E_tuple ?_ (by decide)
    refine L_cons ?_ (by kernel_rfl)
    refine E_str ?_
    refine L_cons ?_ (by kernel_rfl)
    refine E_int ?_
    refine L_cons ?_ (by kernel_rfl)
    refine E_str ?_
    refine L_nil ?_
    refine L_nil ?_
    refine N_local (by kernel_rfl!) (by first | (simp; done) | (intro p e; cases e; dsimp only; decide +kernel)) ?_
    refine B_cons ?_
    refine S_if ?_
    refine C_cmp (by kernel_rfl) ?_
    refine E_callW (by assumption) (by assumption) (by kernel_rfl) (by kernel_rfl) (by kernel_rfl) (by kernel_rfl) ?_
    refine L_cons ?_ (by kernel_rfl)
    refine E_local (by kernel_rfl!) (rho_h2 (by decide +kernel)) (by kernel_rfl) ?_
    refine L_cons ?_ (by kernel_rfl)
    refine E_int ?_
    refine L_nil ?_
    refine ⟨_, rfl, ?_⟩
    refine And.intro ?_ ?_
    rotate_left
    refine And.intro ?_ ?_
    rotate_left
    refine fun _ => ?_
    refine fun _ => ?_
    refine fun _ => ?_
    refine E_int ?_
    refine O_eq_int ?_
    refine ⟨_, rfl, ?_⟩
    refine And.intro ?_ ?_
    refine fun _ => ?_
    refine B_cons ?_
    refine S_return ?_
    refine E_tuple ?_ (by decide)
    refine L_cons ?_ (by kernel_rfl)
    refine E_callW (by assumption) (by assumption) (by kernel_rfl) (by kernel_rfl) (by kernel_rfl) (by kernel_rfl) ?_
    refine L_cons ?_ (by kernel_rfl)
    refine E_local (by kernel_rfl!) (rho_h2 (by decide +kernel)) (by kernel_rfl) ?_
    refine L_cons ?_ (by kernel_rfl)
    refine E_local (by kernel_rfl!) rho_hit (by kernel_rfl) ?_
    refine L_nil ?_
    refine ⟨_, rfl, ?_⟩
    refine And.intro ?_ ?_
    rotate_left
    refine And.intro ?_ ?_
    rotate_left
    refine fun _ => ?_
    refine fun _ => ?_
    refine L_cons ?_ (by kernel_rfl)
    refine E_list ?_ (by decide)
    refine L_cons ?_ (by kernel_rfl)
    refine E_int ?_
    refine L_nil ?_
    refine L_nil ?_
    rotate_left
    refine fun _ => ?_
    refine B_nil ?_
    refine B_cons ?_
    refine S_assign (by kernel_rfl!) ?_
    refine E_callW (by assumption) (by assumption) (by kernel_rfl) (by kernel_rfl) (by kernel_rfl) (by kernel_rfl) ?_
    refine L_cons ?_ (by kernel_rfl)
    refine E_local (by kernel_rfl!) (rho_h2 (by decide +kernel)) (by kernel_rfl) ?_
    refine L_cons ?_ (by kernel_rfl)
    refine E_list ?_ (by decide)
    refine L_cons ?_ (by kernel_rfl)
    refine E_callW (by assumption) (by assumption) (by kernel_rfl) (by kernel_rfl) (by kernel_rfl) (by kernel_rfl) ?_
    refine L_cons ?_ (by kernel_rfl)
    refine E_local (by kernel_rfl!) (rho_h2 (by decide +kernel)) (by kernel_rfl) ?_
    refine L_cons ?_ (by kernel_rfl)
    refine E_int ?_
    refine L_nil ?_
    refine ⟨_, rfl, ?_⟩
    refine And.intro ?_ ?_
    rotate_left
    refine And.intro ?_ ?_
    rotate_left
    refine fun _ => ?_
    refine fun _ => ?_
    refine fun _ => ?_
    refine L_cons ?_ (by kernel_rfl)
    refine E_int ?_
    refine L_cons ?_ (by kernel_rfl)
    refine E_int ?_
    refine L_cons ?_ (by kernel_rfl)
    refine E_int ?_
    refine L_cons ?_ (by kernel_rfl)
    refine E_int ?_
    refine L_cons ?_ (by kernel_rfl)
    refine E_int ?_
    refine L_cons ?_ (by kernel_rfl)
    refine E_int ?_
    refine L_nil ?_
    refine L_nil ?_
    refine ⟨_, rfl, ?_⟩
    refine And.intro ?_ ?_
    rotate_left
    refine And.intro ?_ ?_
    rotate_left
    refine fun _ => ?_
    refine fun _ => ?_
    refine N_local (by kernel_rfl!) (by first | (simp; done) | (intro p e; cases e; dsimp only; decide +kernel)) ?_
    refine B_cons ?_
    refine S_own0 (by kernel_rfl) (by kernel_rfl!) (by repeat first | exact rho_n0 | refine rho_nset (by decide +kernel) ?_) ?_
    refine B_cons ?_
    refine S_for (by intro _; kernel_rfl) ?_
    refine Src_of ?_
    refine E_index ?_
    refine E_local (by kernel_rfl!) (rho_h2 (by decide +kernel)) (by kernel_rfl) ?_
    refine E_local (by kernel_rfl!) rho_hit (by kernel_rfl) ?_
    rotate_left
  all_goals try (first | decide | omega | (simp; done))
  · rename_i d hd
    have hd : d ∈ nonePaths.map .tup := hd
    obtain ⟨p, hp, rfl⟩ := List.mem_map.mp hd
    exact q _ (.none p hp)
  · rename_i r hr0 hr1 pl hpl
    obtain ⟨k, hk15, rfl⟩ : ∃ k : Nat, k < 15 ∧ pl = .int (k : Int) := by
      simp only [List.mem_cons, List.not_mem_nil, or_false] at hpl
      rcases hpl with rfl | rfl | rfl | rfl | rfl | rfl | rfl
      · exact ⟨r.toNat, by omega, by rw [Int.toNat_of_nonneg hr0]⟩
      · exact ⟨4, by decide, rfl⟩
      · exact ⟨5, by decide, rfl⟩
      · exact ⟨6, by decide, rfl⟩
      · exact ⟨7, by decide, rfl⟩
      · exact ⟨8, by decide, rfl⟩
      · exact ⟨9, by decide, rfl⟩
    obtain ⟨row, hrow⟩ : ∃ row, lawRows[k]? = some row := ⟨_, List.getElem?_eq_getElem (show k < lawRows.length from hk15)⟩
    obtain ⟨_, hparts, hrl0, hrl, x, rr, hx⟩ := lawRow_ok hrow
    have hfst := first_ok ⟨k, hk15⟩
    dsimp only at hfst
    rw [hrow, hx] at hfst
    simp only [Bool.and_eq_true, decide_eq_true_eq, List.all_eq_true, List.mem_range] at hfst
    obtain ⟨⟨⟨hx0, hxok⟩, hj⟩, hjm⟩ := hfst
    refine O_lst_item (l := lawRows.map .tup) (d := .tup row) (by intro _ _ _; kernel_rfl) (by omega) (by omega) (by rw [List.getElem?_map, Int.toNat_natCast, hrow]; rfl) ?_
    refine SrcD.tup (turns_0 (fun i ρ oc => ∃ ps : List D, oc = some (("parts" : Str), ps) ∧ ps.length = i ∧ (∀ (j : Nat) (p d : D), row[j]? = some p → ps[j]? = some d → d ∈ choices p) ∧ ρ "source" = some .src ∧ ρ "rows" = some (.lst (lawRows.map .tup)) ∧ ρ "place" = some (.int (k : Int))) _ (fun i d ρ oc hi hJ rs => ?_) (fun ρ oc hJ => ?_) ?_)
    · obtain ⟨ps, rfl, hn, hps, h1, h2, h3⟩ := hJ
      have hD := hparts d (List.mem_of_getElem? hi)
      have hf := hD.fine
      have hi3 : i < 3 := by
        have := (List.getElem?_eq_some_iff.mp hi).1; omega
      with_reducible
        refine A_local (by kernel_rfl!) (by first | (simp; done) | (intro p e; cases e; dsimp only; decide +kernel)) ?_
        refine B_cons ?_
        refine S_assign (by kernel_rfl!) ?_
        refine E_callW (by assumption) (by assumption) (by kernel_rfl) (by kernel_rfl) (by kernel_rfl) (by kernel_rfl) ?_
        refine L_cons ?_ (by kernel_rfl)
        refine E_local (by kernel_rfl!) (rho_a1 (by decide +kernel) (by assumption)) (by kernel_rfl) ?_
        refine L_cons ?_ (by kernel_rfl)
        refine E_list ?_ (by decide)
        refine L_cons ?_ (by kernel_rfl)
        refine E_int ?_
        refine L_cons ?_ (by kernel_rfl)
        refine E_int ?_
        refine L_cons ?_ (by kernel_rfl)
        refine E_int ?_
        refine L_cons ?_ (by kernel_rfl)
        refine E_int ?_
        refine L_nil ?_
        refine L_nil ?_
        refine ⟨_, rfl, ?_⟩
        refine And.intro ?_ ?_
        rotate_left
        refine And.intro ?_ ?_
        rotate_left
        refine fun _ => ?_
        refine fun _ => ?_
        refine N_local (by kernel_rfl!) (by first | (simp; done) | (intro p e; cases e; dsimp only; decide +kernel)) ?_
        refine B_cons ?_
        refine S_assign (by kernel_rfl!) ?_
        refine E_callW (by assumption) (by assumption) (by kernel_rfl) (by kernel_rfl) (by kernel_rfl) (by kernel_rfl) ?_
        refine L_cons ?_ (by kernel_rfl)
        refine E_local (by kernel_rfl!) (rho_a2 (by decide +kernel) (by assumption)) (by kernel_rfl) ?_
        refine L_cons ?_ (by kernel_rfl)
        refine E_list ?_ (by decide)
        refine L_cons ?_ (by kernel_rfl)
        refine E_str ?_
        refine L_cons ?_ (by kernel_rfl)
        refine E_str ?_
        refine L_cons ?_ (by kernel_rfl)
        refine E_str ?_
        refine L_cons ?_ (by kernel_rfl)
        refine E_str ?_
        refine L_nil ?_
        refine L_nil ?_
        refine ⟨_, rfl, ?_⟩
        refine And.intro ?_ ?_
        rotate_left
        refine And.intro ?_ ?_
        rotate_left
        refine fun _ => ?_
        refine fun _ => ?_
        refine N_local (by kernel_rfl!) (by first | (simp; done) | (intro p e; cases e; dsimp only; decide +kernel)) ?_
        refine B_cons ?_
        refine S_append (by kernel_rfl) (by kernel_rfl) (by decide +kernel) (by kernel_rfl) (by kernel_rfl) (by kernel_rfl) (by kernel_rfl) ?_ ?_
        rotate_left
        refine E_ifexp ?_
        refine C_cmp (by kernel_rfl) ?_
        refine E_local (by kernel_rfl!) (rho_h2 (by decide +kernel)) (by kernel_rfl) ?_
        refine E_int ?_
        refine O_eq (by assumption) (by kernel_rfl!) ?_
        refine ⟨_, rfl, ?_⟩
        refine And.intro ?_ ?_
        refine fun _ => ?_
        refine E_local (by kernel_rfl!) (rho_h1 (by decide +kernel)) (by kernel_rfl) ?_
        refine B_nil ?_
        refine ⟨_, rfl, ?_⟩
        refine And.intro ?_ ?_
        rotate_left
        refine And.intro ?_ ?_
        refine fun _ => ?_
        refine fun _ => ?_
        refine fun _ => ?_
        refine fun _ => ?_
        refine fun _ => ?_
        rotate_left
        refine And.intro ?_ ?_
      assumption
      with_reducible
        refine And.intro ?_ ?_
      assumption
      assumption
      with_reducible
        refine fun _ => ?_
        refine E_ifexp ?_
        refine C_cmp (by kernel_rfl) ?_
        refine E_local (by kernel_rfl!) (rho_h2 (by decide +kernel)) (by kernel_rfl) ?_
        refine E_str ?_
        refine O_eq (by assumption) (by kernel_rfl!) ?_
        refine ⟨_, rfl, ?_⟩
        refine And.intro ?_ ?_
        refine fun _ => ?_
        refine E_local (by kernel_rfl!) rho_hit (by kernel_rfl) ?_
        refine B_nil ?_
        refine ⟨_, rfl, ?_⟩
        refine And.intro ?_ ?_
        rotate_left
        refine And.intro ?_ ?_
        refine fun _ => ?_
        refine fun _ => ?_
        refine fun _ => ?_
        refine fun _ => ?_
        refine fun _ => ?_
        rotate_left
        refine And.intro ?_ ?_
      assumption
      with_reducible
        refine And.intro ?_ ?_
      assumption
      assumption
      with_reducible
        refine fun _ => ?_
        refine E_local (by kernel_rfl!) (rho_h2 (by decide +kernel)) (by kernel_rfl) ?_
        refine B_nil ?_
        refine ⟨_, rfl, ?_⟩
        refine And.intro ?_ ?_
        rotate_left
        refine And.intro ?_ ?_
        refine fun _ => ?_
        refine fun _ => ?_
        refine fun _ => ?_
        refine fun _ => ?_
        refine fun _ => ?_
        rotate_left
        refine And.intro ?_ ?_
      assumption
      with_reducible
        refine And.intro ?_ ?_
      assumption
      assumption
      all_goals try first | omega | (simp; done) | (rw [List.length_append, hn]; rfl)
      · rename_i dr hdr nm hnm hc j p d' e1 e2
        exact choice_step hn hps hi (choice_int hD hc hdr) j p d' e1 e2
      · rename_i dr hdr nm hnm hc hc2 j p d' e1 e2
        exact choice_step hn hps hi (choice_str hD hc2 hnm) j p d' e1 e2
      · rename_i dr hdr nm hnm hc hc2 j p d' e1 e2
        exact choice_step hn hps hi (choice_self hD hc hc2) j p d' e1 e2
    · obtain ⟨ps, rfl, hn, hps, h1, h2, h3⟩ := hJ
      have hsub := subs_of hn hps
      have hlen : 0 < ps.length ∧ ps.length ≤ 3 := by rw [hn]; exact ⟨hrl0, hrl⟩
      have hps0 : ps[0]? = some (.str x) := by
        have h0 : row[0]? = some (.str x) := by rw [hx]; rfl
        have h1 : ps[0]? = some ps[0] := List.getElem?_eq_getElem hlen.1
        have := hps 0 _ _ h0 h1
        simp [choices, hx0] at this
        rw [h1, this]
      refine B_freeze ?_
      with_reducible
        refine B_cons ?_
        refine S_assign (by kernel_rfl!) ?_
        refine E_index_of (by kernel_rfl) (by kernel_rfl) (by kernel_rfl) (by kernel_rfl) (by kernel_rfl) ?_
        refine E_comp (by intro _; kernel_rfl) (CompScope.of (by kernel_rfl) (by kernel_rfl)) ?_
        refine Src_of ?_
        refine E_local (by kernel_rfl!) (rho_a1 (by decide +kernel) (by assumption)) (by kernel_rfl) ?_
        refine SrcD.lst ?_
        refine And.intro ?_ ?_
        rotate_left
        refine fun _ => ?_
        refine fun _ => ?_
        refine fun _ => ?_
        rotate_left
      · decide
      refine comp_map headOf (fun _ => True) _ (fun d hd ρ _ rs => ?_) _ trivial ?_
      · obtain ⟨r2, hr2, rfl⟩ := List.mem_map.mp hd
        obtain ⟨k2, hk2⟩ := List.mem_iff_getElem?.mp hr2
        obtain ⟨_, _, _, _, y, rr, rfl⟩ := lawRow_ok hk2
        with_reducible
          refine A_local (by kernel_rfl!) (by first | (simp; done) | (intro p e; cases e; dsimp only; decide +kernel)) ?_
          refine And.intro ?_ ?_
        assumption
        with_reducible
          refine E_index ?_
          refine E_local (by kernel_rfl!) rho_hit (by kernel_rfl) ?_
          refine E_int ?_
          refine O_tup0 (by intro _ _ _; kernel_rfl) ?_
        rfl
      refine ⟨lawHeads, by rw [heads_eq], fun y hy => List.all_eq_true.mp heads_ok y hy, ?_⟩
      with_reducible
        refine E_index ?_
        refine E_local (by kernel_rfl!) rho_hit (by kernel_rfl) ?_
        refine E_int ?_
        rotate_left
      refine O_lst_cons (by intro _ _ _; kernel_rfl) hps0 ?_
      refine ⟨x, lawFirst.getD k 0, rfl, hxok, hj, ?_, fun m hm => hjm m hm, ?_⟩
      · have := (List.getElem?_eq_some_iff.mp hj).1
        have e : lawHeads.length = 15 := rfl
        omega
      with_reducible
        refine N_local (by kernel_rfl!) (by first | (simp; done) | (intro p e; cases e; dsimp only; decide +kernel)) ?_
        refine B_cons ?_
        refine S_return ?_
        refine E_tuple ?_ (by decide)
        refine L_cons ?_ (by kernel_rfl)
        refine E_tupleT (by assumption) (by kernel_rfl) (by kernel_rfl) (by kernel_rfl) ?_
        refine L_cons ?_ (by kernel_rfl)
        refine E_local (by kernel_rfl!) (rho_h1 (by decide +kernel)) (by kernel_rfl) ?_
        refine L_nil ?_
        refine L_tuple_lst ?_ ?_
        rotate_left
        refine L_cons ?_ (by kernel_rfl)
        refine E_list ?_ (by decide)
        refine L_cons ?_ (by kernel_rfl)
        refine E_local (by kernel_rfl!) rho_hit (by kernel_rfl) ?_
        refine L_cons ?_ (by kernel_rfl)
        refine E_comp (by intro _; kernel_rfl) (CompScope.of (by kernel_rfl) (by kernel_rfl)) ?_
        refine Src_of ?_
        refine E_midW (by intro _ _; kernel_rfl) ?_
        refine E_local (by kernel_rfl!) (rho_h1 (by decide +kernel)) (by kernel_rfl) ?_
        refine ⟨_, rfl, ?_⟩
        refine And.intro ?_ ?_
        rotate_left
        refine E_int ?_
        refine And.intro ?_ ?_
        rfl
        refine E_neg ?_
        refine E_int ?_
        refine ⟨_, rfl, ?_⟩
        refine And.intro ?_ ?_
        rfl
        refine SrcD.lst ?_
        refine And.intro ?_ ?_
        rotate_left
        refine fun _ => ?_
        refine fun _ => ?_
        refine fun _ => ?_
        rotate_left
      all_goals try first | omega | (simp; done) | (simp; omega)
      refine comp_map partKey (fun _ => True) _ (fun d hd ρ _ rs => ?_) _ trivial ?_
      · skip
        with_reducible
          refine A_local (by kernel_rfl!) (by first | (simp; done) | (intro p e; cases e; dsimp only; decide +kernel)) ?_
          refine And.intro ?_ ?_
        assumption
        with_reducible
          refine E_callW (by assumption) (by assumption) (by kernel_rfl) (by kernel_rfl) (by kernel_rfl) (by kernel_rfl) ?_
          refine L_cons ?_ (by kernel_rfl)
          refine E_local (by kernel_rfl!) rho_hit (by kernel_rfl) ?_
          refine L_nil ?_
          refine ⟨_, rfl, ?_⟩
          rfl
      with_reducible
        refine L_cons ?_ (by kernel_rfl)
        refine E_local (by kernel_rfl!) (rho_a2 (by decide +kernel) (by assumption)) (by kernel_rfl) ?_
        refine L_cons ?_ (by kernel_rfl)
        refine E_callW (by assumption) (by assumption) (by kernel_rfl) (by kernel_rfl) (by kernel_rfl) (by kernel_rfl) ?_
        refine L_cons ?_ (by kernel_rfl)
        refine E_index ?_
        refine E_local (by kernel_rfl!) (rho_h1 (by decide +kernel)) (by kernel_rfl) ?_
        refine E_neg ?_
        refine E_int ?_
        refine ⟨_, rfl, ?_⟩
        refine O_lstD_last (by intro _ _ _; kernel_rfl) ?_ ?_ ?_
        rotate_left
        rotate_left
        refine L_nil ?_
        refine ⟨_, rfl, ?_⟩
        refine L_nil ?_
        refine L_nil ?_
        rotate_left
      · exact hlen.1
      · omega
      exact q _ (.near k row ps hrow hsub)
    · exact ⟨[], rfl, rfl, fun j p d _ e => by simp at e, rho_miss (by decide +kernel) (rho_miss (by decide +kernel) (rho_miss (by decide +kernel) rho_hit)), rho_miss (by decide +kernel) (rho_miss (by decide +kernel) rho_hit), rho_hit⟩


end

-- P24
section
/-- the same datum, by the look of it -/
noncomputable def D.same : D → D → Bool
  | .none, .none => true
  | .bool a, .bool b => a == b
  | .int a, .int b => a == b
  | .str a, .str b => a == b
  | .tup a, .tup b => sames a b
  | .lst a, .lst b => sames a b
  | _, _ => false
where sames : List D → List D → Bool
  | [], [] => true
  | d :: ds, e :: es => D.same d e && sames ds es
  | _, _ => false
mutual
theorem D.same_sound : ∀ (a b : D), D.same a b = true → a = b
  | .none, b, h => by cases b <;> first | rfl | simp [D.same] at h
  | .bool a, b, h => by
    cases b <;> first | (simp [D.same] at h; done) | skip
    simp only [D.same, beq_iff_eq] at h; subst h; rfl
  | .int a, b, h => by
    cases b <;> first | (simp [D.same] at h; done) | skip
    simp only [D.same, beq_iff_eq] at h; subst h; rfl
  | .str a, b, h => by
    cases b <;> first | (simp [D.same] at h; done) | skip
    simp only [D.same, beq_iff_eq] at h; subst h; rfl
  | .tup l, b, h => by
    cases b <;> first | (simp [D.same] at h; done) | skip
    rw [D.same] at h
    rw [D.sames_sound _ _ h]
  | .lst l, b, h => by
    cases b <;> first | (simp [D.same] at h; done) | skip
    rw [D.same] at h
    rw [D.sames_sound _ _ h]
  | .src, b, h => by cases b <;> simp [D.same] at h
  | .dic _ _ _, b, h => by cases b <;> simp [D.same] at h
theorem D.sames_sound : ∀ (a b : List D), D.same.sames a b = true → a = b
  | [], b, h => by cases b <;> first | rfl | simp [D.same.sames] at h
  | d :: ds, b, h => by
    cases b with
    | nil => simp [D.same.sames] at h
    | cons e es =>
      simp only [D.same.sames, Bool.and_eq_true] at h
      rw [D.same_sound _ _ h.1, D.sames_sound _ _ h.2]
end
noncomputable def shPlace : List Nat := [0, 2, 3, 9, 12, 13, 16, 19, 34, 35, 36, 39, 40, 41, 42]
noncomputable def shFirst : List Nat := [0, 2, 2, 9, 12, 12, 16, 16, 16, 35, 36, 39, 40, 40, 42]
noncomputable def orderK (k : Nat) (ps : List D) : D := .tup [.int (shFirst.getD k 0 : Nat), .lst ((midOf ps).map partOrder), .int (shPlace.getD k 0 : Nat), partOrder (lastOf ps)]
noncomputable def keyK (k : Nat) (ps : List D) : List D := [.int (lawFirst.getD k 0 : Nat), .lst ((midOf ps).map partKey), .int (k : Nat), partKey (lastOf ps)]
theorem none_check : (nonePaths.all fun p => D.same (pathOrder p) farOrder && p.all isPartB && (p.isEmpty || headB p) && decide (p.length ≤ 3)) = true := by decide +kernel
theorem near_check : (lawRows.zipIdx.all fun q => (subs q.1).all fun ps => D.same (pathOrder ps) (orderK q.2 ps) && ps.all isPartB && headB ps && decide (ps.length ≤ 3)) = true := by decide +kernel
structure PathR (ps key : List D) : Prop where
  parts : ∀ d ∈ ps, PartS d
  len : ps.length ≤ 3
  head : ps = [] ∨ ∃ x r, ps = .str x :: r
  kind : (key = [.int 99] ∧ pathOrder ps = farOrder) ∨ ∃ k, k < 15 ∧ key = keyK k ps ∧ pathOrder ps = orderK k ps ∧ 0 < ps.length
theorem head_of {ps : List D} (h : headB ps = true) : ∃ x r, ps = .str x :: r := by
  cases ps with
  | nil => simp [headB] at h
  | cons a r => cases a with
    | str x => exact ⟨x, r, rfl⟩
    | _ => simp [headB] at h
theorem PathT.is {p : D} (h : PathT p) : ∃ ps key, p = .tup [.tup ps, .lst key] ∧ PathR ps key := by
  cases h with
  | none p hp =>
    have := List.all_eq_true.mp none_check _ hp
    simp only [Bool.and_eq_true, Bool.or_eq_true, List.all_eq_true, decide_eq_true_eq] at this
    obtain ⟨⟨⟨h1, h2⟩, h3⟩, h4⟩ := this
    refine ⟨p, _, rfl, fun d hd => isPart_of (h2 d hd), h4, ?_, .inl ⟨rfl, D.same_sound _ _ h1⟩⟩
    rcases h3 with h3 | h3
    · exact .inl (by simpa using h3)
    · exact .inr (head_of h3)
  | near k row ps hk hs =>
    have hm : (row, k) ∈ lawRows.zipIdx := by
      refine List.mem_of_getElem? (i := k) ?_
      rw [List.getElem?_zipIdx, hk]; simp
    have := List.all_eq_true.mp (List.all_eq_true.mp near_check _ hm) _ hs
    simp only [Bool.and_eq_true, List.all_eq_true, decide_eq_true_eq] at this
    obtain ⟨⟨⟨h1, h2⟩, h3⟩, h4⟩ := this
    obtain ⟨x, r, rfl⟩ := head_of h3
    exact ⟨_, _, rfl, fun d hd => isPart_of (h2 d hd), h4, .inr ⟨x, r, rfl⟩, .inr ⟨k, (lawRow_ok hk).1, rfl, D.same_sound _ _ h1, by simp⟩⟩
/-- two data compare as two others -/
noncomputable def Iso (n : Nat) (a b A B : D) : Prop := a.eq b = A.eq B ∧ ∃ r, ltB n a b = some r ∧ ltB n A B = some r
theorem eq_int (i j : Int) : (D.int i).eq (.int j) = (i == j) := rfl
theorem eqs_cons (k : List D → D) (hk : (k = .tup) ∨ (k = .lst)) (a b : D) (l r : List D) : (k (a :: l)).eq (k (b :: r)) = (a.eq b && (k l).eq (k r)) := by
  rcases hk with rfl | rfl <;> simp [D.eq, D.py, D.pys, PyData.eqv, PyData.eqvAll]
theorem ltB_int (n : Nat) (i j : Int) : ltB n (.int i) (.int j) = some (decide (i < j)) := by unfold ltB; rfl
theorem ltB_str (n : Nat) (i j : Str) : ltB n (.str i) (.str j) = some (decide (i.cps.toList < j.cps.toList)) := by unfold ltB; rfl
theorem ltB_tup (n : Nat) (a b : List D) : ltB (n + 1) (.tup a) (.tup b) = ltL (ltB n) a b := by rw [ltB]
theorem ltB_lst (n : Nat) (a b : List D) : ltB (n + 1) (.lst a) (.lst b) = ltL (ltB n) a b := by rw [ltB]
theorem eq_self_str (x : Str) : (D.str x).eq (.str x) = true := beq_self_eq_true x
theorem part_iso (n : Nat) {a b : D} (ha : PartS a) (hb : PartS b) : Iso (n + 1) (partOrder a) (partOrder b) (partKey a) (partKey b) := by
  have e1 : (D.int 0).eq (.int 0) = true := rfl
  have e2 : (D.int 1).eq (.int 1) = true := rfl
  have e3 : (D.int 0).eq (.int 1) = false := rfl
  have e4 : (D.int 1).eq (.int 0) = false := rfl
  rcases ha with ⟨i, rfl⟩ | ⟨x, rfl, _⟩ <;> rcases hb with ⟨j, rfl⟩ | ⟨y, rfl, _⟩
  · show Iso _ (.tup [.int 0, .int i, .str ""]) (.tup [.int 0, .int j, .str ""]) (.lst [.int 0, .int i]) (.lst [.int 0, .int j])
    refine ⟨?_, decide (i < j), ?_, ?_⟩
    · rw [eqs_cons .tup (.inl rfl), eqs_cons .tup (.inl rfl), eqs_cons .tup (.inl rfl), eqs_cons .lst (.inr rfl), eqs_cons .lst (.inr rfl), eq_self_str]
      rfl
    · rw [ltB_tup, ltL, if_pos e1, ltL, eq_int]
      by_cases h : i = j
      · subst h; rw [if_pos (by simp), ltL, if_pos (eq_self_str _)]; simp [ltL]
      · rw [if_neg (by simpa using h), ltB_int]
    · rw [ltB_lst, ltL, if_pos e1, ltL, eq_int]
      by_cases h : i = j
      · subst h; rw [if_pos (by simp)]; simp [ltL]
      · rw [if_neg (by simpa using h), ltB_int]
  · show Iso _ (.tup [.int 0, .int i, .str ""]) (.tup [.int 1, .int 0, .str y]) (.lst [.int 0, .int i]) (.lst [.int 1, .str y])
    refine ⟨?_, true, ?_, ?_⟩
    · rw [eqs_cons .tup (.inl rfl), eqs_cons .lst (.inr rfl), e3]; rfl
    · rw [ltB_tup, ltL, if_neg (by rw [e3]; simp), ltB_int]; rfl
    · rw [ltB_lst, ltL, if_neg (by rw [e3]; simp), ltB_int]; rfl
  · show Iso _ (.tup [.int 1, .int 0, .str x]) (.tup [.int 0, .int j, .str ""]) (.lst [.int 1, .str x]) (.lst [.int 0, .int j])
    refine ⟨?_, false, ?_, ?_⟩
    · rw [eqs_cons .tup (.inl rfl), eqs_cons .lst (.inr rfl), e4]; rfl
    · rw [ltB_tup, ltL, if_neg (by rw [e4]; simp), ltB_int]; rfl
    · rw [ltB_lst, ltL, if_neg (by rw [e4]; simp), ltB_int]; rfl
  · show Iso _ (.tup [.int 1, .int 0, .str x]) (.tup [.int 1, .int 0, .str y]) (.lst [.int 1, .str x]) (.lst [.int 1, .str y])
    have ex : (D.str x).eq (.str y) = (x == y) := rfl
    refine ⟨?_, decide (x.cps.toList < y.cps.toList), ?_, ?_⟩
    · rw [eqs_cons .tup (.inl rfl), eqs_cons .tup (.inl rfl), eqs_cons .tup (.inl rfl), eqs_cons .lst (.inr rfl), eqs_cons .lst (.inr rfl), e1]
      rfl
    · rw [ltB_tup, ltL, if_pos e2, ltL, if_pos e1, ltL, ex]
      by_cases h : x = y
      · subst h; rw [if_pos (by simp), ltL]; simp
      · rw [if_neg (by simpa using h), ltB_str]
    · rw [ltB_lst, ltL, if_pos e2, ltL, ex]
      by_cases h : x = y
      · subst h; rw [if_pos (by simp), ltL]; simp
      · rw [if_neg (by simpa using h), ltB_str]
theorem parts_iso (n : Nat) : ∀ {l r : List D}, (∀ d ∈ l, PartS d) → (∀ d ∈ r, PartS d) → Iso (n + 2) (.lst (l.map partOrder)) (.lst (r.map partOrder)) (.lst (l.map partKey)) (.lst (r.map partKey))
  | [], [], _, _ => ⟨rfl, false, by rw [ltB_lst]; rfl, by rw [ltB_lst]; rfl⟩
  | [], _ :: _, _, _ => ⟨by simp [D.eq, D.py, D.pys, PyData.eqv, PyData.eqvAll], true, by rw [ltB_lst]; rfl, by rw [ltB_lst]; rfl⟩
  | _ :: _, [], _, _ => ⟨by simp [D.eq, D.py, D.pys, PyData.eqv, PyData.eqvAll], false, by rw [ltB_lst]; rfl, by rw [ltB_lst]; rfl⟩
  | a :: l, b :: r, hl, hr => by
    obtain ⟨h1, c, h2, h3⟩ := part_iso n (hl a (.head _)) (hr b (.head _))
    obtain ⟨g1, c2, g2, g3⟩ := parts_iso n (l := l) (r := r) (fun d hd => hl d (.tail _ hd)) (fun d hd => hr d (.tail _ hd))
    refine ⟨?_, if (partKey a).eq (partKey b) = true then c2 else c, ?_, ?_⟩
    · rw [List.map_cons, List.map_cons, List.map_cons, List.map_cons, eqs_cons .lst (.inr rfl), eqs_cons .lst (.inr rfl), h1, g1]
    · rw [List.map_cons, List.map_cons, ltB_lst, ltL, h1]
      rw [ltB_lst] at g2
      by_cases h : (partKey a).eq (partKey b) = true
      · rw [if_pos h, if_pos h, g2]
      · rw [if_neg h, if_neg h, h2]
    · rw [List.map_cons, List.map_cons, ltB_lst, ltL]
      rw [ltB_lst] at g3
      by_cases h : (partKey a).eq (partKey b) = true
      · rw [if_pos h, if_pos h, g3]
      · rw [if_neg h, if_neg h, h3]
theorem mono_check : ∀ j k : Fin 15, ((shFirst.getD j.val 0 == shFirst.getD k.val 0) = (lawFirst.getD j.val 0 == lawFirst.getD k.val 0)) ∧ (decide (shFirst.getD j.val 0 < shFirst.getD k.val 0) = decide (lawFirst.getD j.val 0 < lawFirst.getD k.val 0)) ∧
    ((shPlace.getD j.val 0 == shPlace.getD k.val 0) = (j.val == k.val)) ∧ (decide (shPlace.getD j.val 0 < shPlace.getD k.val 0) = decide (j.val < k.val)) := by decide +kernel
theorem small_check : ∀ j : Fin 15, shFirst.getD j.val 0 < 43 ∧ lawFirst.getD j.val 0 < 99 := by decide +kernel
theorem nat_iso (n a b A B : Nat) (h1 : (a == b) = (A == B)) (h2 : decide (a < b) = decide (A < B)) : Iso n (.int a) (.int b) (.int A) (.int B) := by
  refine ⟨?_, decide (A < B), ?_, ?_⟩
  · rw [eq_int, eq_int]
    have e : ∀ x y : Nat, ((x : Int) == (y : Int)) = (x == y) := fun x y => by rw [Bool.eq_iff_iff]; simp; omega
    rw [e, e, h1]
  · rw [ltB_int, ← h2]
    congr 1
    exact decide_eq_decide.mpr (by omega)
  · rw [ltB_int]
    congr 1
    exact decide_eq_decide.mpr (by omega)
/-- four parts that compare alike, in their order -/
theorem four_iso {n : Nat} {a b c d a' b' c' d' A B C E A' B' C' E' : D} (h1 : Iso n a a' A A') (h2 : Iso n b b' B B') (h3 : Iso n c c' C C') (h4 : Iso n d d' E E') :
    (D.tup [a, b, c, d]).eq (.tup [a', b', c', d']) = (D.lst [A, B, C, E]).eq (.lst [A', B', C', E']) ∧ ∃ r, ltB (n + 1) (.tup [a, b, c, d]) (.tup [a', b', c', d']) = some r ∧ ltB (n + 1) (.lst [A, B, C, E]) (.lst [A', B', C', E']) = some r := by
  obtain ⟨e1, r1, p1, q1⟩ := h1
  obtain ⟨e2, r2, p2, q2⟩ := h2
  obtain ⟨e3, r3, p3, q3⟩ := h3
  obtain ⟨e4, r4, p4, q4⟩ := h4
  refine ⟨?_, if A.eq A' = true then (if B.eq B' = true then (if C.eq C' = true then (if E.eq E' = true then false else r4) else r3) else r2) else r1, ?_, ?_⟩
  · rw [eqs_cons .tup (.inl rfl), eqs_cons .tup (.inl rfl), eqs_cons .tup (.inl rfl), eqs_cons .tup (.inl rfl), eqs_cons .lst (.inr rfl), eqs_cons .lst (.inr rfl), eqs_cons .lst (.inr rfl), eqs_cons .lst (.inr rfl), e1, e2, e3, e4]
    rfl
  · rw [ltB_tup, ltL, ltL, ltL, ltL, ltL, e1, e2, e3, e4, p1, p2, p3, p4]
    split <;> (try split) <;> (try split) <;> (try split) <;> rfl
  · rw [ltB_lst, ltL, ltL, ltL, ltL, ltL, q1, q2, q3, q4]
    split <;> (try split) <;> (try split) <;> (try split) <;> rfl
theorem mid_parts {ps : List D} (h : ∀ d ∈ ps, PartS d) : ∀ d ∈ midOf ps, PartS d := fun d hd => h d (List.mem_of_mem_drop (List.mem_of_mem_take hd))
theorem last_part {ps : List D} (h : ∀ d ∈ ps, PartS d) (h0 : 0 < ps.length) : PartS (lastOf ps) := by
  unfold lastOf
  have hl : ps.length - 1 < ps.length := by omega
  have e : ps.getD (ps.length - 1) .none = ps[ps.length - 1] := by simp [hl]
  rw [e]; exact h _ (List.getElem_mem hl)
theorem path_iso {ps key qs kex : List D} (h : PathR ps key) (g : PathR qs kex) : (pathOrder ps).eq (pathOrder qs) = (D.lst key).eq (.lst kex) ∧ ∃ r, ltB 4 (pathOrder ps) (pathOrder qs) = some r ∧ ltB 4 (.lst key) (.lst kex) = some r := by
  rcases h.kind with ⟨rfl, e1⟩ | ⟨j, hj, rfl, e1, hp0⟩ <;> rcases g.kind with ⟨rfl, e2⟩ | ⟨k, hk, rfl, e2, hq0⟩
  · rw [e1, e2]
    exact ⟨by kernel_rfl!, false, by kernel_rfl!, by kernel_rfl!⟩
  · rw [e1, e2]
    have hs := small_check ⟨k, hk⟩
    dsimp only at hs
    have n1 : (D.int 43).eq (.int (shFirst.getD k 0 : Nat)) = false := by rw [eq_int, beq_eq_false_iff_ne]; omega
    have n2 : (D.int 99).eq (.int (lawFirst.getD k 0 : Nat)) = false := by rw [eq_int, beq_eq_false_iff_ne]; omega
    refine ⟨?_, false, ?_, ?_⟩
    · unfold farOrder orderK keyK
      rw [eqs_cons .tup (.inl rfl), eqs_cons .lst (.inr rfl), n1, n2]; rfl
    · unfold farOrder orderK
      rw [ltB_tup, ltL, if_neg (by rw [n1]; simp), ltB_int]; congr 1; exact decide_eq_false (by omega)
    · unfold keyK
      rw [ltB_lst, ltL, if_neg (by rw [n2]; simp), ltB_int]; congr 1; exact decide_eq_false (by omega)
  · rw [e1, e2]
    have hs := small_check ⟨j, hj⟩
    dsimp only at hs
    have n1 : (D.int (shFirst.getD j 0 : Nat)).eq (.int 43) = false := by rw [eq_int, beq_eq_false_iff_ne]; omega
    have n2 : (D.int (lawFirst.getD j 0 : Nat)).eq (.int 99) = false := by rw [eq_int, beq_eq_false_iff_ne]; omega
    refine ⟨?_, true, ?_, ?_⟩
    · unfold farOrder orderK keyK
      rw [eqs_cons .tup (.inl rfl), eqs_cons .lst (.inr rfl), n1, n2]; rfl
    · unfold farOrder orderK
      rw [ltB_tup, ltL, if_neg (by rw [n1]; simp), ltB_int]; congr 1; exact decide_eq_true (by omega)
    · unfold keyK
      rw [ltB_lst, ltL, if_neg (by rw [n2]; simp), ltB_int]; congr 1; exact decide_eq_true (by omega)
  · rw [e1, e2]
    obtain ⟨m1, m2, m3, m4⟩ := mono_check ⟨j, hj⟩ ⟨k, hk⟩
    exact four_iso (n := 3) (nat_iso _ _ _ _ _ m1 m2) (parts_iso 1 (mid_parts h.parts) (mid_parts g.parts)) (nat_iso _ _ _ _ _ m3 m4) (part_iso 2 (last_part h.parts hp0) (last_part g.parts hq0))
theorem partOrder_fine {d : D} (h : PartS d) : (partOrder d).fine = true ∧ (partKey d).fine = true ∧ (partOrder d).ok = true ∧ (partKey d).ok = true ∧ (partOrder d).dep ≤ 1 ∧ (partKey d).dep ≤ 1 := by
  have s0 : PyData.strOk "" = true := by decide +kernel
  rcases h with ⟨i, rfl⟩ | ⟨x, rfl, _, h2⟩
  · refine ⟨?_, ?_, ?_, ?_, ?_, ?_⟩ <;> simp [partOrder, partKey, D.isInt, D.isBool, D.isStr, D.fine, D.ok, D.oks, D.dep, D.deps, s0]
  · refine ⟨?_, ?_, ?_, ?_, ?_, ?_⟩ <;> simp [partOrder, partKey, D.isInt, D.isBool, D.isStr, D.fine, D.ok, D.oks, D.dep, D.deps, s0, h2]
theorem fine_of {d : D} (h1 : d.ok = true) (h2 : d.dep ≤ 60) : d.fine = true := by
  unfold D.fine; rw [h1, decide_eq_true h2]; rfl
theorem lists_fine {l : List D} (f : D → D) (h : ∀ d ∈ l, PartS d) (hf : ∀ d, PartS d → (f d).ok = true ∧ (f d).dep ≤ 1) : (D.lst (l.map f)).ok = true ∧ (D.lst (l.map f)).dep ≤ 2 := by
  refine ⟨D.oks_all fun d hd => ?_, ?_⟩
  · obtain ⟨e, he, rfl⟩ := List.mem_map.mp hd
    exact (hf e (h e he)).1
  · have := D.deps_all (n := 1) (l := l.map f) fun d hd => by
      obtain ⟨e, he, rfl⟩ := List.mem_map.mp hd
      exact (hf e (h e he)).2
    simp only [D.dep]; omega
theorem path_fine {ps key : List D} (h : PathR ps key) : (pathOrder ps).fine = true ∧ (D.lst key).fine = true := by
  rcases h.kind with ⟨rfl, e1⟩ | ⟨j, hj, rfl, e1, hp0⟩
  · rw [e1]; exact ⟨by decide +kernel, by decide +kernel⟩
  · rw [e1]
    obtain ⟨a1, a2⟩ := lists_fine partOrder (mid_parts h.parts) fun d hd => ⟨(partOrder_fine hd).2.2.1, (partOrder_fine hd).2.2.2.2.1⟩
    obtain ⟨b1, b2⟩ := lists_fine partKey (mid_parts h.parts) fun d hd => ⟨(partOrder_fine hd).2.2.2.1, (partOrder_fine hd).2.2.2.2.2⟩
    obtain ⟨c1, c2, c3, c4, c5, c6⟩ := partOrder_fine (last_part h.parts hp0)
    refine ⟨fine_of ?_ ?_, fine_of ?_ ?_⟩
    · simp only [orderK, D.ok, D.oks] at a1 ⊢; rw [a1, c3]; rfl
    · simp only [orderK, D.dep, D.deps] at a2 ⊢; omega
    · simp only [keyK, D.ok, D.oks] at b1 ⊢; rw [b1, c4]; rfl
    · simp only [keyK, D.dep, D.deps] at b2 ⊢; omega
theorem comp_any {c : Cx} {target elt : Expr} {Q : List D → Prop} (P : D → Prop) (inv : Rho → Prop) : ∀ (l : List D),
    (∀ d ∈ l, ∀ ρ, inv ρ → ∀ rs, SemA (c.withRs rs) target d ρ none fun ρ' => inv ρ' ∧ SemE (c.withRs rs) elt ρ' P) → ∀ ρ acc, inv ρ → (∀ ys : List D, ys.length = l.length → (∀ y ∈ ys, P y) → Q (acc ++ ys)) → CompT c target [] elt Q l ρ acc
  | [], _, ρ, acc, _, q => by
    have := q [] rfl (by simp)
    simpa [CompT] using this
  | d :: ds, h, ρ, acc, hi, q => by
    intro rs
    refine (h d (.head _) ρ hi rs).mono fun ρ' ⟨hi', he⟩ => T_nil ⟨fun _ => he.mono fun y hy => ?_, fun e => by cases e⟩
    refine comp_any P inv ds (fun e he => h e (.tail _ he)) ρ' _ hi' fun ys hl hP => ?_
    have := q (y :: ys) (by simp [hl]) (fun z hz => by
      rcases List.mem_cons.mp hz with rfl | hz
      · exact hy
      · exact hP z hz)
    simpa using this
theorem O_ne_bool {c : Cx} {Q : D → Prop} {i j : Bool} (q : Q (.bool (!(i == j)))) : OpD c (compareOp .NotEq) (.bool i) (.bool j) Q := O_ne (by rfl) (by rfl) q
theorem O_eq_bool2 {c : Cx} {Q : D → Prop} {i j : Bool} (q : Q (.bool (i == j))) : OpD c (compareOp .Eq) (.bool i) (.bool j) Q := O_eq (by rfl) (by rfl) q
theorem O_lt4 {c : Cx} {Q : D → Prop} {a b : D} {r : Bool} (ha : a.fine = true) (hb : b.fine = true) (h : ltB 4 a b = some r) (q : Q (.bool r)) : OpD c (compareOp .Lt) a b Q := O_lt_data 4 (by decide) ha hb h q
theorem fn_law_orders_right {w : World} {base : Heap} {mg mb : Str → Option Value} (W : Wd w base mg mb) : FnAt PySem.Challenge.rw_xm0979_01.prog w base mg "_law_orders_right" 5 (fun ds Q => ds = [.src] ∧ Q (.bool true)) := by
  have F1 := fn_law_path W
  have F2 := fn_law_one W
  have F3 := fn_law_part_key W
  have F4 := fn_part_order W
  have F5 := fn_path_order W
  obtain ⟨loose, mean, T⟩ := W.T
  refine fn_cells T mem32 "source" (fun pm cd doc v => by kernel_rfl) (fun L => .inr ⟨by kernel_rfl, by kernel_rfl⟩) (fun L x h => cellsFrom_has (.inl h)) (by kernel_rfl) (by kernel_rfl) (by kernel_rfl) (fun A L a pm cd doc sr fz s d Q hq => ?_) (fun ds Q ⟨e, _⟩ => ⟨_, e⟩)
  obtain ⟨e, q⟩ := hq
  cases e
  rw [rhoOf1]
  conv => arg 2; whnf
  with_reducible
    refine B_cons ?_
    refine S_assignT (by kernel_rfl) (by kernel_rfl!) ?_
    refine E_comp (by intro _; kernel_rfl) (CompScope.of (by kernel_rfl) (by kernel_rfl)) ?_
    refine Src_rangeW (by assumption) (by kernel_rfl) (by kernel_rfl) (by kernel_rfl) ?_
    refine L_cons ?_ (by kernel_rfl)
    refine E_int ?_
    refine L_nil ?_
    rotate_left
  refine ⟨0, 2, .inl ⟨rfl, rfl⟩, by decide, by decide, by decide, by decide, by decide, fun C f s0 => ?_⟩
  refine comp_any PartS (fun ρ => ρ "source" = some .src) _ (fun d hd ρ hρ rs => ?_) _ _ (rho_comp (by kernel_rfl) (by kernel_rfl) rho_hit) (fun ys hys hP => ?_)
  · skip
    with_reducible
      refine A_local (by kernel_rfl!) (by first | (simp; done) | (intro p e; cases e; dsimp only; decide +kernel)) ?_
      refine And.intro ?_ ?_
    assumption
    with_reducible
      refine E_callW (by assumption) (by assumption) (by kernel_rfl) (by kernel_rfl) (by kernel_rfl) (by kernel_rfl) ?_
      refine L_cons ?_ (by kernel_rfl)
      refine E_cell (by kernel_rfl!) (rho_a1 (by decide +kernel) (by assumption)) (by kernel_rfl) ?_
      refine L_cons ?_ (by kernel_rfl)
      refine E_list ?_ (by decide)
      refine L_cons ?_ (by kernel_rfl)
      refine E_int ?_
      refine L_cons ?_ (by kernel_rfl)
      refine E_int ?_
      refine L_cons ?_ (by kernel_rfl)
      refine E_int ?_
      refine L_cons ?_ (by kernel_rfl)
      refine E_int ?_
      refine L_cons ?_ (by kernel_rfl)
      refine E_neg ?_
      refine E_int ?_
      refine ⟨_, rfl, ?_⟩
      refine L_cons ?_ (by kernel_rfl)
      refine E_str ?_
      refine L_cons ?_ (by kernel_rfl)
      refine E_str ?_
      refine L_cons ?_ (by kernel_rfl)
      refine E_str ?_
      refine L_cons ?_ (by kernel_rfl)
      refine E_str ?_
      refine L_cons ?_ (by kernel_rfl)
      refine E_str ?_
      refine L_nil ?_
      refine L_nil ?_
      refine ⟨_, rfl, ?_⟩
      refine And.intro ?_ ?_
      rotate_left
      refine And.intro ?_ ?_
      rotate_left
      refine fun _ => ?_
      refine fun _ => ?_
      rotate_left
    all_goals try (first | decide | omega | (simp; done))
    rename_i d hd
    simp only [List.mem_cons, List.not_mem_nil, or_false] at hd
    rcases hd with rfl | rfl | rfl | rfl | rfl | rfl | rfl | rfl | rfl | rfl
    all_goals exact isPart_of (by decide +kernel)
  · obtain ⟨y1, y2, rfl⟩ : ∃ y1 y2, ys = [y1, y2] := by
      match ys, hys with
      | [a, b], _ => exact ⟨a, b, rfl⟩
    have p1 := hP y1 (by simp)
    have p2 := hP y2 (by simp)
    obtain ⟨i1, r1, i2, i3⟩ := part_iso 3 p1 p2
    obtain ⟨f1, f2, _⟩ := partOrder_fine p1
    obtain ⟨g1, g2, _⟩ := partOrder_fine p2
    rw [List.nil_append]
    with_reducible
      refine A_tupleL (by kernel_rfl) (by kernel_rfl) ?_
      refine As_cons (by kernel_rfl) ?_
      refine A_local (by kernel_rfl!) (by first | (simp; done) | (intro p e; cases e; dsimp only; decide +kernel)) ?_
      refine As_cons (by kernel_rfl) ?_
      refine A_local (by kernel_rfl!) (by first | (simp; done) | (intro p e; cases e; dsimp only; decide +kernel)) ?_
      refine As_nil ?_
      refine B_cons ?_
      refine S_assignSw2 (by kernel_rfl) (by kernel_rfl!) (by kernel_rfl) (by kernel_rfl) ?_
      refine E_callW (by assumption) (by assumption) (by kernel_rfl) (by kernel_rfl) (by kernel_rfl) (by kernel_rfl) ?_
      refine L_cons ?_ (by kernel_rfl)
      refine E_local (by kernel_rfl!) (rho_h1 (by decide +kernel)) (by kernel_rfl) ?_
      refine L_nil ?_
      refine ⟨_, rfl, ?_⟩
      refine E_callW (by assumption) (by assumption) (by kernel_rfl) (by kernel_rfl) (by kernel_rfl) (by kernel_rfl) ?_
      refine L_cons ?_ (by kernel_rfl)
      refine E_local (by kernel_rfl!) rho_hit (by kernel_rfl) ?_
      refine L_nil ?_
      refine ⟨_, rfl, ?_⟩
      refine N_local (by kernel_rfl!) (by first | (simp; done) | (intro p e; cases e; dsimp only; decide +kernel)) ?_
      refine N_local (by kernel_rfl!) (by first | (simp; done) | (intro p e; cases e; dsimp only; decide +kernel)) ?_
      refine B_cons ?_
      refine S_if ?_
      refine C_or ?_
      refine C_cmp (by kernel_rfl) ?_
      refine E_cmp (by kernel_rfl) ?_
      refine E_callW (by assumption) (by assumption) (by kernel_rfl) (by kernel_rfl) (by kernel_rfl) (by kernel_rfl) ?_
      refine L_cons ?_ (by kernel_rfl)
      refine E_local (by kernel_rfl!) (rho_h3 (by decide +kernel)) (by kernel_rfl) ?_
      refine L_nil ?_
      refine ⟨_, rfl, ?_⟩
      refine E_callW (by assumption) (by assumption) (by kernel_rfl) (by kernel_rfl) (by kernel_rfl) (by kernel_rfl) ?_
      refine L_cons ?_ (by kernel_rfl)
      refine E_local (by kernel_rfl!) (rho_h2 (by decide +kernel)) (by kernel_rfl) ?_
      refine L_nil ?_
      refine ⟨_, rfl, ?_⟩
      refine O_lt4 (by assumption) (by assumption) (by assumption) ?_
      refine E_cmp (by kernel_rfl) ?_
      refine E_local (by kernel_rfl!) rho_hit (by kernel_rfl) ?_
      refine E_local (by kernel_rfl!) (rho_h1 (by decide +kernel)) (by kernel_rfl) ?_
      refine O_lt4 (by assumption) (by assumption) (by assumption) ?_
      refine O_ne_bool ?_
      refine ⟨_, rfl, ?_⟩
      refine And.intro ?_ ?_
      refine fun _ => ?_
      refine And.intro ?_ ?_
      refine fun _ => ?_
      refine B_cons ?_
      refine S_return ?_
      refine E_bool ?_
      rotate_left
    with_reducible refine dead ?_
    rfl
    with_reducible
      refine fun _ => ?_
      refine C_or ?_
      refine C_cmp (by kernel_rfl) ?_
      refine E_cmp (by kernel_rfl) ?_
      refine E_callW (by assumption) (by assumption) (by kernel_rfl) (by kernel_rfl) (by kernel_rfl) (by kernel_rfl) ?_
      refine L_cons ?_ (by kernel_rfl)
      refine E_local (by kernel_rfl!) (rho_h3 (by decide +kernel)) (by kernel_rfl) ?_
      refine L_nil ?_
      refine ⟨_, rfl, ?_⟩
      refine E_callW (by assumption) (by assumption) (by kernel_rfl) (by kernel_rfl) (by kernel_rfl) (by kernel_rfl) ?_
      refine L_cons ?_ (by kernel_rfl)
      refine E_local (by kernel_rfl!) (rho_h2 (by decide +kernel)) (by kernel_rfl) ?_
      refine L_nil ?_
      refine ⟨_, rfl, ?_⟩
      refine O_eq (by assumption) (by assumption) ?_
      refine E_cmp (by kernel_rfl) ?_
      refine E_local (by kernel_rfl!) rho_hit (by kernel_rfl) ?_
      refine E_local (by kernel_rfl!) (rho_h1 (by decide +kernel)) (by kernel_rfl) ?_
      refine O_eq (by assumption) (by assumption) ?_
      refine O_ne_bool ?_
      refine ⟨_, rfl, ?_⟩
      refine And.intro ?_ ?_
      refine fun _ => ?_
      refine And.intro ?_ ?_
      refine fun _ => ?_
      refine B_cons ?_
      refine S_return ?_
      refine E_bool ?_
      rotate_left
    with_reducible refine dead ?_
    rfl
    with_reducible
      refine fun _ => ?_
      refine C_or_nil ?_
      refine And.intro ?_ ?_
    with_reducible refine dead ?_
    rfl
    with_reducible
      refine fun _ => ?_
      refine B_nil ?_
      refine B_cons ?_
      refine S_assignT (by kernel_rfl) (by kernel_rfl!) ?_
      refine E_tuple ?_ (by decide)
      refine L_cons ?_ (by kernel_rfl)
      refine E_callW (by assumption) (by assumption) (by kernel_rfl) (by kernel_rfl) (by kernel_rfl) (by kernel_rfl) ?_
      refine L_cons ?_ (by kernel_rfl)
      refine E_cell (by kernel_rfl!) (rho_h4 (by decide +kernel)) (by kernel_rfl) ?_
      refine L_nil ?_
      refine And.intro ?_ ?_
      rfl
      refine fun _ => ?_
      refine fun _ => ?_
      refine L_cons ?_ (by kernel_rfl)
      refine E_callW (by assumption) (by assumption) (by kernel_rfl) (by kernel_rfl) (by kernel_rfl) (by kernel_rfl) ?_
      refine L_cons ?_ (by kernel_rfl)
      refine E_cell (by kernel_rfl!) (rho_h4 (by decide +kernel)) (by kernel_rfl) ?_
      refine L_nil ?_
      refine And.intro ?_ ?_
      rfl
      refine fun _ => ?_
      refine fun _ => ?_
      refine L_nil ?_
      refine A_tuple (by kernel_rfl) (by kernel_rfl) ?_
      refine As_cons (by kernel_rfl) ?_
      rotate_left
    · rename_i h _
      simp at h
    · rename_i h _
      rw [i1] at h; simp at h
    rename_i p hp p' hp'
    obtain ⟨ps, key, rfl, h1⟩ := hp.is
    obtain ⟨qs, kex, rfl, h2⟩ := hp'.is
    obtain ⟨j1, r2, j2, j3⟩ := path_iso h1 h2
    obtain ⟨k1, k2⟩ := path_fine h1
    obtain ⟨k3, k4⟩ := path_fine h2
    obtain ⟨a1, a2, a3, a4⟩ := h1
    obtain ⟨b1, b2, b3, b4⟩ := h2
    with_reducible
      refine A_tuple (by kernel_rfl) (by kernel_rfl) ?_
      refine As_cons (by kernel_rfl) ?_
      refine A_local (by kernel_rfl!) (by first | (simp; done) | (intro p e; cases e; dsimp only; decide +kernel)) ?_
      refine As_cons (by kernel_rfl) ?_
      refine A_local (by kernel_rfl!) (by first | (simp; done) | (intro p e; cases e; dsimp only; decide +kernel)) ?_
      refine As_nil ?_
      refine As_cons (by kernel_rfl) ?_
      refine A_tuple (by kernel_rfl) (by kernel_rfl) ?_
      refine As_cons (by kernel_rfl) ?_
      refine A_local (by kernel_rfl!) (by first | (simp; done) | (intro p e; cases e; dsimp only; decide +kernel)) ?_
      refine As_cons (by kernel_rfl) ?_
      refine A_local (by kernel_rfl!) (by first | (simp; done) | (intro p e; cases e; dsimp only; decide +kernel)) ?_
      refine As_nil ?_
      refine As_nil ?_
      refine B_cons ?_
      refine S_if ?_
      refine C_cmp (by kernel_rfl) ?_
      refine E_cmp (by kernel_rfl) ?_
      refine E_callW (by assumption) (by assumption) (by kernel_rfl) (by kernel_rfl) (by kernel_rfl) (by kernel_rfl) ?_
      refine L_cons ?_ (by kernel_rfl)
      refine E_local (by kernel_rfl!) (rho_h3 (by decide +kernel)) (by kernel_rfl) ?_
      refine L_nil ?_
      refine ⟨_, rfl, ?_⟩
      refine And.intro ?_ ?_
      refine fun _ => ?_
      refine fun _ => ?_
      rotate_left
      refine And.intro ?_ ?_
      rotate_left
      refine And.intro ?_ ?_
    assumption
    with_reducible
      refine E_callW (by assumption) (by assumption) (by kernel_rfl) (by kernel_rfl) (by kernel_rfl) (by kernel_rfl) ?_
      refine L_cons ?_ (by kernel_rfl)
      refine E_local (by kernel_rfl!) (rho_h1 (by decide +kernel)) (by kernel_rfl) ?_
      refine L_nil ?_
      refine ⟨_, rfl, ?_⟩
      refine And.intro ?_ ?_
      refine fun _ => ?_
      refine fun _ => ?_
      rotate_left
      refine And.intro ?_ ?_
      rotate_left
      refine And.intro ?_ ?_
    assumption
    with_reducible
      refine O_lt4 (by assumption) (by assumption) (by assumption) ?_
      refine E_cmp (by kernel_rfl) ?_
      refine E_local (by kernel_rfl!) (rho_h2 (by decide +kernel)) (by kernel_rfl) ?_
      refine E_local (by kernel_rfl!) rho_hit (by kernel_rfl) ?_
      refine O_lt4 (by assumption) (by assumption) (by assumption) ?_
      refine O_ne_bool ?_
      refine ⟨_, rfl, ?_⟩
      refine And.intro ?_ ?_
      refine fun _ => ?_
      refine B_cons ?_
      refine S_return ?_
      refine E_bool ?_
      rotate_left
      refine fun _ => ?_
      refine B_nil ?_
      refine B_cons ?_
      refine S_return ?_
      refine E_cmp (by kernel_rfl) ?_
      refine E_cmp (by kernel_rfl) ?_
      refine E_callW (by assumption) (by assumption) (by kernel_rfl) (by kernel_rfl) (by kernel_rfl) (by kernel_rfl) ?_
      refine L_cons ?_ (by kernel_rfl)
      refine E_local (by kernel_rfl!) (rho_h3 (by decide +kernel)) (by kernel_rfl) ?_
      refine L_nil ?_
      refine ⟨_, rfl, ?_⟩
      refine And.intro ?_ ?_
      refine fun _ => ?_
      refine fun _ => ?_
      rotate_left
      refine And.intro ?_ ?_
      rotate_left
      refine And.intro ?_ ?_
    assumption
    with_reducible
      refine E_callW (by assumption) (by assumption) (by kernel_rfl) (by kernel_rfl) (by kernel_rfl) (by kernel_rfl) ?_
      refine L_cons ?_ (by kernel_rfl)
      refine E_local (by kernel_rfl!) (rho_h1 (by decide +kernel)) (by kernel_rfl) ?_
      refine L_nil ?_
      refine ⟨_, rfl, ?_⟩
      refine And.intro ?_ ?_
      refine fun _ => ?_
      refine fun _ => ?_
      rotate_left
      refine And.intro ?_ ?_
      rotate_left
      refine And.intro ?_ ?_
    assumption
    with_reducible
      refine O_eq (by assumption) (by assumption) ?_
      refine E_cmp (by kernel_rfl) ?_
      refine E_local (by kernel_rfl!) (rho_h2 (by decide +kernel)) (by kernel_rfl) ?_
      refine E_local (by kernel_rfl!) rho_hit (by kernel_rfl) ?_
      refine O_eq (by assumption) (by assumption) ?_
      refine O_eq_bool2 ?_
      rotate_left
    all_goals try first | omega | exact a1 _ (by assumption) | exact b1 _ (by assumption)
    · rename_i h
      simp at h
    · exact qb q (by rw [j1]; exact (beq_self_eq_true _).symm)


end

-- P25
section
noncomputable def told : List (Kd × D × Bool) := (.text none, .str (Txt.mul "~" 120), true) :: (.text none, .str (Txt.mul "~" 121), false) :: (.text none, .str "a\n", false) :: (.text (some 5), .str "abcde", true) :: (.text (some 5), .str "abcdef", false) ::
  (.number 0 240 16, .int 240, true) :: (.number 0 240 16, .int 256, false) :: (.number 0 240 16, .int 241, false) :: (.number 0 240 16, .int (-16), false) ::
  (.numbers 1 4094, .tup [.int 1, .int 4094], true) :: (.numbers 1 4094, .tup [.int 0, .int 1], false) :: (.numbers 1 4094, .tup [.int 1, .int 4095], false) :: (.numbers 1 4094, .tup [.int 2, .int 2], false) :: (.numbers 1 4094, .tup [], true) :: (.numbers 1 4094, .lst [.int 1], false) ::
  (.word ["off", "mst"], .str "mst", true) :: (.name, .str (Txt.mul "x" 32), true) :: (.name, .str (Txt.mul "x" 33), false) :: (.truth, .bool false, true) :: (.truth, .int 0, false) :: []
noncomputable def thingB (d : D) : Bool := d.fine && (match d with
  | .str x => decide (x.length ≤ 1000) && PyData.strOk x
  | .tup l => decide (l.length ≤ 1000) && l.all fun e => e.ok && decide (e.dep ≤ 59)
  | _ => true)
noncomputable def kindB : Kd → Bool
  | .number _ _ st => decide (st ≠ 0)
  | .word ws => ws.all PyData.strOk
  | .text (some n) => decide (n ≤ 100000)
  | _ => true
theorem thing_of {d : D} (h : thingB d = true) : ThingOk d := by
  unfold thingB at h
  rw [Bool.and_eq_true] at h
  refine ⟨h.1, fun x e => ?_, fun l e => ?_⟩
  · subst e
    have := h.2
    simp only [Bool.and_eq_true, decide_eq_true_eq] at this
    exact ⟨by omega, this.2⟩
  · subst e
    have := h.2
    simp only [Bool.and_eq_true, decide_eq_true_eq, List.all_eq_true] at this
    exact ⟨by omega, fun d hd => this.2 d hd⟩
theorem kind_of {k : Kd} (h : kindB k = true) : k.Ok := by
  cases k with
  | number lo hi st =>
    have h : decide (st ≠ 0) = true := h
    have h : st ≠ 0 := of_decide_eq_true h
    exact h
  | word ws => exact fun x hx => List.all_eq_true.mp h x hx
  | text n => cases n with
    | none => trivial
    | some n =>
      have h : decide (n ≤ 100000) = true := h
      have h : n ≤ 100000 := of_decide_eq_true h
      exact h
  | _ => trivial
theorem told_check : (told.all fun q => kindB q.1 && thingB q.2.1 && (fitsKind q.1 q.2.1 == q.2.2)) = true := by decide +kernel
noncomputable def toldD (q : Kd × D × Bool) : D := .tup [q.1.d, q.2.1, .bool q.2.2]
theorem O_ne_bool5 {c : Cx} {Q : D → Prop} {i j : Bool} (q : Q (.bool (!(i == j)))) : OpD c (compareOp .NotEq) (.bool i) (.bool j) Q := O_ne (by rfl) (by rfl) q
theorem fn_law_told_right {w : World} {base : Heap} {mg mb : Str → Option Value} (W : Wd w base mg mb) : FnAt PySem.Challenge.rw_xm0979_01.prog w base mg "_law_told_right" 3 (fun ds Q => ds = [] ∧ Q (.bool true)) := by
  have F1 := fn_fits_kind W
  obtain ⟨loose, mean, T⟩ := W.T
  refine fn_plain T mem33 [] (fun pm cd doc vs h => by match vs, h with | [], _ => kernel_rfl) (by kernel_rfl) (by kernel_rfl) (by kernel_rfl) (by kernel_rfl) (by decide +kernel) (fun A L a cd sr fz s ds Q ⟨e, q⟩ => ?_)
  subst e
  refine ⟨rfl, ?_⟩
  rw [rhoOf0]
  conv => arg 2; whnf
  with_reducible
    refine B_cons ?_
    refine S_assignT (by kernel_rfl) (by kernel_rfl!) ?_
    refine E_tuple ?_ (by decide)
    refine L_cons ?_ (by kernel_rfl)
    refine E_tuple ?_ (by decide)
    refine L_cons ?_ (by kernel_rfl)
    refine E_str ?_
    refine L_nil ?_
    refine L_cons ?_ (by kernel_rfl)
    refine E_tuple ?_ (by decide)
    refine L_cons ?_ (by kernel_rfl)
    refine E_str ?_
    refine L_cons ?_ (by kernel_rfl)
    refine E_int ?_
    refine L_cons ?_ (by kernel_rfl)
    refine E_int ?_
    refine L_cons ?_ (by kernel_rfl)
    refine E_int ?_
    refine L_nil ?_
    refine L_cons ?_ (by kernel_rfl)
    refine E_tuple ?_ (by decide)
    refine L_cons ?_ (by kernel_rfl)
    refine E_str ?_
    refine L_cons ?_ (by kernel_rfl)
    refine E_int ?_
    refine L_cons ?_ (by kernel_rfl)
    refine E_int ?_
    refine L_nil ?_
    refine L_nil ?_
    refine A_tuple (by kernel_rfl) (by kernel_rfl) ?_
    refine As_cons (by kernel_rfl) ?_
    refine A_local (by kernel_rfl!) (by first | (simp; done) | (intro p e; cases e; dsimp only; decide +kernel)) ?_
    refine As_cons (by kernel_rfl) ?_
    refine A_local (by kernel_rfl!) (by first | (simp; done) | (intro p e; cases e; dsimp only; decide +kernel)) ?_
    refine As_cons (by kernel_rfl) ?_
    refine A_local (by kernel_rfl!) (by first | (simp; done) | (intro p e; cases e; dsimp only; decide +kernel)) ?_
    refine As_nil ?_
    refine B_cons ?_
    refine S_assign (by kernel_rfl!) ?_
    refine E_list ?_ (by decide)
    refine L_cons ?_ (by kernel_rfl)
    refine E_tuple ?_ (by decide)
    refine L_cons ?_ (by kernel_rfl)
    refine E_local (by kernel_rfl!) (rho_h2 (by decide +kernel)) (by kernel_rfl) ?_
    refine L_cons ?_ (by kernel_rfl)
    refine E_binop ?_
    refine E_str ?_
    refine E_int ?_
    refine O_mulstr ?_ ?_
    rotate_left
    refine L_cons ?_ (by kernel_rfl)
    refine E_bool ?_
    refine L_nil ?_
    refine L_cons ?_ (by kernel_rfl)
    refine E_tuple ?_ (by decide)
    refine L_cons ?_ (by kernel_rfl)
    refine E_local (by kernel_rfl!) (rho_h2 (by decide +kernel)) (by kernel_rfl) ?_
    refine L_cons ?_ (by kernel_rfl)
    refine E_binop ?_
    refine E_str ?_
    refine E_int ?_
    refine O_mulstr ?_ ?_
    rotate_left
    refine L_cons ?_ (by kernel_rfl)
    refine E_bool ?_
    refine L_nil ?_
    refine L_cons ?_ (by kernel_rfl)
    refine E_tuple ?_ (by decide)
    refine L_cons ?_ (by kernel_rfl)
    refine E_local (by kernel_rfl!) (rho_h2 (by decide +kernel)) (by kernel_rfl) ?_
    refine L_cons ?_ (by kernel_rfl)
    refine E_str ?_
    refine L_cons ?_ (by kernel_rfl)
    refine E_bool ?_
    refine L_nil ?_
    refine L_cons ?_ (by kernel_rfl)
    refine E_tuple ?_ (by decide)
    refine L_cons ?_ (by kernel_rfl)
    refine E_tuple ?_ (by decide)
    refine L_cons ?_ (by kernel_rfl)
    refine E_str ?_
    refine L_cons ?_ (by kernel_rfl)
    refine E_int ?_
    refine L_nil ?_
    refine L_cons ?_ (by kernel_rfl)
    refine E_str ?_
    refine L_cons ?_ (by kernel_rfl)
    refine E_bool ?_
    refine L_nil ?_
    refine L_cons ?_ (by kernel_rfl)
    refine E_tuple ?_ (by decide)
    refine L_cons ?_ (by kernel_rfl)
    refine E_tuple ?_ (by decide)
    refine L_cons ?_ (by kernel_rfl)
    refine E_str ?_
    refine L_cons ?_ (by kernel_rfl)
    refine E_int ?_
    refine L_nil ?_
    refine L_cons ?_ (by kernel_rfl)
    refine E_str ?_
    refine L_cons ?_ (by kernel_rfl)
    refine E_bool ?_
    refine L_nil ?_
    refine L_cons ?_ (by kernel_rfl)
    refine E_tuple ?_ (by decide)
    refine L_cons ?_ (by kernel_rfl)
    refine E_local (by kernel_rfl!) (rho_h1 (by decide +kernel)) (by kernel_rfl) ?_
    refine L_cons ?_ (by kernel_rfl)
    refine E_int ?_
    refine L_cons ?_ (by kernel_rfl)
    refine E_bool ?_
    refine L_nil ?_
    refine L_cons ?_ (by kernel_rfl)
    refine E_tuple ?_ (by decide)
    refine L_cons ?_ (by kernel_rfl)
    refine E_local (by kernel_rfl!) (rho_h1 (by decide +kernel)) (by kernel_rfl) ?_
    refine L_cons ?_ (by kernel_rfl)
    refine E_int ?_
    refine L_cons ?_ (by kernel_rfl)
    refine E_bool ?_
    refine L_nil ?_
    refine L_cons ?_ (by kernel_rfl)
    refine E_tuple ?_ (by decide)
    refine L_cons ?_ (by kernel_rfl)
    refine E_local (by kernel_rfl!) (rho_h1 (by decide +kernel)) (by kernel_rfl) ?_
    refine L_cons ?_ (by kernel_rfl)
    refine E_int ?_
    refine L_cons ?_ (by kernel_rfl)
    refine E_bool ?_
    refine L_nil ?_
    refine L_cons ?_ (by kernel_rfl)
    refine E_tuple ?_ (by decide)
    refine L_cons ?_ (by kernel_rfl)
    refine E_local (by kernel_rfl!) (rho_h1 (by decide +kernel)) (by kernel_rfl) ?_
    refine L_cons ?_ (by kernel_rfl)
    refine E_neg ?_
    refine E_int ?_
    refine ⟨_, rfl, ?_⟩
    refine L_cons ?_ (by kernel_rfl)
    refine E_bool ?_
    refine L_nil ?_
    refine L_cons ?_ (by kernel_rfl)
    refine E_tuple ?_ (by decide)
    refine L_cons ?_ (by kernel_rfl)
    refine E_local (by kernel_rfl!) rho_hit (by kernel_rfl) ?_
    refine L_cons ?_ (by kernel_rfl)
    refine E_tuple ?_ (by decide)
    refine L_cons ?_ (by kernel_rfl)
    refine E_int ?_
    refine L_cons ?_ (by kernel_rfl)
    refine E_int ?_
    refine L_nil ?_
    refine L_cons ?_ (by kernel_rfl)
    refine E_bool ?_
    refine L_nil ?_
    refine L_cons ?_ (by kernel_rfl)
    refine E_tuple ?_ (by decide)
    refine L_cons ?_ (by kernel_rfl)
    refine E_local (by kernel_rfl!) rho_hit (by kernel_rfl) ?_
    refine L_cons ?_ (by kernel_rfl)
    refine E_tuple ?_ (by decide)
    refine L_cons ?_ (by kernel_rfl)
    refine E_int ?_
    refine L_cons ?_ (by kernel_rfl)
    refine E_int ?_
    refine L_nil ?_
    refine L_cons ?_ (by kernel_rfl)
    refine E_bool ?_
    refine L_nil ?_
    refine L_cons ?_ (by kernel_rfl)
    refine E_tuple ?_ (by decide)
    refine L_cons ?_ (by kernel_rfl)
    refine E_local (by kernel_rfl!) rho_hit (by kernel_rfl) ?_
    refine L_cons ?_ (by kernel_rfl)
    refine E_tuple ?_ (by decide)
    refine L_cons ?_ (by kernel_rfl)
    refine E_int ?_
    refine L_cons ?_ (by kernel_rfl)
    refine E_int ?_
    refine L_nil ?_
    refine L_cons ?_ (by kernel_rfl)
    refine E_bool ?_
    refine L_nil ?_
    refine L_cons ?_ (by kernel_rfl)
    refine E_tuple ?_ (by decide)
    refine L_cons ?_ (by kernel_rfl)
    refine E_local (by kernel_rfl!) rho_hit (by kernel_rfl) ?_
    refine L_cons ?_ (by kernel_rfl)
    refine E_tuple ?_ (by decide)
    refine L_cons ?_ (by kernel_rfl)
    refine E_int ?_
    refine L_cons ?_ (by kernel_rfl)
    refine E_int ?_
    refine L_nil ?_
    refine L_cons ?_ (by kernel_rfl)
    refine E_bool ?_
    refine L_nil ?_
    refine L_cons ?_ (by kernel_rfl)
    refine E_tuple ?_ (by decide)
    refine L_cons ?_ (by kernel_rfl)
    refine E_local (by kernel_rfl!) rho_hit (by kernel_rfl) ?_
    refine L_cons ?_ (by kernel_rfl)
    refine E_tuple ?_ (by decide)
    refine L_nil ?_
    refine L_cons ?_ (by kernel_rfl)
    refine E_bool ?_
    refine L_nil ?_
    refine L_cons ?_ (by kernel_rfl)
    refine E_tuple ?_ (by decide)
    refine L_cons ?_ (by kernel_rfl)
    refine E_local (by kernel_rfl!) rho_hit (by kernel_rfl) ?_
    refine L_cons ?_ (by kernel_rfl)
    refine E_list ?_ (by decide)
    refine L_cons ?_ (by kernel_rfl)
    refine E_int ?_
    refine L_nil ?_
    refine L_cons ?_ (by kernel_rfl)
    refine E_bool ?_
    refine L_nil ?_
    refine L_cons ?_ (by kernel_rfl)
    refine E_tuple ?_ (by decide)
    refine L_cons ?_ (by kernel_rfl)
    refine E_tuple ?_ (by decide)
    refine L_cons ?_ (by kernel_rfl)
    refine E_str ?_
    refine L_cons ?_ (by kernel_rfl)
    refine E_tuple ?_ (by decide)
    refine L_cons ?_ (by kernel_rfl)
    refine E_str ?_
    refine L_cons ?_ (by kernel_rfl)
    refine E_str ?_
    refine L_nil ?_
    refine L_nil ?_
    refine L_cons ?_ (by kernel_rfl)
    refine E_str ?_
    refine L_cons ?_ (by kernel_rfl)
    refine E_bool ?_
    refine L_nil ?_
    refine L_cons ?_ (by kernel_rfl)
    refine E_tuple ?_ (by decide)
    refine L_cons ?_ (by kernel_rfl)
    refine E_tuple ?_ (by decide)
    refine L_cons ?_ (by kernel_rfl)
    refine E_str ?_
    refine L_nil ?_
    refine L_cons ?_ (by kernel_rfl)
    refine E_binop ?_
    refine E_str ?_
    refine E_int ?_
    refine O_mulstr ?_ ?_
    rotate_left
    refine L_cons ?_ (by kernel_rfl)
    refine E_bool ?_
    refine L_nil ?_
    refine L_cons ?_ (by kernel_rfl)
    refine E_tuple ?_ (by decide)
    refine L_cons ?_ (by kernel_rfl)
    refine E_tuple ?_ (by decide)
    refine L_cons ?_ (by kernel_rfl)
    refine E_str ?_
    refine L_nil ?_
    refine L_cons ?_ (by kernel_rfl)
    refine E_binop ?_
    refine E_str ?_
    refine E_int ?_
    refine O_mulstr ?_ ?_
    rotate_left
    refine L_cons ?_ (by kernel_rfl)
    refine E_bool ?_
    refine L_nil ?_
    refine L_cons ?_ (by kernel_rfl)
    refine E_tuple ?_ (by decide)
    refine L_cons ?_ (by kernel_rfl)
    refine E_tuple ?_ (by decide)
    refine L_cons ?_ (by kernel_rfl)
    refine E_str ?_
    refine L_nil ?_
    refine L_cons ?_ (by kernel_rfl)
    refine E_bool ?_
    refine L_cons ?_ (by kernel_rfl)
    refine E_bool ?_
    refine L_nil ?_
    refine L_cons ?_ (by kernel_rfl)
    refine E_tuple ?_ (by decide)
    refine L_cons ?_ (by kernel_rfl)
    refine E_tuple ?_ (by decide)
    refine L_cons ?_ (by kernel_rfl)
    refine E_str ?_
    refine L_nil ?_
    refine L_cons ?_ (by kernel_rfl)
    refine E_int ?_
    refine L_cons ?_ (by kernel_rfl)
    refine E_bool ?_
    refine L_nil ?_
    refine L_nil ?_
    refine N_local (by kernel_rfl!) (by first | (simp; done) | (intro p e; cases e; dsimp only; decide +kernel)) ?_
    refine B_cons ?_
    refine S_return ?_
    refine E_cmp (by kernel_rfl) ?_
    refine E_comp (by intro _; kernel_rfl) (CompScope.of (by kernel_rfl) (by kernel_rfl)) ?_
    refine Src_of ?_
    refine E_local (by kernel_rfl!) rho_hit (by kernel_rfl) ?_
    refine SrcD.lst ?_
    refine And.intro ?_ ?_
    rotate_left
    refine fun _ => ?_
    refine fun _ => ?_
    refine fun _ => ?_
    rotate_left
  · exact mulOk1 rfl (by decide) (by decide)
  · exact mulOk1 rfl (by decide) (by decide)
  · exact mulOk1 rfl (by decide) (by decide)
  · exact mulOk1 rfl (by decide) (by decide)
  · decide
  · refine comp_filter (fun _ => false) id (fun _ => True) (told.map toldD) (fun d hd ρ _ rs => ?_) _ _ trivial ?_
    · obtain ⟨⟨k, e, b⟩, hq, rfl⟩ := List.mem_map.mp hd
      have hc := List.all_eq_true.mp told_check _ hq
      simp only [Bool.and_eq_true, beq_iff_eq] at hc
      have hk := kind_of hc.1.1
      have ht := thing_of hc.1.2
      have hb := hc.2
      unfold toldD
      dsimp only
      with_reducible
        refine A_local (by kernel_rfl!) (by first | (simp; done) | (intro p e; cases e; dsimp only; decide +kernel)) ?_
        refine And.intro ?_ ?_
      assumption
      with_reducible
        refine T_one ?_
        refine C_cmp (by kernel_rfl) ?_
        refine E_callW (by assumption) (by assumption) (by kernel_rfl) (by kernel_rfl) (by kernel_rfl) (by kernel_rfl) ?_
        refine L_cons ?_ (by kernel_rfl)
        refine E_index ?_
        refine E_local (by kernel_rfl!) rho_hit (by kernel_rfl) ?_
        refine E_int ?_
        refine O_tup0 (by intro _ _ _; kernel_rfl) ?_
        refine L_cons ?_ (by kernel_rfl)
        refine E_index ?_
        refine E_local (by kernel_rfl!) rho_hit (by kernel_rfl) ?_
        refine E_int ?_
        refine O_tup1 (by intro _ _ _; kernel_rfl) ?_
        refine L_nil ?_
        refine ⟨_, _, rfl, ?_⟩
        refine And.intro ?_ ?_
      assumption
      with_reducible
        refine And.intro ?_ ?_
      assumption
      with_reducible
        refine E_index ?_
        refine E_local (by kernel_rfl!) rho_hit (by kernel_rfl) ?_
        refine E_int ?_
        refine O_tup2 (by intro _ _ _; kernel_rfl) ?_
        refine O_ne_bool5 ?_
        refine ⟨_, rfl, ?_⟩
        refine And.intro ?_ ?_
        rotate_left
      with_reducible refine dead ?_
      rfl
      rw [hb]; simp
    rw [List.filter_eq_nil_iff.mpr fun _ _ => by simp]
    with_reducible
      refine E_list ?_ (by decide)
      refine L_nil ?_
      refine O_eq_nil ?_ ?_
      rotate_left
    assumption
    intro d hd; simp at hd


end

-- P26
section
/-- a block that hands back what it has made -/
noncomputable def SemBF (c : Cx) (b : List Stmt) (ρ : Rho) (oc : Oc) (Qr : D → Prop) : Prop :=
  ∀ fz s (Φ : Flow → Shared → Prop) (E : Value → Shared → Prop), SR c oc fz ρ s →
    (∀ fz' v d s', Step c.sr c.fc c.s0 fz' s' → Rd fz' c.sr d v → (∀ a, v = .ref a → c.s0.heap.get? a = none) → Qr d → Φ (.ret v) s') → wpAny c.M c.A (execs b c.env) Φ E s
theorem BF_cons {c : Cx} {ρ : Rho} {oc : Oc} {st : Stmt} {rest : List Stmt} {Qr : D → Prop} (h : SemS c st ρ oc (fun ρ' oc' => SemBF c rest ρ' oc' Qr) (fun _ => False)) : SemBF c (st :: rest) ρ oc Qr :=
  fun fz s Φ E S k => wpAny_execs_cons (h fz s _ E S (fun fz₁ ρ₁ oc₁ s₁ sb S₁ q => q fz₁ s₁ Φ E S₁ k) fun _ _ _ _ _ _ q => q.elim)
theorem BF_return {c : Cx} {ρ : Rho} {oc : Oc} {es : List Expr} {lp pos : Pos} {rest : List Stmt} {Qr : D → Prop} (hsz : es.length ≤ 1000) (h : SemL c lp es ρ fun ds => Qr (.lst ds)) : SemBF c (.Return (some (.List es lp)) pos :: rest) ρ oc Qr := by
  intro fz s Φ E S k
  refine wpAny_execs_cons (wpAny_Return_some (wpAny_List_spliced (h oc fz s _ E S fun fz₁ vs ds s₁ st₁ r₁ ln q => ⟨by rw [ln]; exact Nat.le_trans hsz (by decide), ?_⟩)))
  have st₂ := Step.push (sr := c.sr) (fz := fz₁) (s := s₁) (o := { cls := .type "list", data := .seq vs.toArray }) (h' := s₁.heap.push _) (t' := s₁.toks) st₁.src st₁.inn (fun b p hb => Heap.get?_push_of_some _ hb) (Heap.get?_push_size _ rfl)
  refine k _ _ _ _ ((S.step.trans st₁).trans st₂) ?_ (fun a e => ?_) q
  · simp only [Rd]
    exact ⟨_, _, vs, rfl, .inr ⟨rfl, rfl⟩, ⟨rfl, rfl, _, rfl⟩, r₁.mono st₂.sub⟩
  · cases e
    exact (S.step.trans st₁).none S.src0 (none_size _)
noncomputable def FnF (prog : Program) (w : World) (base : Heap) (a : Addr) (n : Nat) (sp : List D → (D → Prop) → Prop) : Prop :=
  ∀ (A : Around) (sr : Option Addr) (fz : Fz) (s : Shared) (ds : List D) (vs : List Value) (Q : D → Prop) (Φ : Value → Shared → Prop) (E : Value → Shared → Prop), Room A n → (∀ a o, base.get? a = some o → fz a o) → (∀ a o, fz a o → s.heap.get? a = some o) →
    SrcIn sr s.heap → (∀ a, sr = some a → ∀ o, ¬ fz a o) → RdL fz sr ds vs → sp ds Q → (∀ fz' v d s', Step sr fz s fz' s' → Rd fz' sr d v → (∀ a, v = .ref a → s.heap.get? a = none) → Q d → Φ v s') → wpAny (model prog w) A (call (.ref a) vs) Φ E s
structure FnAtF (prog : Program) (w : World) (base : Heap) (mg : Str → Option Value) (f : Str) (n : Nat) (sp : List D → (D → Prop) → Prop) : Prop where
  at_ : ∃ a o fd, mg f = some (.ref a) ∧ base.get? a = some o ∧ o.data = .func fd ∧ FnF prog w base a n sp
theorem fn_plainF {prog : Program} {w : World} {base : Heap} {p : Program} {loose : List Str} {mean : ExcName → Option Value} {mg mb : Str → Option Value} {nm : Str} {ps : Arguments} {bd : List Stmt} {sc : Scope} {pos : Pos} {n : Nat} {sp : List D → (D → Prop) → Prop}
    (T : Top p loose mean mg mb base) (hm : (⟨nm, ps, bd, sc, pos⟩ : DefRec) ∈ recsOf p) (names : List Str) (hbind : ∀ pm cd doc vs, vs.length = names.length → bindArgs (docDef nm ps bd sc pm cd doc) ⟨vs, []⟩ = pure (names.zip vs))
    (hloc : (names.all fun x => decide (sc.names.lookup x = some .local)) = true) (hco : sc.isCoroutine = false) (hgen : sc.isGenerator = false) (hk : sc.kind = .function) (hcell : ∀ x ∈ sc.names, x.2 ≠ .cell)
    (hbody : ∀ A L a cd sr fz s ds Q, sp ds Q → ds.length = names.length ∧ SemBF (mkC prog w base A n nm sc L a cd sr fz s []) bd (rhoOf names ds) none Q) : FnAtF prog w base mg nm (n + 1) sp := by
  obtain ⟨a, o, pm, code, doc, h1, h2, h3, h4⟩ := T.fn _ hm
  refine ⟨a, o, _, h1, h2, h3, ?_⟩
  intro A sr fz s ds vs Q Φ E R hb hi hs hsf r q k
  obtain ⟨hlen, body⟩ := hbody A s.heap.objs.size a code sr fz s ds Q q
  have hk' : ∀ b o, base.get? b = some o → s.heap.get? b = some o := fun b o e => hi _ _ (hb _ _ e)
  refine wpAny_call (call_plain (by have := R.2.1; show A.depth < 1000; omega) (hk' _ _ h2) h3 (T.nolimit.keeps hk') (h4.keeps hk') (hbind pm code doc vs (by rw [r.length]; exact hlen)) (fun x hx => ?_) (fun h₁ F => ?_) hco hgen hk hcell)
  · have := List.all_eq_true.mp hloc x.1 (List.of_mem_zip (show (x.1, x.2) ∈ _ from hx)).1
    simpa using this
  · have hN := none_size s.heap
    have S : SR (mkC prog w base A n nm sc s.heap.objs.size a code sr fz s []) none fz (rhoOf names ds) { s with heap := h₁, toks := s.toks + (names.zip vs).length } := by
      refine ⟨Step.keep hs hi F.keep, ⟨R.1, ?_, ?_⟩, hb, hsf, hs, ⟨_, F.ns, fun x d e _ => rhoOf_reads r hlen e, trivial⟩, fun x d e hx => ?_, fun o ho => ?_, fun e => ?_, hN, fun x ca e => ?_, fun x y ca e => ?_, fun p hp => ?_, hk, rfl, rfl⟩
      · have := R.2.1; show A.depth + 1 + n < 400; omega
      · have := R.2.2; show A.units + 3 + 8 * n < 800; omega
      · exact absurd rfl (hcell _ (mem_lookup (show sc.names.lookup x = some .cell from hx)))
      · exact nomatch (hN.symm.trans (hi _ _ ho))
      · obtain ⟨o2, _, _, _, _, ho, _⟩ := hs _ e; exact nomatch (hN.symm.trans ho)
      · simp [envOf] at e
      · simp [envOf] at e
      · simp at hp
    exact body fz _ _ _ S fun fz' v d s' st r' hf q' => k _ _ _ _ st r' hf q'
theorem fn_law_poolF {w : World} {base : Heap} {mg mb : Str → Option Value} (W : Wd w base mg mb) : FnAtF PySem.Challenge.rw_xm0979_01.prog w base mg "_law_pool" 1 (fun ds Q => ∃ l : List Int, ds = [.lst (l.map .int)] ∧ l.length < 2 ^ 31 ∧ (∀ i ∈ l, i.natAbs.log2 < 2 ^ 21 - 1) ∧ ∀ x y : Int, 0 ≤ x → x.natAbs.log2 < 2 ^ 21 → 0 ≤ y → y < 2147483647 → Q (.lst [.int x, .int y])) := by
  obtain ⟨loose, mean, T⟩ := W.T
  refine fn_plainF T mem19 ["script"] (fun pm cd doc vs h => by match vs, h with | [v], _ => kernel_rfl) (by kernel_rfl) (by kernel_rfl) (by kernel_rfl) (by kernel_rfl) (by decide +kernel) (fun A L a cd sr fz s ds Q ⟨l, e, hl, hi, q⟩ => ?_)
  subst e
  refine ⟨rfl, ?_⟩
  rw [rhoOf1]
  conv => arg 2; whnf
  have pos : ∀ z : Int, 0 ≤ z.fmod 2147483629 ∧ z.fmod 2147483629 < 2147483629 := fun z => fmod_range (by decide)
  have hc : (l.getD 0 0).natAbs.log2 < 2 ^ 21 - 1 := by
    cases l with
    | nil => decide
    | cons a r => exact hi a (by simp)
  have hA := log2_neg hc
  have mo : ∀ z : Int, IntMulOk (z.fmod 2147483629 + 23) 48271 := fun z => mulOk60 (by have := pos z; omega) (by have := pos z; omega)
  have q' : ∀ x z : Int, 0 ≤ x → x.natAbs.log2 < 2 ^ 21 → Q (.lst [.int x, .int (z.fmod 2147483647)]) := fun x z h1 h2 => q x _ h1 h2 (fmod_range (by decide)).1 (fmod_range (by decide)).2
  with_reducible
    refine BF_cons ?_
    refine S_assign (by kernel_rfl!) ?_
    refine E_ifexp ?_
    refine C_cmp (by kernel_rfl) ?_
    refine E_len (by assumption) (by kernel_rfl) (by kernel_rfl) (by kernel_rfl) ?_
    refine L_cons ?_ (by kernel_rfl)
    refine E_local (by kernel_rfl!) rho_hit (by kernel_rfl) ?_
    refine L_nil ?_
    refine L_len_lst ?_ ?_
    rotate_left
    refine E_int ?_
    refine O_gt ?_
    refine ⟨_, rfl, ?_⟩
    refine And.intro ?_ ?_
    refine fun _ => ?_
    refine E_index ?_
    refine E_local (by kernel_rfl!) rho_hit (by kernel_rfl) ?_
    refine E_int ?_
    refine O_lst_head (by intro _ _ _; kernel_rfl) ?_ ?_
    rotate_left
    refine N_local (by kernel_rfl!) (by first | (simp; done) | (intro p e; cases e; dsimp only; decide +kernel)) ?_
    refine BF_cons ?_
    refine S_assign (by kernel_rfl!) ?_
    refine E_ifexp ?_
    refine C_cmp (by kernel_rfl) ?_
    refine E_local (by kernel_rfl!) rho_hit (by kernel_rfl) ?_
    refine E_int ?_
    refine O_ge ?_
    refine ⟨_, rfl, ?_⟩
    refine And.intro ?_ ?_
    refine fun _ => ?_
    refine E_local (by kernel_rfl!) rho_hit (by kernel_rfl) ?_
    refine N_local (by kernel_rfl!) (by first | (simp; done) | (intro p e; cases e; dsimp only; decide +kernel)) ?_
    refine BF_return (by decide) ?_
    refine L_cons ?_ (by kernel_rfl)
    refine E_ifexp ?_
    refine C_cmp (by kernel_rfl) ?_
    refine E_local (by kernel_rfl!) rho_hit (by kernel_rfl) ?_
    refine E_binop ?_
    refine E_int ?_
    refine E_int ?_
    refine O_pow (by decide) (by decide) (by decide) ?_
    refine O_ge ?_
    refine ⟨_, rfl, ?_⟩
    refine And.intro ?_ ?_
    refine fun _ => ?_
    refine E_local (by kernel_rfl!) rho_hit (by kernel_rfl) ?_
    refine L_cons ?_ (by kernel_rfl)
    refine E_binop ?_
    refine E_binop ?_
    refine E_binop ?_
    refine E_binop ?_
    refine E_local (by kernel_rfl!) rho_hit (by kernel_rfl) ?_
    refine E_int ?_
    refine O_mod (by first | assumption | decide) ?_
    refine E_int ?_
    refine O_add ?_
    refine E_int ?_
    refine O_mul ?_ ?_
    rotate_left
    refine E_int ?_
    refine O_mod (by first | assumption | decide) ?_
    refine L_nil ?_
    rotate_left
    refine fun _ => ?_
    refine E_int ?_
    refine L_cons ?_ (by kernel_rfl)
    refine E_binop ?_
    refine E_binop ?_
    refine E_binop ?_
    refine E_binop ?_
    refine E_local (by kernel_rfl!) rho_hit (by kernel_rfl) ?_
    refine E_int ?_
    refine O_mod (by first | assumption | decide) ?_
    refine E_int ?_
    refine O_add ?_
    refine E_int ?_
    refine O_mul ?_ ?_
    rotate_left
    refine E_int ?_
    refine O_mod (by first | assumption | decide) ?_
    refine L_nil ?_
    rotate_left
    refine fun _ => ?_
    refine E_binop ?_
    refine E_neg ?_
    refine E_int ?_
    refine ⟨_, rfl, ?_⟩
    refine E_local (by kernel_rfl!) rho_hit (by kernel_rfl) ?_
    refine O_sub ?_
    refine N_local (by kernel_rfl!) (by first | (simp; done) | (intro p e; cases e; dsimp only; decide +kernel)) ?_
    refine BF_return (by decide) ?_
    refine L_cons ?_ (by kernel_rfl)
    refine E_ifexp ?_
    refine C_cmp (by kernel_rfl) ?_
    refine E_local (by kernel_rfl!) rho_hit (by kernel_rfl) ?_
    refine E_binop ?_
    refine E_int ?_
    refine E_int ?_
    refine O_pow (by decide) (by decide) (by decide) ?_
    refine O_ge ?_
    refine ⟨_, rfl, ?_⟩
    refine And.intro ?_ ?_
    refine fun _ => ?_
    refine E_local (by kernel_rfl!) rho_hit (by kernel_rfl) ?_
    refine L_cons ?_ (by kernel_rfl)
    refine E_binop ?_
    refine E_binop ?_
    refine E_binop ?_
    refine E_binop ?_
    refine E_local (by kernel_rfl!) rho_hit (by kernel_rfl) ?_
    refine E_int ?_
    refine O_mod (by first | assumption | decide) ?_
    refine E_int ?_
    refine O_add ?_
    refine E_int ?_
    refine O_mul ?_ ?_
    rotate_left
    refine E_int ?_
    refine O_mod (by first | assumption | decide) ?_
    refine L_nil ?_
    rotate_left
    refine fun _ => ?_
    refine E_int ?_
    refine L_cons ?_ (by kernel_rfl)
    refine E_binop ?_
    refine E_binop ?_
    refine E_binop ?_
    refine E_binop ?_
    refine E_local (by kernel_rfl!) rho_hit (by kernel_rfl) ?_
    refine E_int ?_
    refine O_mod (by first | assumption | decide) ?_
    refine E_int ?_
    refine O_add ?_
    refine E_int ?_
    refine O_mul ?_ ?_
    rotate_left
    refine E_int ?_
    refine O_mod (by first | assumption | decide) ?_
    refine L_nil ?_
    rotate_left
    refine fun _ => ?_
    refine E_int ?_
    refine N_local (by kernel_rfl!) (by first | (simp; done) | (intro p e; cases e; dsimp only; decide +kernel)) ?_
    refine BF_cons ?_
    refine S_assign (by kernel_rfl!) ?_
    refine E_ifexp ?_
    refine C_cmp (by kernel_rfl) ?_
    refine E_local (by kernel_rfl!) rho_hit (by kernel_rfl) ?_
    refine E_int ?_
    refine O_ge ?_
    refine ⟨_, rfl, ?_⟩
    refine And.intro ?_ ?_
    refine fun _ => ?_
    refine E_local (by kernel_rfl!) rho_hit (by kernel_rfl) ?_
    refine N_local (by kernel_rfl!) (by first | (simp; done) | (intro p e; cases e; dsimp only; decide +kernel)) ?_
    refine BF_return (by decide) ?_
    refine L_cons ?_ (by kernel_rfl)
    refine E_ifexp ?_
    refine C_cmp (by kernel_rfl) ?_
    refine E_local (by kernel_rfl!) rho_hit (by kernel_rfl) ?_
    refine E_binop ?_
    refine E_int ?_
    refine E_int ?_
    refine O_pow (by decide) (by decide) (by decide) ?_
    refine O_ge ?_
    refine ⟨_, rfl, ?_⟩
    refine And.intro ?_ ?_
  with_reducible refine dead ?_
  rfl
  with_reducible
    refine fun _ => ?_
    refine E_int ?_
    refine L_cons ?_ (by kernel_rfl)
    refine E_binop ?_
    refine E_binop ?_
    refine E_binop ?_
    refine E_binop ?_
    refine E_local (by kernel_rfl!) rho_hit (by kernel_rfl) ?_
    refine E_int ?_
    refine O_mod (by first | assumption | decide) ?_
    refine E_int ?_
    refine O_add ?_
    refine E_int ?_
    refine O_mul ?_ ?_
    rotate_left
    refine E_int ?_
    refine O_mod (by first | assumption | decide) ?_
    refine L_nil ?_
    rotate_left
  with_reducible refine dead ?_
  rfl
  all_goals try (first | decide | omega | (simp; done))
  all_goals first
    | (rw [List.length_map]; omega)
    | exact mo _
    | (rename_i h; rw [List.length_map] at h; simp at h; omega)
    | exact q' _ _ (by decide) (by decide)
    | exact q' _ _ (by rename_i h _; exact of_decide_eq_true h) hA.2
    | exact q' _ _ (by rename_i h _; have := of_decide_eq_false h; omega) hA.1
noncomputable def SemEF (c : Cx) (e : Expr) (ρ : Rho) (Q : D → Prop) : Prop :=
  ∀ oc fz s (Φ : Value → Shared → Prop) (E : Value → Shared → Prop), SR c oc fz ρ s →
    (∀ fz' v d s', Step c.sr fz s fz' s' → Rd fz' c.sr d v → (∀ a, v = .ref a → s.heap.get? a = none) → Q d → Φ v s') → wpAny c.M c.A (eval e c.env) Φ E s
theorem EF_call {c : Cx} {ρ : Rho} {Q : D → Prop} {pos p : Pos} {mg : Str → Option Value} {f : Str} {e : Expr} {es : List Expr} {n : Nat} {sp : List D → (D → Prop) → Prop} (hx : c.env.kindOf f = some .globalImplicit) (hd : (f == ("__debug__" : Str)) = false) (G : c.base.Ns mainGlobals mg)
    (F : FnAtF c.prog c.w c.base mg f n sp) (hn : n ≤ c.n) (hst : starEach (e :: es) c.env = (false, eval e c.env) :: starEach es c.env) (h : SemL c pos (e :: es) ρ fun ds => sp ds Q) : SemEF c (.Call (.Name f p) (e :: es) [] pos) ρ Q := by
  intro oc fz s Φ E S k
  obtain ⟨a, o, fd, hm, hb, hdt, F⟩ := F.at_
  refine wpAny_Call_NameR (Name_function_global S.fun_ hx (loadGlobal_global (mg := mg) (by rw [S.glob]; exact G.keeps S.based) hm ?_) hd)
  refine callWith_def hdt (h oc fz s _ E S fun fz₁ vs ds s₁ st r _ q => ⟨?_, ?_⟩) hst
  · exact (S.on st).based _ _ hb
  · have S₁ := S.on st
    exact F c.A c.sr fz₁ s₁ ds vs Q Φ E (S₁.room.less hn) S₁.bsF S₁.inn S₁.step.src S₁.srcN r q fun fz₂ v d s₂ st₂ r₂ hf q₂ => k _ _ _ _ (st.trans st₂) r₂ (fun a e => st.none S.step.src (hf a e)) q₂
noncomputable abbrev freedO : Obj := { cls := .none, data := .freed }
theorem get_freed (h : Heap) (a : Addr) : (h.update a fun _ => freedO).get? a = none := by
  cases e : (h.update a fun _ => freedO).get? a with
  | none => rfl
  | some o =>
    obtain ⟨e1, e2⟩ := Heap.get?_some_iff.mp e
    cases h
    simp only [Heap.update, Array.getElem?_modify, if_true] at e1
    rw [Option.map_eq_some_iff] at e1
    obtain ⟨o', _, rfl⟩ := e1
    cases e2
theorem B_source {c : Cx} {ρ : Rho} {x : Str} {e : Expr} {p pos : Pos} {rest : List Stmt} {Qn : Rho → Oc → Prop} {Qr : D → Prop} (hsw : swapsWith e (some (.Name x p)) pos.line c.env = pure false) (hx : c.env.kindOf x = some .local) (hcells : c.env.cells = []) (hrs : c.rs = [])
    (h : SemEF c e ρ fun d => ∃ i j : Int, d = .lst [.int i, .int j] ∧ 0 ≤ i ∧ i.natAbs.log2 < 2 ^ 21 ∧ 0 ≤ j ∧ j < 2147483647)
    (hrest : ∀ a fc s0, SemB { c with sr := some a, fc := fc, s0 := s0 } rest (rho0.set x .src) none (fun _ _ => False) (fun d => ∃ b, d = .bool b ∧ Qr (.bool b))) :
    SemB c (.Assign [.Name x p] e pos :: rest) ρ none Qn Qr := by
  intro fz s Φ E S k1 k2
  refine wpAny_execs_cons (wpAny_Assign_Name (h none fz s _ E S fun fz₁ v d s₁ st r hf q => ?_) hsw)
  obtain ⟨i, j, rfl, hi0, hi1, hj0, hj1⟩ := q
  simp only [Rd, RdL] at r
  obtain ⟨a, o, vs, rfl, ho, hq, u1, r1, rfl, ⟨t, rfl⟩, u2, r2, rfl, ⟨t2, rfl⟩, rfl⟩ := r
  have ha := hf a rfl
  have S₁ := S.on st
  obtain ⟨m, hm, _, _⟩ := S₁.ns
  have haL : a ≠ c.env.locals := fun q => by obtain ⟨o2, h2⟩ := S.loc_at; rw [← q, ha] at h2; cases h2
  refine wpAny_storeName_local hx hm (fun h' hn hs => ?_) (by rw [S.fun_]; rfl)
  have same : ∀ b, b ≠ c.env.locals → h'.get? b = s₁.heap.get? b := fun b hb => hs.2 b hb
  have hoa : h'.get? a = some o := (same a haL).trans (S₁.inn _ _ ho)
  obtain ⟨s2, hs2⟩ : ∃ s2 : Shared, s2 = { s₁ with heap := h', toks := s₁.toks + 1 } := ⟨_, rfl⟩
  obtain ⟨s0, hs0⟩ : ∃ s0 : Shared, s0 = { s₁ with heap := h'.update c.env.locals fun _ => freedO } := ⟨_, rfl⟩
  have z0 : s0.heap.get? c.env.locals = none := by rw [hs0]; exact get_freed _ _
  have zb : ∀ b, b ≠ c.env.locals → s0.heap.get? b = h'.get? b := fun b hb => by rw [hs0]; exact Heap.get?_update_other _ _ (Ne.symm hb)
  have srcAt : ∀ hh : Heap, hh.get? a = some o → SrcIn (some a) hh := fun hh e b eb => by
    cases eb
    exact ⟨o, i, j, t, t2, e, ⟨hq.1, hq.2.2⟩, hi0, hi1, hj0, hj1⟩
  have S₂ : SR ({ c with sr := some a, fc := fun b p => fz₁ b p ∧ b ≠ a, s0 := s0 } : Cx) none (fun b p => fz₁ b p ∧ b ≠ a) (rho0.set x .src) s2 := by
    refine ⟨⟨fun _ _ z => z, fun b p z => ?_, fun b p n e => ?_, fun _ _ z => .inl z, ?_, ?_⟩, S₁.room, fun b p e => ⟨S₁.bsF b p e, fun q => ?_⟩, fun b e p z => ?_, ?_, ⟨_, by rw [hs2]; exact hn, fun y d e k => ?_, trivial⟩, fun y d e k => ?_, fun p z => S₁.locF p z.1, fun q => haL (by simpa using q), z0, fun y ca e => ?_, fun y z ca e => ?_, fun p hp => ?_, S.fun_, S.glob, S.bltn⟩
    · rw [hs2]
      have hb : b ≠ c.env.locals := fun q => S₁.locF p (q ▸ z.1)
      exact (same b hb).trans (S₁.inn _ _ z.1)
    · have hb : b ≠ c.env.locals := fun q => by rw [q, z0] at e; cases e
      rw [hs2]; exact (zb b hb).symm.trans e
    · rw [hs2]; exact srcAt _ hoa
    · rw [hs2, hs0]
    · have := S.based b p e; rw [q, ha] at this; cases this
    · have e : a = b := by simpa using e
      exact z.2 e.symm
    · exact srcAt _ ((zb a haL).trans hoa)
    · by_cases q : y = x
      · subst q
        simp only [Rho.set, if_true] at e
        cases e
        exact ⟨.ref a, by simp, by simp only [Rd]; exact ⟨a, rfl, rfl⟩⟩
      · simp only [Rho.set, if_neg q] at e; cases e
    · exfalso
      by_cases q : y = x
      · rw [q] at k
        have k : c.env.kindOf x = some .cell := k
        rw [hx] at k; cases k
      · simp only [Rho.set, if_neg q] at e; cases e
    · have e : c.env.cells.lookup y = some ca := e
      rw [hcells] at e; cases e
    · have e : c.env.cells.lookup y = some ca := e
      rw [hcells] at e; cases e
    · have hp : p ∈ c.rs := hp
      rw [hrs] at hp; cases hp
  show wpAny c.M c.A (execs rest c.env) Φ E { s₁ with heap := h', toks := s₁.toks + 1 }
  rw [← hs2]
  refine hrest a _ s0 _ s2 Φ E S₂ (fun _ _ _ _ _ _ q => q.elim) fun fz' v d s' st' r' q' => ?_
  obtain ⟨b, rfl, q'⟩ := q'
  simp only [Rd] at r'
  subst r'
  have X := S.step
  refine k2 c.fc (.bool b) (.bool b) s' ⟨fun _ _ z => z, fun b p z => ?_, fun b p n e => ?_, fun _ _ z => .inl z, fun b e => ?_, ?_⟩ (by simp [Rd]) q'
  · have h1 := X.sub _ _ z
    refine st'.inn b p (st'.sub _ _ ⟨st.sub _ _ h1, fun q => ?_⟩)
    have := S.inn _ _ h1; rw [q, ha] at this; cases this
  · have h1 := X.kept b p n e
    have hb : b ≠ c.env.locals := fun q => by rw [q, S.locN] at e; cases e
    have hba : b ≠ a := fun q => by rw [q, ha] at h1; cases h1
    exact st'.kept b p (fun q => hba (by simpa using q.symm)) ((zb b hb).trans ((same b hb).trans (st.kept b p n h1)))
  · obtain ⟨o1, x1, y1, t1, w1, ho1, rr⟩ := st.src b e
    obtain ⟨o3, _, _, _, _, ho3, _⟩ := X.src b e
    have hb : b ≠ c.env.locals := fun q => S.locS (q ▸ e)
    have hba : b ≠ a := fun q => by rw [q, ha] at ho3; cases ho3
    exact ⟨o1, x1, y1, t1, w1, st'.kept b o1 (fun q => hba (by simpa using q.symm)) ((zb b hb).trans ((same b hb).trans ho1)), rr⟩
  · have e1 := st'.shape
    have e2 := st.shape
    have e3 := X.shape
    rw [e1, hs0, e2, e3]


end

-- P27
section
theorem told_check2 : fitsIndex "<queue>" (.int 7) = true ∧ fitsIndex "<queue>" (.bool true) = false ∧ isName (.int 5) = false ∧ isPlain (.tup []) 9 = false := by decide +kernel
theorem O_ne_bool7 {c : Cx} {Q : D → Prop} {i j : Bool} (q : Q (.bool (!(i == j)))) : OpD c (compareOp .NotEq) (.bool i) (.bool j) Q := O_ne (by rfl) (by rfl) q
theorem absurd_idx {x so : Str} {th : D} {P : Prop} (hp : PartT (.tup [.str so, th])) (h : (!(fitsIndex x th == lawFits x so th)) = true) : P := by
  have e : fitsIndex x th = lawFits x so th := index_eq hp
  rw [e] at h
  simp at h
theorem textOk_int (i : Int) : TextOk (.int i) := fun x e => by cases e
theorem textOk_bool (i : Bool) : TextOk (.bool i) := fun x e => by cases e
theorem textOk_tup (l : List D) : TextOk (.tup l) := fun x e => by cases e
theorem B_pool {c : Cx} {ρ : Rho} {mg mb : Str → Option Value} {x : Str} {e : Expr} {p p1 pos1 pos : Pos} {rest : List Stmt} {Qn : Rho → Oc → Prop} {Qr : D → Prop} {n : Nat} (W : Wd c.w c.base mg mb)
    (F : FnAtF c.prog c.w c.base mg "_law_pool" n (fun ds Q => ∃ l : List Int, ds = [.lst (l.map .int)] ∧ l.length < 2 ^ 31 ∧ (∀ i ∈ l, i.natAbs.log2 < 2 ^ 21 - 1) ∧ ∀ x y : Int, 0 ≤ x → x.natAbs.log2 < 2 ^ 21 → 0 ≤ y → y < 2147483647 → Q (.lst [.int x, .int y])))
    (hn : Nat.ble n c.n = true) (hf : c.env.kindOf "_law_pool" = some .globalImplicit)
    (hsw : swapsWith (.Call (.Name "_law_pool" p1) [e] [] pos1) (some (.Name x p)) pos.line c.env = pure false) (hx : c.env.kindOf x = some .local) (hcells : c.env.cells = []) (hrs : c.rs = []) (hst : starEach [e] c.env = (false, eval e c.env) :: starEach [] c.env)
    (h : SemE c e ρ fun d => ∃ l : List Int, d = .lst (l.map .int) ∧ l.length < 2 ^ 31 ∧ (∀ i ∈ l, i.natAbs.log2 < 2 ^ 21 - 1))
    (hrest : ∀ a fc s0, SemB { c with sr := some a, fc := fc, s0 := s0 } rest (rho0.set x .src) none (fun _ _ => False) (fun d => ∃ b, d = .bool b ∧ Qr (.bool b))) :
    SemB c (.Assign [.Name x p] (.Call (.Name "_law_pool" p1) [e] [] pos1) pos :: rest) ρ none Qn Qr :=
  B_source hsw hx hcells hrs (EF_call hf (by decide +kernel) W.G F (Nat.le_of_ble_eq_true hn) hst (L_cons (h.mono fun d ⟨l, e, h1, h2⟩ => L_nil ⟨l, by rw [e], h1, h2, fun x y a1 a2 a3 a4 => ⟨x, y, rfl, a1, a2, a3, a4⟩⟩) hst)) hrest
theorem fn_law {w : World} {base : Heap} {mg mb : Str → Option Value} (W : Wd w base mg mb) : FnAt PySem.Challenge.rw_xm0979_01.prog w base mg "law" 6 (fun ds Q => ∃ l : List Int, ds = [.lst (l.map .int)] ∧ l.length < 2 ^ 31 ∧ (∀ i ∈ l, i.natAbs.log2 < 2 ^ 21 - 1) ∧ Q (.bool true)) := by
  have F1 := fn_law_told_right W
  have F2 := fn_fits_index W
  have F3 := fn_is_name W
  have F4 := fn_is_plain_text W
  have F5 := fn_law_poolF W
  have F6 := fn_law_part W
  have F7 := fn_law_fits W
  have F8 := fn_law_kind_right W
  have F9 := fn_law_shape_right W
  have F10 := fn_law_orders_right W
  have F11 := fn_law_texts_right W
  obtain ⟨loose, mean, T⟩ := W.T
  refine fn_plain T mem34 ["script"] (fun pm cd doc vs h => by match vs, h with | [v], _ => kernel_rfl) (by kernel_rfl) (by kernel_rfl) (by kernel_rfl) (by kernel_rfl) (by decide +kernel) (fun A L a cd sr fz s ds Q ⟨l, e, hl, hi, q⟩ => ?_)
  subst e
  refine ⟨rfl, ?_⟩
  rw [rhoOf1]
  conv => arg 2; whnf
  obtain ⟨t1, t2, t3, t4⟩ := told_check2
  have ti := textOk_int
  have tb := textOk_bool
  have tt := textOk_tup
  have hq : ("<queue>" : Str) ∈ angles := by decide +kernel
  with_reducible
    refine B_cons ?_
    refine S_if ?_
    refine C_not ?_
    refine C_val (by kernel_rfl) ?_
    refine E_call0W (by assumption) (by assumption) (by kernel_rfl) (by kernel_rfl) (by kernel_rfl) ?_
    refine And.intro ?_ ?_
    rfl
    refine ⟨_, rfl, ?_⟩
    refine And.intro ?_ ?_
  with_reducible refine dead ?_
  rfl
  with_reducible
    refine fun _ => ?_
    refine B_nil ?_
    refine B_cons ?_
    refine S_if ?_
    refine C_or ?_
    refine C_not ?_
    refine C_val (by kernel_rfl) ?_
    refine E_callW (by assumption) (by assumption) (by kernel_rfl) (by kernel_rfl) (by kernel_rfl) (by kernel_rfl) ?_
    refine L_cons ?_ (by kernel_rfl)
    refine E_str ?_
    refine L_cons ?_ (by kernel_rfl)
    refine E_int ?_
    refine L_nil ?_
    refine ⟨_, _, rfl, ?_⟩
    refine And.intro ?_ ?_
  assumption
  with_reducible
    refine And.intro ?_ ?_
    rotate_left
    refine ⟨_, rfl, ?_⟩
    refine And.intro ?_ ?_
  with_reducible refine dead ?_
  rfl
  with_reducible
    refine fun _ => ?_
    refine C_or ?_
    refine C_val (by kernel_rfl) ?_
    refine E_callW (by assumption) (by assumption) (by kernel_rfl) (by kernel_rfl) (by kernel_rfl) (by kernel_rfl) ?_
    refine L_cons ?_ (by kernel_rfl)
    refine E_str ?_
    refine L_cons ?_ (by kernel_rfl)
    refine E_bool ?_
    refine L_nil ?_
    refine ⟨_, _, rfl, ?_⟩
    refine And.intro ?_ ?_
  assumption
  with_reducible
    refine And.intro ?_ ?_
    rotate_left
    refine ⟨_, rfl, ?_⟩
    refine And.intro ?_ ?_
  with_reducible refine dead ?_
  rfl
  with_reducible
    refine fun _ => ?_
    refine C_or ?_
    refine C_val (by kernel_rfl) ?_
    refine E_callW (by assumption) (by assumption) (by kernel_rfl) (by kernel_rfl) (by kernel_rfl) (by kernel_rfl) ?_
    refine L_cons ?_ (by kernel_rfl)
    refine E_int ?_
    refine L_nil ?_
    refine ⟨_, rfl, ?_⟩
    refine And.intro ?_ ?_
    rotate_left
    refine ⟨_, rfl, ?_⟩
    refine And.intro ?_ ?_
  with_reducible refine dead ?_
  rfl
  with_reducible
    refine fun _ => ?_
    refine C_or ?_
    refine C_val (by kernel_rfl) ?_
    refine E_callW (by assumption) (by assumption) (by kernel_rfl) (by kernel_rfl) (by kernel_rfl) (by kernel_rfl) ?_
    refine L_cons ?_ (by kernel_rfl)
    refine E_tuple ?_ (by decide)
    refine L_nil ?_
    refine L_cons ?_ (by kernel_rfl)
    refine E_int ?_
    refine L_nil ?_
    refine ⟨_, _, rfl, ?_⟩
    refine And.intro ?_ ?_
    rotate_left
    refine And.intro ?_ ?_
    rotate_left
    refine ⟨_, rfl, ?_⟩
    refine And.intro ?_ ?_
  with_reducible refine dead ?_
  rfl
  with_reducible
    refine fun _ => ?_
    refine C_or_nil ?_
    refine And.intro ?_ ?_
  with_reducible refine dead ?_
  rfl
  with_reducible
    refine fun _ => ?_
    refine B_nil ?_
    refine B_pool (by assumption) (by assumption) (by kernel_rfl) (by kernel_rfl) (by kernel_rfl) (by kernel_rfl!) (by kernel_rfl!) rfl (by kernel_rfl) ?_ ?_
    refine E_local (by kernel_rfl!) rho_hit (by kernel_rfl) ?_
    refine ⟨_, rfl, ?_⟩
    refine And.intro ?_ ?_
  assumption
  with_reducible
    refine fun _ => ?_
    refine fun _ => ?_
    rotate_left
    refine fun _ => ?_
    refine fun _ => ?_
    refine fun _ => ?_
    refine B_cons ?_
    refine S_for (by intro _; kernel_rfl) ?_
    refine Src_of ?_
    refine E_list ?_ (by decide)
    refine L_cons ?_ (by kernel_rfl)
    refine E_str ?_
    refine L_cons ?_ (by kernel_rfl)
    refine E_str ?_
    refine L_cons ?_ (by kernel_rfl)
    refine E_str ?_
    refine L_cons ?_ (by kernel_rfl)
    refine E_str ?_
    refine L_cons ?_ (by kernel_rfl)
    refine E_str ?_
    refine L_cons ?_ (by kernel_rfl)
    refine E_str ?_
    refine L_nil ?_
    refine SrcD.lst ?_
    rotate_left
  · exact ti _
  · exact tb _
  · exact ti _
  · decide
  · exact tt _
  · exact hi _ (by assumption)
  refine turns_0 (fun i ρ oc => oc = none ∧ ρ "source" = some .src) _ (fun k d ρ oc hk hJ rs => ?_) (fun ρ oc hJ => ?_) ⟨rfl, rho_hit⟩
  · obtain ⟨rfl, h1⟩ := hJ
    obtain ⟨x, rfl, hx⟩ : ∃ x, d = .str x ∧ x ∈ angles := by
      have hd := List.mem_of_getElem? hk
      simp only [List.mem_cons, List.not_mem_nil, or_false] at hd
      rcases hd with rfl | rfl | rfl | rfl | rfl | rfl <;> exact ⟨_, rfl, by decide +kernel⟩
    with_reducible
      refine A_local (by kernel_rfl!) (by first | (simp; done) | (intro p e; cases e; dsimp only; decide +kernel)) ?_
      refine B_cons ?_
      refine S_for (by intro _; kernel_rfl) ?_
      refine Src_rangeW (by assumption) (by kernel_rfl) (by kernel_rfl) (by kernel_rfl) ?_
      refine L_cons ?_ (by kernel_rfl)
      refine E_int ?_
      refine L_nil ?_
      rotate_left
    refine ⟨0, 2, .inl ⟨rfl, rfl⟩, by decide, by decide, by decide, by decide, ?_⟩
    refine turns_0 (fun i ρ oc => oc = none ∧ ρ "source" = some .src ∧ ρ "word" = some (.str x)) _ (fun k d ρ oc hk hJ rs => ?_) (fun ρ oc hJ => ?_) ⟨rfl, rho_miss (by decide +kernel) h1, rho_hit⟩
    · obtain ⟨rfl, h1, h2⟩ := hJ
      with_reducible
        refine A_local (by kernel_rfl!) (by first | (simp; done) | (intro p e; cases e; dsimp only; decide +kernel)) ?_
        refine B_cons ?_
        refine S_assign (by kernel_rfl!) ?_
        refine E_callW (by assumption) (by assumption) (by kernel_rfl) (by kernel_rfl) (by kernel_rfl) (by kernel_rfl) ?_
        refine L_cons ?_ (by kernel_rfl)
        refine E_local (by kernel_rfl!) (rho_a1 (by decide +kernel) (by assumption)) (by kernel_rfl) ?_
        refine L_nil ?_
        refine And.intro ?_ ?_
        rfl
        refine And.intro ?_ ?_
        refine fun _ => ?_
        refine fun _ => ?_
        refine N_local (by kernel_rfl!) (by first | (simp; done) | (intro p e; cases e; dsimp only; decide +kernel)) ?_
        refine B_cons ?_
        refine S_if ?_
        refine C_cmp (by kernel_rfl) ?_
        refine E_callW (by assumption) (by assumption) (by kernel_rfl) (by kernel_rfl) (by kernel_rfl) (by kernel_rfl) ?_
        refine L_cons ?_ (by kernel_rfl)
        refine E_local (by kernel_rfl!) (rho_a2 (by decide +kernel) (by assumption)) (by kernel_rfl) ?_
        refine L_cons ?_ (by kernel_rfl)
        refine E_index ?_
        refine E_local (by kernel_rfl!) rho_hit (by kernel_rfl) ?_
        refine E_int ?_
        refine O_tup1 (by intro _ _ _; kernel_rfl) ?_
        refine L_nil ?_
        refine ⟨_, _, rfl, ?_⟩
        refine And.intro ?_ ?_
      assumption
      with_reducible
        refine And.intro ?_ ?_
        rotate_left
        refine E_callW (by assumption) (by assumption) (by kernel_rfl) (by kernel_rfl) (by kernel_rfl) (by kernel_rfl) ?_
        refine L_cons ?_ (by kernel_rfl)
        refine E_local (by kernel_rfl!) (rho_a2 (by decide +kernel) (by assumption)) (by kernel_rfl) ?_
        refine L_cons ?_ (by kernel_rfl)
        refine E_local (by kernel_rfl!) rho_hit (by kernel_rfl) ?_
        refine L_nil ?_
        refine ⟨_, _, _, rfl, ?_⟩
        refine And.intro ?_ ?_
      assumption
      with_reducible
        refine And.intro ?_ ?_
        rotate_left
        refine O_ne_bool7 ?_
        refine ⟨_, rfl, ?_⟩
        refine And.intro ?_ ?_
        refine fun _ => ?_
        refine B_cons ?_
        refine S_return ?_
        refine E_bool ?_
        refine ⟨_, rfl, ?_⟩
        rotate_left
        refine fun _ => ?_
        refine B_nil ?_
        refine B_nil ?_
        refine And.intro ?_ ?_
        rfl
        refine And.intro ?_ ?_
      assumption
      assumption
      with_reducible
        refine And.intro ?_ ?_
        refine fun _ => ?_
        refine N_local (by kernel_rfl!) (by first | (simp; done) | (intro p e; cases e; dsimp only; decide +kernel)) ?_
        refine B_cons ?_
        refine S_if ?_
        refine C_cmp (by kernel_rfl) ?_
        refine E_callW (by assumption) (by assumption) (by kernel_rfl) (by kernel_rfl) (by kernel_rfl) (by kernel_rfl) ?_
        refine L_cons ?_ (by kernel_rfl)
        refine E_local (by kernel_rfl!) (rho_a2 (by decide +kernel) (by assumption)) (by kernel_rfl) ?_
        refine L_cons ?_ (by kernel_rfl)
        refine E_index ?_
        refine E_local (by kernel_rfl!) rho_hit (by kernel_rfl) ?_
        refine E_int ?_
        refine O_tup1 (by intro _ _ _; kernel_rfl) ?_
        refine L_nil ?_
        refine ⟨_, _, rfl, ?_⟩
        refine And.intro ?_ ?_
      assumption
      with_reducible
        refine And.intro ?_ ?_
        rotate_left
        refine E_callW (by assumption) (by assumption) (by kernel_rfl) (by kernel_rfl) (by kernel_rfl) (by kernel_rfl) ?_
        refine L_cons ?_ (by kernel_rfl)
        refine E_local (by kernel_rfl!) (rho_a2 (by decide +kernel) (by assumption)) (by kernel_rfl) ?_
        refine L_cons ?_ (by kernel_rfl)
        refine E_local (by kernel_rfl!) rho_hit (by kernel_rfl) ?_
        refine L_nil ?_
        refine ⟨_, _, _, rfl, ?_⟩
        refine And.intro ?_ ?_
      assumption
      with_reducible
        refine And.intro ?_ ?_
        rotate_left
        refine O_ne_bool7 ?_
        refine ⟨_, rfl, ?_⟩
        refine And.intro ?_ ?_
        refine fun _ => ?_
        refine B_cons ?_
        refine S_return ?_
        refine E_bool ?_
        refine ⟨_, rfl, ?_⟩
        rotate_left
        refine fun _ => ?_
        refine B_nil ?_
        refine B_nil ?_
        refine And.intro ?_ ?_
        rfl
        refine And.intro ?_ ?_
      assumption
      assumption
      with_reducible
        refine fun _ => ?_
        refine fun _ => ?_
        refine fun _ => ?_
        refine N_local (by kernel_rfl!) (by first | (simp; done) | (intro p e; cases e; dsimp only; decide +kernel)) ?_
        refine B_cons ?_
        refine S_if ?_
        refine C_cmp (by kernel_rfl) ?_
        refine E_callW (by assumption) (by assumption) (by kernel_rfl) (by kernel_rfl) (by kernel_rfl) (by kernel_rfl) ?_
        refine L_cons ?_ (by kernel_rfl)
        refine E_local (by kernel_rfl!) (rho_a2 (by decide +kernel) (by assumption)) (by kernel_rfl) ?_
        refine L_cons ?_ (by kernel_rfl)
        refine E_index ?_
        refine E_local (by kernel_rfl!) rho_hit (by kernel_rfl) ?_
        refine E_int ?_
        refine O_tup1 (by intro _ _ _; kernel_rfl) ?_
        refine L_nil ?_
        refine ⟨_, _, rfl, ?_⟩
        refine And.intro ?_ ?_
      assumption
      with_reducible
        refine And.intro ?_ ?_
        rotate_left
        refine E_callW (by assumption) (by assumption) (by kernel_rfl) (by kernel_rfl) (by kernel_rfl) (by kernel_rfl) ?_
        refine L_cons ?_ (by kernel_rfl)
        refine E_local (by kernel_rfl!) (rho_a2 (by decide +kernel) (by assumption)) (by kernel_rfl) ?_
        refine L_cons ?_ (by kernel_rfl)
        refine E_local (by kernel_rfl!) rho_hit (by kernel_rfl) ?_
        refine L_nil ?_
        refine ⟨_, _, _, rfl, ?_⟩
        refine And.intro ?_ ?_
      assumption
      with_reducible
        refine And.intro ?_ ?_
        rotate_left
        refine O_ne_bool7 ?_
        refine ⟨_, rfl, ?_⟩
        refine And.intro ?_ ?_
        refine fun _ => ?_
        refine B_cons ?_
        refine S_return ?_
        refine E_bool ?_
        refine ⟨_, rfl, ?_⟩
        rotate_left
        refine fun _ => ?_
        refine B_nil ?_
        refine B_nil ?_
        refine And.intro ?_ ?_
        rfl
        refine And.intro ?_ ?_
      assumption
      assumption
      · exact ti _
      · exact (PartT.number _).is.2.1
      · rename_i h
        exact absurd_idx (.number _) h
      · exact tb _
      · exact (PartT.truth _).is.2.1
      · rename_i h
        exact absurd_idx (.truth _) h
      · rename_i y hy1 hy2
        exact fun z e => by cases e; exact ⟨by omega, hy2⟩
      · rename_i y hy1 hy2
        exact (PartT.text y (by omega) hy2).is.2.1
      · rename_i y hy1 hy2 h
        exact absurd_idx (.text y (by omega) hy2) h
    · obtain ⟨rfl, h1, h2⟩ := hJ
      with_reducible
        refine B_nil ?_
        refine And.intro ?_ ?_
        rfl
      assumption
  · obtain ⟨rfl, h1⟩ := hJ
    with_reducible
      refine B_cons ?_
      refine S_for (by intro _; kernel_rfl) ?_
      refine Src_rangeW (by assumption) (by kernel_rfl) (by kernel_rfl) (by kernel_rfl) ?_
      refine L_cons ?_ (by kernel_rfl)
      refine E_int ?_
      refine L_nil ?_
      rotate_left
    refine ⟨0, 8, .inl ⟨rfl, rfl⟩, by decide, by decide, by decide, by decide, ?_⟩
    refine turns_0 (fun i ρ oc => oc = none ∧ ρ "source" = some .src) _ (fun k d ρ oc hk hJ rs => ?_) (fun ρ oc hJ => ?_) ⟨rfl, h1⟩
    · obtain ⟨rfl, h1⟩ := hJ
      obtain ⟨i, rfl, _⟩ := mem_ints (List.mem_of_getElem? hk)
      with_reducible
        refine A_local (by kernel_rfl!) (by first | (simp; done) | (intro p e; cases e; dsimp only; decide +kernel)) ?_
        refine B_cons ?_
        refine S_if ?_
        refine C_not ?_
        refine C_val (by kernel_rfl) ?_
        refine E_callW (by assumption) (by assumption) (by kernel_rfl) (by kernel_rfl) (by kernel_rfl) (by kernel_rfl) ?_
        refine L_cons ?_ (by kernel_rfl)
        refine E_local (by kernel_rfl!) (rho_a1 (by decide +kernel) (by assumption)) (by kernel_rfl) ?_
        refine L_nil ?_
        refine And.intro ?_ ?_
        rfl
        refine ⟨_, rfl, ?_⟩
        refine And.intro ?_ ?_
      with_reducible refine dead ?_
      rfl
      with_reducible
        refine fun _ => ?_
        refine B_nil ?_
        refine B_cons ?_
        refine S_if ?_
        refine C_and ?_
        refine C_cmp (by kernel_rfl) ?_
        refine E_local (by kernel_rfl!) rho_hit (by kernel_rfl) ?_
        refine E_int ?_
        refine O_lt ?_
        refine ⟨_, rfl, ?_⟩
        refine And.intro ?_ ?_
        refine fun _ => ?_
        refine C_and ?_
        refine C_not ?_
        refine C_and ?_
        refine C_val (by kernel_rfl) ?_
        refine E_callW (by assumption) (by assumption) (by kernel_rfl) (by kernel_rfl) (by kernel_rfl) (by kernel_rfl) ?_
        refine L_cons ?_ (by kernel_rfl)
        refine E_local (by kernel_rfl!) (rho_a1 (by decide +kernel) (by assumption)) (by kernel_rfl) ?_
        refine L_nil ?_
        refine And.intro ?_ ?_
        rfl
        refine ⟨_, rfl, ?_⟩
        refine And.intro ?_ ?_
        refine fun _ => ?_
        refine C_and ?_
        refine C_val (by kernel_rfl) ?_
        refine E_callW (by assumption) (by assumption) (by kernel_rfl) (by kernel_rfl) (by kernel_rfl) (by kernel_rfl) ?_
        refine L_cons ?_ (by kernel_rfl)
        refine E_local (by kernel_rfl!) (rho_a1 (by decide +kernel) (by assumption)) (by kernel_rfl) ?_
        refine L_nil ?_
        refine And.intro ?_ ?_
        rfl
        refine ⟨_, rfl, ?_⟩
        refine And.intro ?_ ?_
        refine fun _ => ?_
        refine C_and_nil ?_
        refine And.intro ?_ ?_
      with_reducible refine dead ?_
      rfl
      with_reducible
        refine fun _ => ?_
        refine And.intro ?_ ?_
      with_reducible refine dead ?_
      rfl
      with_reducible
        refine fun _ => ?_
        refine B_nil ?_
        refine B_cons ?_
        refine S_if ?_
        refine C_and ?_
        refine C_cmp (by kernel_rfl) ?_
        refine E_local (by kernel_rfl!) rho_hit (by kernel_rfl) ?_
        refine E_int ?_
        refine O_lt ?_
        refine ⟨_, rfl, ?_⟩
        refine And.intro ?_ ?_
        refine fun _ => ?_
        refine C_and ?_
        refine C_not ?_
        refine C_val (by kernel_rfl) ?_
        refine E_callW (by assumption) (by assumption) (by kernel_rfl) (by kernel_rfl) (by kernel_rfl) (by kernel_rfl) ?_
        refine L_cons ?_ (by kernel_rfl)
        refine E_local (by kernel_rfl!) (rho_a1 (by decide +kernel) (by assumption)) (by kernel_rfl) ?_
        refine L_nil ?_
        refine And.intro ?_ ?_
        rfl
        refine ⟨_, rfl, ?_⟩
        refine And.intro ?_ ?_
      with_reducible refine dead ?_
      rfl
      with_reducible
        refine fun _ => ?_
        refine And.intro ?_ ?_
      with_reducible refine dead ?_
      rfl
      with_reducible
        refine fun _ => ?_
        refine B_nil ?_
        refine B_nil ?_
        refine And.intro ?_ ?_
        rfl
      assumption
      with_reducible
        refine fun _ => ?_
        refine And.intro ?_ ?_
      with_reducible refine dead ?_
      rfl
      with_reducible
        refine fun _ => ?_
        refine B_nil ?_
        refine B_nil ?_
        refine And.intro ?_ ?_
        rfl
      assumption
      with_reducible refine dead ?_
      rfl
      with_reducible refine dead ?_
      rfl
      with_reducible
        refine fun _ => ?_
        refine And.intro ?_ ?_
      with_reducible refine dead ?_
      rfl
      with_reducible
        refine fun _ => ?_
        refine B_nil ?_
        refine B_cons ?_
        refine S_if ?_
        refine C_and ?_
        refine C_cmp (by kernel_rfl) ?_
        refine E_local (by kernel_rfl!) rho_hit (by kernel_rfl) ?_
        refine E_int ?_
        refine O_lt ?_
        refine ⟨_, rfl, ?_⟩
        refine And.intro ?_ ?_
        refine fun _ => ?_
        refine C_and ?_
        refine C_not ?_
        refine C_val (by kernel_rfl) ?_
        refine E_callW (by assumption) (by assumption) (by kernel_rfl) (by kernel_rfl) (by kernel_rfl) (by kernel_rfl) ?_
        refine L_cons ?_ (by kernel_rfl)
        refine E_local (by kernel_rfl!) (rho_a1 (by decide +kernel) (by assumption)) (by kernel_rfl) ?_
        refine L_nil ?_
        refine And.intro ?_ ?_
        rfl
        refine ⟨_, rfl, ?_⟩
        refine And.intro ?_ ?_
      with_reducible refine dead ?_
      rfl
      with_reducible
        refine fun _ => ?_
        refine And.intro ?_ ?_
      with_reducible refine dead ?_
      rfl
      with_reducible
        refine fun _ => ?_
        refine B_nil ?_
        refine B_nil ?_
        refine And.intro ?_ ?_
        rfl
      assumption
      with_reducible
        refine fun _ => ?_
        refine And.intro ?_ ?_
      with_reducible refine dead ?_
      rfl
      with_reducible
        refine fun _ => ?_
        refine B_nil ?_
        refine B_nil ?_
        refine And.intro ?_ ?_
        rfl
      assumption
    · obtain ⟨rfl, h1⟩ := hJ
      with_reducible
        refine B_cons ?_
        refine S_return ?_
        refine E_bool ?_
        refine ⟨_, rfl, ?_⟩
      assumption


end

end


theorem weight_ints : ∀ (l : List Int) (i : Int), i ∈ l → i.natAbs.log2 ≤ PyData.weightAll (l.map PyData.int)
  | [], i, h => by simp at h
  | j :: l, i, h => by
    rw [List.map_cons, PyData.weightAll]
    rcases List.mem_cons.mp h with rfl | h
    · rw [PyData.weight]
      split
      · rename_i q
        have : i = 0 := by simpa using q
        subst this
        have : (0 : Int).natAbs.log2 = 0 := by decide
        omega
      · omega
    · have := weight_ints l i h
      omega
theorem script_bounds {l : List Int} (h : (PyData.list (l.map PyData.int)).layable0 = true) : ∀ i ∈ l, i.natAbs.log2 < 2 ^ 21 - 1 := by
  intro i hi
  unfold PyData.layable0 at h
  rw [Bool.and_eq_true] at h
  have h2 : (PyData.list (l.map PyData.int)).weight ≤ 2 ^ 20 := of_decide_eq_true h.2
  rw [PyData.weight] at h2
  have := weight_ints l i hi
  have e : (2 : Nat) ^ 20 = 1048576 := by decide
  have e2 : (2 : Nat) ^ 21 = 2097152 := by decide
  omega
theorem ints_read {fz : Fz} {sr : Option Addr} : ∀ {vs : List Value} {l : List Int}, IntsAre vs l → RdL fz sr (l.map .int) vs
  | _, _, .nil => by simp [RdL]
  | _, _, .cons n t h => by
    rw [List.map_cons]
    exact ⟨_, _, rfl, by simp [Rd], ints_read h⟩
theorem well_list {P : Params} {h : Heap} {a : Addr} {xs : List WData} (w : Well P h (.ref a) (.list xs)) : ∃ vs : List Value, h.get? a = some { cls := .type "list", data := .seq vs.toArray } := by
  cases w with
  | list e _ => exact ⟨_, e⟩
end Mine
open Mine in
theorem PySem.Challenge.cw_xm0979_01_holds : PySem.Challenge.rw_xm0979_01.Holds := by
  w_on
  refine holds_law Mine.law_said fun said => ?_
  refine PySem.W.holds_open (q := Mine.view) (loose := Mine.loose) (Xt := Mine.topXt) (XP := XL Mine.view []) (Yf := Hook.obs Mine.hook) (Ya := Hook.val Mine.hook) (YP := Hook.says Mine.hook) (N := 22352) Mine.top_left (Hook.of Mine.hook) (Hook.keeps Mine.hook) (fun s e => xl_of s (Bool.and_eq_true_iff.mp e).1) XL.keeps (by rfl) (by rfl) (by rfl) (fun s e => recFacts_of (Bool.and_eq_true_iff.mp e).2) (by rfl) (by first | assumption | decide +kernel) (by decide +kernel) ⟨rfl, rfl, rfl, rfl, rfl, by decide +kernel⟩ ?hw ?hc
  case hw => w_witness2
  case hc =>
    intro w s₀ s₁ mg mb G Y fa o pm cd doc dV kV ho hd hcd hD hmg hg args vals as hpre hlay hrd hwl hlo
    have KX := kIn_of Y
    refine Ground.open G ?_
    intro T B D TE TW
    wrow_args hpre hlay hrd hwl hlo
    rename_i nn hs hlay0 hLay hr1 hl2 w4 w3 adr vs w0 hL ra hW r0 hI hr hc1 hc2
    have Wd0 : Wd w s₁.heap mg mb := ⟨⟨_, _, T⟩, KX⟩
    obtain ⟨⟨a, ob, fdt, h1, h2, h3, hF⟩⟩ := fn_law Wd0
    have hfa : a = fa := by
      have := h1.symm.trans hmg
      cases this; rfl
    subst hfa
    obtain ⟨vs2, hv2⟩ := well_list hW
    have hvs : vs2 = vs := by
      obtain ⟨o2, e2, _, n2, d2⟩ := hL
      rw [hv2] at e2; cases e2
      simp only [Data.seq.injEq] at d2
      simpa using d2.1
    subst hvs
    show wpAny (model PySem.Challenge.rw_xm0979_01.prog w) callerA (call (.ref a) [.ref adr]) _ _ s₁
    refine hF callerA none (fun b o => s₁.heap.get? b = some o) s₁ [.lst (nn.map .int)] [.ref adr] (fun d => d = .bool true) _ _ ⟨rfl, by decide, by decide⟩ (fun _ _ e => e) (fun _ _ e => e) (fun b e => by cases e) (fun b e => by cases e) ?_
      ⟨nn, rfl, by omega, script_bounds hLay, rfl⟩ fun fz' v d s' st r q => ?_
    · refine ⟨_, [], rfl, ?_, by simp [RdL]⟩
      simp only [Rd]
      exact ⟨adr, _, vs2, rfl, hv2, ⟨rfl, rfl, _, rfl⟩, ints_read hI⟩
    · subst q
      simp only [Rd] at r
      subst r
      refine ⟨.inl ⟨_, .bool true, [], rfl, fun _ => rfl, ReadsW.bool true, ?_, fun _ => ⟨List.nodup_nil, fun _ hm => nomatch hm⟩⟩, OldK.of_keep (fun b o e => st.kept b o (by simp) e), by rw [st.shape], ?_⟩
      · first | rfl | wrow_post
      · rw [st.shape]
        show AllBare s₁.gens
        rw [hg]
        first | exact AllBare.empty | exact .of_eq rfl
