import PyProof.Rows.All
import Wide.All
import OpenK.AllK
import Wide.FinOn
import PySem.Challenge.RW_nz0044_01
open PySem PySem.W PyProof.Rows PySem.Calls
set_option Elab.async false
set_option linter.unusedVariables false
set_option maxRecDepth 100000

namespace Mine
noncomputable abbrev pw : Program := PySem.Challenge.pw_nz0044_01
/-- the function that the k-th statement of the top makes -/
noncomputable def fnOb (k : Nat) (cd : Addr) (d : Value) (m : Str) (t : Tok) : Obj := match pw.main.body[k]? with
  | some (.FunctionDef name ps body _ _ _ sc _ _ _) => { cls := .type "function", data := .func { name := name, qualname := name, params := ps, body := .stmts body, scope := sc, globals := 3, closure := [], defaults := d, kwdefaults := .none, pyModule := .str m t, code := .ref cd } }
  | _ => { cls := .none }
noncomputable def nsE (P : Params) (x : Str) (t : Tok) (v : Value) : DictEntry := ⟨PyData.keyHash P x, .str x t, v⟩
/-- the names of the module, in the order in which the top binds them -/
noncomputable def ents (P : Params) : List DictEntry := [
    nsE P "__name__" 165 (.str "law_nz0044_01" 985),
    nsE P "__doc__" 166 (.none),
    nsE P "__package__" 167 (.none),
    nsE P "__loader__" 168 (.builtin "__main__.__loader__#opaque"),
    nsE P "__spec__" 169 (.none),
    nsE P "__annotations__" 170 (.ref 6),
    nsE P "__builtins__" 171 (.ref 4),
    nsE P "__file__" 173 (.str "/claim/cut.py" 172),
    nsE P "__cached__" 174 (.none),
    nsE P "_wall" 193 (.ref 21),
    nsE P "SIMPLE_ESCAPES" 229 (.ref 22),
    nsE P "OPERATORS" 257 (.ref 23),
    nsE P "DEEPEST_KEY" 259 (.int 12 258),
    nsE P "Thing" 294 (.ref 40),
    nsE P "Text" 322 (.ref 62),
    nsE P "ListThing" 349 (.ref 82),
    nsE P "TableThing" 399 (.ref 120),
    nsE P "RangeThing" 430 (.ref 140),
    nsE P "ProcThing" 473 (.ref 161),
    nsE P "ErrorThing" 501 (.ref 181),
    nsE P "ModuleThing" 548 (.ref 208),
    nsE P "is_int" 555 (.ref 217),
    nsE P "sort_of" 562 (.ref 224),
    nsE P "code_of" 568 (.ref 230),
    nsE P "is_word" 576 (.ref 237),
    nsE P "is_label" 583 (.ref 244),
    nsE P "is_plain_symbol" 590 (.ref 251),
    nsE P "full_name" 597 (.ref 258),
    nsE P "show_letter" 607 (.ref 265),
    nsE P "show_text" 613 (.ref 270),
    nsE P "show_symbol" 620 (.ref 277),
    nsE P "show_pair" 629 (.ref 284),
    nsE P "show_range" 639 (.ref 291),
    nsE P "show_thing" 645 (.ref 296),
    nsE P "show_error" 656 (.ref 303),
    nsE P "show" 666 (.ref 311),
    nsE P "MOST_BITS" 670 (.int 14000 669),
    nsE P "FIGURES" 672 (.str "0123456789abcdefghijklmnopqrstuvwxyz" 671),
    nsE P "named" 680 (.ref 318),
    nsE P "whole" 689 (.ref 325),
    nsE P "other" 697 (.ref 332),
    nsE P "divisor" 706 (.ref 339),
    nsE P "compared" 714 (.ref 346),
    nsE P "need_room" 724 (.ref 354),
    nsE P "quotient" 733 (.ref 361),
    nsE P "modulo" 742 (.ref 368),
    nsE P "remainder" 753 (.ref 375),
    nsE P "quotient_up" 762 (.ref 382),
    nsE P "power" 772 (.ref 389),
    nsE P "power_modulo" 785 (.ref 396),
    nsE P "divisor_of" 793 (.ref 403),
    nsE P "common" 801 (.ref 410),
    nsE P "greatest_divisor" 810 (.ref 417),
    nsE P "least_multiple" 820 (.ref 424),
    nsE P "at_most" 829 (.ref 431),
    nsE P "at_least" 838 (.ref 438),
    nsE P "bits_and" 847 (.ref 445),
    nsE P "bits_or" 856 (.ref 452),
    nsE P "bits_unlike" 865 (.ref 459),
    nsE P "shifted" 874 (.ref 466),
    nsE P "shift_left" 883 (.ref 473),
    nsE P "shift_right" 892 (.ref 480),
    nsE P "bit_at" 904 (.ref 487),
    nsE P "bit_count" 913 (.ref 494),
    nsE P "has_all_bits" 923 (.ref 501),
    nsE P "grain" 932 (.ref 508),
    nsE P "rounded_down" 942 (.ref 515),
    nsE P "rounded_up" 952 (.ref 522),
    nsE P "rounded" 963 (.ref 529),
    nsE P "cut" 974 (.ref 536),
    nsE P "figures" 984 (.ref 543),
    nsE P "_law_box" 997 (.ref 550),
    nsE P "_law_take" 1007 (.ref 557),
    nsE P "_law_drawn" 1018 (.ref 564),
    nsE P "_law_rest" 1029 (.ref 571),
    nsE P "_law_power" 1042 (.ref 578),
    nsE P "_law_powers_right" 1048 (.ref 583),
    nsE P "_law_parts_right" 1065 (.ref 590),
    nsE P "_law_common_right" 1078 (.ref 597),
    nsE P "_law_figures_right" 1084 (.ref 602),
    nsE P "_law_bits_right" 1090 (.ref 607),
    nsE P "law" 1100 (.ref 614)]
/-- what of the heap behind the top the proof reads -/
noncomputable def KF (P : Params) : Frag := [
  (3, { cls := .type "dict", data := .dict (ents P).toArray 82 }),
  (216, { cls := .type "code", data := .fields #[.str "is_int" 549, .str "is_int" 550, .str "/claim/cut.py" 551, .int 86 0, .int 1 0, .int 0 0, .int 0 0, .int 3 0, .ref 211, .bool true, .int 181 0, .ref 212, .none, .ref 213, .ref 214, .ref 215, .int 553 0, .int 86 0, .str "/claim/cut.py" 554] }),
  (217, fnOb 13 216 (.none) "gemrows.things" 194),
  (317, { cls := .type "code", data := .fields #[.str "named" 673, .str "named" 674, .str "/claim/cut.py" 675, .int 196 0, .int 2 0, .int 0 0, .int 0 0, .int 3 0, .ref 312, .bool true, .int 181 0, .ref 313, .none, .ref 314, .ref 315, .ref 316, .int 678 0, .int 196 0, .str "/claim/cut.py" 679] }),
  (318, fnOb 31 317 (.none) "gemrows.numbers" 667),
  (324, { cls := .type "code", data := .fields #[.str "whole" 681, .str "whole" 682, .str "/claim/cut.py" 683, .int 200 0, .int 2 0, .int 0 0, .int 0 0, .int 3 0, .ref 319, .bool true, .int 181 0, .ref 320, .none, .ref 321, .ref 322, .ref 323, .int 687 0, .int 200 0, .str "/claim/cut.py" 688] }),
  (325, fnOb 32 324 (.none) "gemrows.numbers" 667),
  (331, { cls := .type "code", data := .fields #[.str "other" 690, .str "other" 691, .str "/claim/cut.py" 692, .int 207 0, .int 2 0, .int 0 0, .int 0 0, .int 3 0, .ref 326, .bool true, .int 181 0, .ref 327, .none, .ref 328, .ref 329, .ref 330, .int 695 0, .int 207 0, .str "/claim/cut.py" 696] }),
  (332, fnOb 33 331 (.none) "gemrows.numbers" 667),
  (338, { cls := .type "code", data := .fields #[.str "divisor" 698, .str "divisor" 699, .str "/claim/cut.py" 700, .int 211 0, .int 2 0, .int 0 0, .int 0 0, .int 3 0, .ref 333, .bool true, .int 181 0, .ref 334, .none, .ref 335, .ref 336, .ref 337, .int 704 0, .int 211 0, .str "/claim/cut.py" 705] }),
  (339, fnOb 34 338 (.none) "gemrows.numbers" 667),
  (345, { cls := .type "code", data := .fields #[.str "compared" 707, .str "compared" 708, .str "/claim/cut.py" 709, .int 214 0, .int 2 0, .int 0 0, .int 0 0, .int 3 0, .ref 340, .bool true, .int 181 0, .ref 341, .none, .ref 342, .ref 343, .ref 344, .int 712 0, .int 214 0, .str "/claim/cut.py" 713] }),
  (346, fnOb 35 345 (.none) "gemrows.numbers" 667),
  (347, { cls := .type "tuple", data := .seq #[.str "number too big" 715] }),
  (353, { cls := .type "code", data := .fields #[.str "need_room" 716, .str "need_room" 717, .str "/claim/cut.py" 718, .int 218 0, .int 3 0, .int 0 0, .int 0 0, .int 3 0, .ref 348, .bool true, .int 181 0, .ref 349, .none, .ref 350, .ref 351, .ref 352, .int 722 0, .int 218 0, .str "/claim/cut.py" 723] }),
  (354, fnOb 36 353 (.ref 347) "gemrows.numbers" 667),
  (360, { cls := .type "code", data := .fields #[.str "quotient" 725, .str "quotient" 726, .str "/claim/cut.py" 727, .int 221 0, .int 3 0, .int 0 0, .int 0 0, .int 3 0, .ref 355, .bool true, .int 181 0, .ref 356, .none, .ref 357, .ref 358, .ref 359, .int 731 0, .int 221 0, .str "/claim/cut.py" 732] }),
  (361, fnOb 37 360 (.none) "gemrows.numbers" 667),
  (367, { cls := .type "code", data := .fields #[.str "modulo" 734, .str "modulo" 735, .str "/claim/cut.py" 736, .int 223 0, .int 3 0, .int 0 0, .int 0 0, .int 3 0, .ref 362, .bool true, .int 181 0, .ref 363, .none, .ref 364, .ref 365, .ref 366, .int 740 0, .int 223 0, .str "/claim/cut.py" 741] }),
  (368, fnOb 38 367 (.none) "gemrows.numbers" 667),
  (374, { cls := .type "code", data := .fields #[.str "remainder" 743, .str "remainder" 744, .str "/claim/cut.py" 745, .int 225 0, .int 3 0, .int 0 0, .int 0 0, .int 3 0, .ref 369, .bool true, .int 181 0, .ref 370, .none, .ref 371, .ref 372, .ref 373, .int 751 0, .int 225 0, .str "/claim/cut.py" 752] }),
  (375, fnOb 39 374 (.none) "gemrows.numbers" 667),
  (381, { cls := .type "code", data := .fields #[.str "quotient_up" 754, .str "quotient_up" 755, .str "/claim/cut.py" 756, .int 229 0, .int 3 0, .int 0 0, .int 0 0, .int 3 0, .ref 376, .bool true, .int 181 0, .ref 377, .none, .ref 378, .ref 379, .ref 380, .int 760 0, .int 229 0, .str "/claim/cut.py" 761] }),
  (382, fnOb 40 381 (.none) "gemrows.numbers" 667),
  (388, { cls := .type "code", data := .fields #[.str "power" 763, .str "power" 764, .str "/claim/cut.py" 765, .int 231 0, .int 3 0, .int 0 0, .int 0 0, .int 3 0, .ref 383, .bool true, .int 181 0, .ref 384, .none, .ref 385, .ref 386, .ref 387, .int 770 0, .int 231 0, .str "/claim/cut.py" 771] }),
  (389, fnOb 41 388 (.none) "gemrows.numbers" 667),
  (395, { cls := .type "code", data := .fields #[.str "power_modulo" 773, .str "power_modulo" 774, .str "/claim/cut.py" 775, .int 243 0, .int 3 0, .int 0 0, .int 0 0, .int 3 0, .ref 390, .bool true, .int 181 0, .ref 391, .none, .ref 392, .ref 393, .ref 394, .int 783 0, .int 243 0, .str "/claim/cut.py" 784] }),
  (396, fnOb 42 395 (.none) "gemrows.numbers" 667),
  (402, { cls := .type "code", data := .fields #[.str "divisor_of" 786, .str "divisor_of" 787, .str "/claim/cut.py" 788, .int 257 0, .int 2 0, .int 0 0, .int 0 0, .int 3 0, .ref 397, .bool true, .int 181 0, .ref 398, .none, .ref 399, .ref 400, .ref 401, .int 791 0, .int 257 0, .str "/claim/cut.py" 792] }),
  (403, fnOb 43 402 (.none) "gemrows.numbers" 667),
  (409, { cls := .type "code", data := .fields #[.str "common" 794, .str "common" 795, .str "/claim/cut.py" 796, .int 262 0, .int 2 0, .int 0 0, .int 0 0, .int 3 0, .ref 404, .bool true, .int 181 0, .ref 405, .none, .ref 406, .ref 407, .ref 408, .int 799 0, .int 262 0, .str "/claim/cut.py" 800] }),
  (410, fnOb 44 409 (.none) "gemrows.numbers" 667),
  (416, { cls := .type "code", data := .fields #[.str "greatest_divisor" 802, .str "greatest_divisor" 803, .str "/claim/cut.py" 804, .int 264 0, .int 3 0, .int 0 0, .int 0 0, .int 3 0, .ref 411, .bool true, .int 181 0, .ref 412, .none, .ref 413, .ref 414, .ref 415, .int 808 0, .int 264 0, .str "/claim/cut.py" 809] }),
  (417, fnOb 45 416 (.none) "gemrows.numbers" 667),
  (423, { cls := .type "code", data := .fields #[.str "least_multiple" 811, .str "least_multiple" 812, .str "/claim/cut.py" 813, .int 266 0, .int 3 0, .int 0 0, .int 0 0, .int 3 0, .ref 418, .bool true, .int 181 0, .ref 419, .none, .ref 420, .ref 421, .ref 422, .int 818 0, .int 266 0, .str "/claim/cut.py" 819] }),
  (424, fnOb 46 423 (.none) "gemrows.numbers" 667),
  (430, { cls := .type "code", data := .fields #[.str "at_most" 821, .str "at_most" 822, .str "/claim/cut.py" 823, .int 270 0, .int 3 0, .int 0 0, .int 0 0, .int 3 0, .ref 425, .bool true, .int 181 0, .ref 426, .none, .ref 427, .ref 428, .ref 429, .int 827 0, .int 270 0, .str "/claim/cut.py" 828] }),
  (431, fnOb 47 430 (.none) "gemrows.numbers" 667),
  (437, { cls := .type "code", data := .fields #[.str "at_least" 830, .str "at_least" 831, .str "/claim/cut.py" 832, .int 272 0, .int 3 0, .int 0 0, .int 0 0, .int 3 0, .ref 432, .bool true, .int 181 0, .ref 433, .none, .ref 434, .ref 435, .ref 436, .int 836 0, .int 272 0, .str "/claim/cut.py" 837] }),
  (438, fnOb 48 437 (.none) "gemrows.numbers" 667),
  (444, { cls := .type "code", data := .fields #[.str "bits_and" 839, .str "bits_and" 840, .str "/claim/cut.py" 841, .int 274 0, .int 3 0, .int 0 0, .int 0 0, .int 3 0, .ref 439, .bool true, .int 181 0, .ref 440, .none, .ref 441, .ref 442, .ref 443, .int 845 0, .int 274 0, .str "/claim/cut.py" 846] }),
  (445, fnOb 49 444 (.none) "gemrows.numbers" 667),
  (451, { cls := .type "code", data := .fields #[.str "bits_or" 848, .str "bits_or" 849, .str "/claim/cut.py" 850, .int 276 0, .int 3 0, .int 0 0, .int 0 0, .int 3 0, .ref 446, .bool true, .int 181 0, .ref 447, .none, .ref 448, .ref 449, .ref 450, .int 854 0, .int 276 0, .str "/claim/cut.py" 855] }),
  (452, fnOb 50 451 (.none) "gemrows.numbers" 667),
  (458, { cls := .type "code", data := .fields #[.str "bits_unlike" 857, .str "bits_unlike" 858, .str "/claim/cut.py" 859, .int 278 0, .int 3 0, .int 0 0, .int 0 0, .int 3 0, .ref 453, .bool true, .int 181 0, .ref 454, .none, .ref 455, .ref 456, .ref 457, .int 863 0, .int 278 0, .str "/claim/cut.py" 864] }),
  (459, fnOb 51 458 (.none) "gemrows.numbers" 667),
  (465, { cls := .type "code", data := .fields #[.str "shifted" 866, .str "shifted" 867, .str "/claim/cut.py" 868, .int 280 0, .int 3 0, .int 0 0, .int 0 0, .int 3 0, .ref 460, .bool true, .int 181 0, .ref 461, .none, .ref 462, .ref 463, .ref 464, .int 872 0, .int 280 0, .str "/claim/cut.py" 873] }),
  (466, fnOb 52 465 (.none) "gemrows.numbers" 667),
  (472, { cls := .type "code", data := .fields #[.str "shift_left" 875, .str "shift_left" 876, .str "/claim/cut.py" 877, .int 287 0, .int 3 0, .int 0 0, .int 0 0, .int 3 0, .ref 467, .bool true, .int 181 0, .ref 468, .none, .ref 469, .ref 470, .ref 471, .int 881 0, .int 287 0, .str "/claim/cut.py" 882] }),
  (473, fnOb 53 472 (.none) "gemrows.numbers" 667),
  (479, { cls := .type "code", data := .fields #[.str "shift_right" 884, .str "shift_right" 885, .str "/claim/cut.py" 886, .int 289 0, .int 3 0, .int 0 0, .int 0 0, .int 3 0, .ref 474, .bool true, .int 181 0, .ref 475, .none, .ref 476, .ref 477, .ref 478, .int 890 0, .int 289 0, .str "/claim/cut.py" 891] }),
  (480, fnOb 54 479 (.none) "gemrows.numbers" 667),
  (486, { cls := .type "code", data := .fields #[.str "bit_at" 893, .str "bit_at" 894, .str "/claim/cut.py" 895, .int 291 0, .int 3 0, .int 0 0, .int 0 0, .int 3 0, .ref 481, .bool true, .int 181 0, .ref 482, .none, .ref 483, .ref 484, .ref 485, .int 902 0, .int 291 0, .str "/claim/cut.py" 903] }),
  (487, fnOb 55 486 (.none) "gemrows.numbers" 667),
  (493, { cls := .type "code", data := .fields #[.str "bit_count" 905, .str "bit_count" 906, .str "/claim/cut.py" 907, .int 301 0, .int 3 0, .int 0 0, .int 0 0, .int 3 0, .ref 488, .bool true, .int 181 0, .ref 489, .none, .ref 490, .ref 491, .ref 492, .int 911 0, .int 301 0, .str "/claim/cut.py" 912] }),
  (494, fnOb 56 493 (.none) "gemrows.numbers" 667),
  (500, { cls := .type "code", data := .fields #[.str "has_all_bits" 914, .str "has_all_bits" 915, .str "/claim/cut.py" 916, .int 303 0, .int 3 0, .int 0 0, .int 0 0, .int 3 0, .ref 495, .bool true, .int 181 0, .ref 496, .none, .ref 497, .ref 498, .ref 499, .int 921 0, .int 303 0, .str "/claim/cut.py" 922] }),
  (501, fnOb 57 500 (.none) "gemrows.numbers" 667),
  (507, { cls := .type "code", data := .fields #[.str "grain" 924, .str "grain" 925, .str "/claim/cut.py" 926, .int 306 0, .int 2 0, .int 0 0, .int 0 0, .int 3 0, .ref 502, .bool true, .int 181 0, .ref 503, .none, .ref 504, .ref 505, .ref 506, .int 930 0, .int 306 0, .str "/claim/cut.py" 931] }),
  (508, fnOb 58 507 (.none) "gemrows.numbers" 667),
  (514, { cls := .type "code", data := .fields #[.str "rounded_down" 933, .str "rounded_down" 934, .str "/claim/cut.py" 935, .int 312 0, .int 3 0, .int 0 0, .int 0 0, .int 3 0, .ref 509, .bool true, .int 181 0, .ref 510, .none, .ref 511, .ref 512, .ref 513, .int 940 0, .int 312 0, .str "/claim/cut.py" 941] }),
  (515, fnOb 59 514 (.none) "gemrows.numbers" 667),
  (521, { cls := .type "code", data := .fields #[.str "rounded_up" 943, .str "rounded_up" 944, .str "/claim/cut.py" 945, .int 315 0, .int 3 0, .int 0 0, .int 0 0, .int 3 0, .ref 516, .bool true, .int 181 0, .ref 517, .none, .ref 518, .ref 519, .ref 520, .int 950 0, .int 315 0, .str "/claim/cut.py" 951] }),
  (522, fnOb 60 521 (.none) "gemrows.numbers" 667),
  (528, { cls := .type "code", data := .fields #[.str "rounded" 953, .str "rounded" 954, .str "/claim/cut.py" 955, .int 318 0, .int 3 0, .int 0 0, .int 0 0, .int 3 0, .ref 523, .bool true, .int 181 0, .ref 524, .none, .ref 525, .ref 526, .ref 527, .int 961 0, .int 318 0, .str "/claim/cut.py" 962] }),
  (529, fnOb 61 528 (.none) "gemrows.numbers" 667),
  (535, { cls := .type "code", data := .fields #[.str "cut" 964, .str "cut" 965, .str "/claim/cut.py" 966, .int 322 0, .int 3 0, .int 0 0, .int 0 0, .int 3 0, .ref 530, .bool true, .int 181 0, .ref 531, .none, .ref 532, .ref 533, .ref 534, .int 972 0, .int 322 0, .str "/claim/cut.py" 973] }),
  (536, fnOb 62 535 (.none) "gemrows.numbers" 667),
  (542, { cls := .type "code", data := .fields #[.str "figures" 975, .str "figures" 976, .str "/claim/cut.py" 977, .int 326 0, .int 2 0, .int 0 0, .int 0 0, .int 3 0, .ref 537, .bool true, .int 181 0, .ref 538, .none, .ref 539, .ref 540, .ref 541, .int 982 0, .int 326 0, .str "/claim/cut.py" 983] }),
  (543, fnOb 63 542 (.none) "gemrows.numbers" 667),
  (549, { cls := .type "code", data := .fields #[.str "_law_box" 987, .str "_law_box" 988, .str "/claim/cut.py" 989, .int 337 0, .int 1 0, .int 0 0, .int 0 0, .int 3 0, .ref 544, .bool true, .int 181 0, .ref 545, .none, .ref 546, .ref 547, .ref 548, .int 995 0, .int 337 0, .str "/claim/cut.py" 996] }),
  (550, fnOb 65 549 (.none) "law_nz0044_01" 985),
  (556, { cls := .type "code", data := .fields #[.str "_law_take" 998, .str "_law_take" 999, .str "/claim/cut.py" 1000, .int 344 0, .int 2 0, .int 0 0, .int 0 0, .int 3 0, .ref 551, .bool true, .int 181 0, .ref 552, .none, .ref 553, .ref 554, .ref 555, .int 1005 0, .int 344 0, .str "/claim/cut.py" 1006] }),
  (557, fnOb 66 556 (.none) "law_nz0044_01" 985),
  (563, { cls := .type "code", data := .fields #[.str "_law_drawn" 1008, .str "_law_drawn" 1009, .str "/claim/cut.py" 1010, .int 352 0, .int 1 0, .int 0 0, .int 0 0, .int 3 0, .ref 558, .bool true, .int 181 0, .ref 559, .none, .ref 560, .ref 561, .ref 562, .int 1016 0, .int 352 0, .str "/claim/cut.py" 1017] }),
  (564, fnOb 67 563 (.none) "law_nz0044_01" 985),
  (570, { cls := .type "code", data := .fields #[.str "_law_rest" 1019, .str "_law_rest" 1020, .str "/claim/cut.py" 1021, .int 362 0, .int 2 0, .int 0 0, .int 0 0, .int 3 0, .ref 565, .bool true, .int 181 0, .ref 566, .none, .ref 567, .ref 568, .ref 569, .int 1027 0, .int 362 0, .str "/claim/cut.py" 1028] }),
  (571, fnOb 68 570 (.none) "law_nz0044_01" 985),
  (577, { cls := .type "code", data := .fields #[.str "_law_power" 1030, .str "_law_power" 1031, .str "/claim/cut.py" 1032, .int 371 0, .int 3 0, .int 0 0, .int 0 0, .int 3 0, .ref 572, .bool true, .int 181 0, .ref 573, .none, .ref 574, .ref 575, .ref 576, .int 1040 0, .int 371 0, .str "/claim/cut.py" 1041] }),
  (578, fnOb 69 577 (.none) "law_nz0044_01" 985),
  (582, { cls := .type "code", data := .fields #[.str "_law_powers_right" 1043, .str "_law_powers_right" 1044, .str "/claim/cut.py" 1045, .int 381 0, .int 1 0, .int 0 0, .int 0 0, .int 3 0, .ref 579, .bool true, .int 181 0, .ref 580, .none, .none, .none, .ref 581, .int 1046 0, .int 381 0, .str "/claim/cut.py" 1047] }),
  (583, fnOb 70 582 (.none) "law_nz0044_01" 985),
  (589, { cls := .type "code", data := .fields #[.str "_law_parts_right" 1049, .str "_law_parts_right" 1050, .str "/claim/cut.py" 1051, .int 398 0, .int 2 0, .int 0 0, .int 0 0, .int 3 0, .ref 584, .bool true, .int 181 0, .ref 585, .none, .ref 586, .ref 587, .ref 588, .int 1063 0, .int 398 0, .str "/claim/cut.py" 1064] }),
  (590, fnOb 71 589 (.none) "law_nz0044_01" 985),
  (596, { cls := .type "code", data := .fields #[.str "_law_common_right" 1066, .str "_law_common_right" 1067, .str "/claim/cut.py" 1068, .int 414 0, .int 2 0, .int 0 0, .int 0 0, .int 3 0, .ref 591, .bool true, .int 181 0, .ref 592, .none, .ref 593, .ref 594, .ref 595, .int 1076 0, .int 414 0, .str "/claim/cut.py" 1077] }),
  (597, fnOb 72 596 (.none) "law_nz0044_01" 985),
  (601, { cls := .type "code", data := .fields #[.str "_law_figures_right" 1079, .str "_law_figures_right" 1080, .str "/claim/cut.py" 1081, .int 426 0, .int 2 0, .int 0 0, .int 0 0, .int 3 0, .ref 598, .bool true, .int 181 0, .ref 599, .none, .none, .none, .ref 600, .int 1082 0, .int 426 0, .str "/claim/cut.py" 1083] }),
  (602, fnOb 73 601 (.none) "law_nz0044_01" 985),
  (606, { cls := .type "code", data := .fields #[.str "_law_bits_right" 1085, .str "_law_bits_right" 1086, .str "/claim/cut.py" 1087, .int 442 0, .int 4 0, .int 0 0, .int 0 0, .int 3 0, .ref 603, .bool true, .int 181 0, .ref 604, .none, .none, .none, .ref 605, .int 1088 0, .int 442 0, .str "/claim/cut.py" 1089] }),
  (607, fnOb 74 606 (.none) "law_nz0044_01" 985)]
noncomputable def asF : List Addr := [3, 216, 217, 317, 318, 324, 325, 331, 332, 338, 339, 345, 346, 347, 353, 354, 360, 361, 367, 368, 374, 375, 381, 382, 388, 389, 395, 396, 402, 403, 409, 410, 416, 417, 423, 424, 430, 431, 437, 438, 444, 445, 451, 452, 458, 459, 465, 466, 472, 473, 479, 480, 486, 487, 493, 494, 500, 501, 507, 508, 514, 515, 521, 522, 528, 529, 535, 536, 542, 543, 549, 550, 556, 557, 563, 564, 570, 571, 577, 578, 582, 583, 589, 590, 596, 597, 601, 602, 606, 607]
theorem asF_eq : ∀ P, asF = (KF P).map (·.1) := fun _ => rfl
noncomputable def qv : Program := view pw [75]
noncomputable def looseN : List Str := [Str.ofString "_wall", Str.ofString "SIMPLE_ESCAPES", Str.ofString "OPERATORS", Str.ofString "DEEPEST_KEY", Str.ofString "Thing", Str.ofString "Text", Str.ofString "ListThing", Str.ofString "TableThing", Str.ofString "RangeThing", Str.ofString "ProcThing", Str.ofString "ErrorThing", Str.ofString "ModuleThing", Str.ofString "is_int", Str.ofString "sort_of", Str.ofString "code_of", Str.ofString "is_word", Str.ofString "is_label", Str.ofString "is_plain_symbol", Str.ofString "full_name", Str.ofString "show_letter", Str.ofString "show_text", Str.ofString "show_symbol", Str.ofString "show_pair", Str.ofString "show_range", Str.ofString "show_thing", Str.ofString "show_error", Str.ofString "show", Str.ofString "MOST_BITS", Str.ofString "FIGURES", Str.ofString "named", Str.ofString "whole", Str.ofString "other", Str.ofString "divisor", Str.ofString "compared", Str.ofString "need_room", Str.ofString "quotient", Str.ofString "modulo", Str.ofString "remainder", Str.ofString "quotient_up", Str.ofString "power", Str.ofString "power_modulo", Str.ofString "divisor_of", Str.ofString "common", Str.ofString "greatest_divisor", Str.ofString "least_multiple", Str.ofString "at_most", Str.ofString "at_least", Str.ofString "bits_and", Str.ofString "bits_or", Str.ofString "bits_unlike", Str.ofString "shifted", Str.ofString "shift_left", Str.ofString "shift_right", Str.ofString "bit_at", Str.ofString "bit_count", Str.ofString "has_all_bits", Str.ofString "grain", Str.ofString "rounded_down", Str.ofString "rounded_up", Str.ofString "rounded", Str.ofString "cut", Str.ofString "figures", Str.ofString "_law_box", Str.ofString "_law_take", Str.ofString "_law_drawn", Str.ofString "_law_rest", Str.ofString "_law_power", Str.ofString "_law_powers_right", Str.ofString "_law_parts_right", Str.ofString "_law_common_right", Str.ofString "_law_figures_right", Str.ofString "_law_bits_right"]
noncomputable def s0 (w : World) (os : OsState) : Shared := ⟨boot_heap w.params, #[], boot_drawn, boot_toks, os⟩
noncomputable abbrev hk : Hook := kHook KF asF asF_eq
noncomputable abbrev xt : Shared → Bool := fun s => xlAt qv [] s && recOk (RowW.records (OpenRow.toRowW PySem.Challenge.rw_nz0044_01.row)) s

end Mine

namespace Mine
def treeOf (l : List Obj) : BT := (l.foldl (fun (x : BT × Nat) o => (x.1.ins x.2 o, x.2 + 1)) (BT.nil, 0)).1
/-- the heap at a cut between two statements of the top: the module's names, the lines of its code, and what no step reads -/
noncomputable def treeAt (P : Params) (d : Obj) (o12 : Array Value) (n : Nat) (o : Nat → Obj) : BT := treeOf ([boot_o_0 P, boot_o_1 P, boot_o_2 P, d, boot_o_4 P, boot_o_5 P, boot_o_6 P, boot_o_7 P, boot_o_8 P, boot_o_9 P, boot_o_10 P,
  { cls := .type "tuple", data := .seq #[] }, { cls := .none, data := .fields o12 },
  { cls := .type "code", data := .fields #[.str "<module>" 182, .str "<module>" 183, .str "/claim/cut.py" 184, .int 1 0, .int 0 0, .int 0 0, .int 0 0, .int 0 0, .ref 11, .bool false, .int 181 0, .ref 12, .none, .none, .none, .none, .int 185 0, .int 1 0, .str "/claim/cut.py" 186] },
  { cls := .type "frame", slots := #[some (.ref 13), some (.ref 3), some (.ref 3), none, some (.str "__main__" 164), none, some (.ref 0)] }] ++ (List.range' 15 (n - 15)).map o)
noncomputable def stT (w : World) (os : OsState) (d : Obj) (o12 : Array Value) (n : Nat) (tk : Nat) (o : Nat → Obj) : SharedT := ⟨treeAt w.params d o12 n o, n, (boot_heap w.params).life, #[], boot_drawn, tk, os⟩
/-- the module's dict when m names are bound -/
noncomputable def modAt (P : Params) (v : Value) (m : Nat) : Obj := { cls := .type "dict", data := .dict (nsE P "__name__" 165 v :: ((ents P).drop 1).take (m - 1)).toArray m }
noncomputable def envT : Env := { scope := pw.main.scope, locals := mainNs, globals := mainNs, cells := [], code := .ref 13, frame := some 14 }
noncomputable abbrev cd0 : Code := .body (behindTheImports pw) envT
noncomputable def sts (a k : Nat) : List Stmt := ((behindTheImports pw).drop a).take k
def q0 : Pos := ⟨0, 0, 0, 0⟩
theorem pre0 (w : World) (os : OsState) : topGo treeTable pw w 11 (some (.ref 6)) 12 (s0 w os) (topStub pw) =
    some ((stT w os (boot_o_3 w.params) #[] 15 187 fun _ => default).abs, ⟨denote treeTable cd0, cd0, q0, [topFrame q0]⟩) := by
  rw [PySem.W.Fast.te15667345088766844465, PySem.W.Fast.te11892475500146522536]
  kernel_rfl
theorem block0 (w : World) (os : OsState) : segRun treeTable pw w 11 (some (.ref 6)) 1 1 (stT w os (boot_o_3 w.params) #[] 15 187 fun _ => default).abs (blockOf (behindTheImports pw) envT cd0 q0 [topFrame q0]) =
    some (.next, (stT w os (boot_o_3 w.params) #[] 15 187 fun _ => default).abs, cd0, q0) := by kernel_rfl
theorem phase_of {α : Type} {S : Option α} {g : α → α} (h : (S.isSome, S.map id) = (true, S.map g)) : ∃ x, S = some (g x) := by
  obtain ⟨h1, h2⟩ := Prod.mk.inj h
  cases S with
  | none => cases h1
  | some x => exact ⟨x, congrArg some (Option.some.inj h2)⟩
noncomputable abbrev seg (w : World) (N : Nat) (s : SharedT) (l : List Stmt) (p : Pos) := segRunT treeTable pw w 11 (some (.ref 6)) 1 N s (piecesOf l envT cd0 p [topFrame q0])
abbrev Out := Flow × SharedT × Code × Pos
/-- where each def and class of the top begins, and its code -/
def defLines : List (Int × Addr) := [(1, 20), (8, 29), (17, 50), (22, 70), (27, 90), (42, 128), (49, 148), (62, 169), (68, 189), (86, 216), (88, 223), (96, 229), (107, 236), (114, 243), (116, 250), (124, 257), (132, 264), (142, 269), (145, 276), (147, 283), (151, 290), (155, 295), (176, 302), (182, 310), (196, 317), (200, 324), (207, 331), (211, 338), (214, 345), (218, 353), (221, 360), (223, 367), (225, 374), (229, 381), (231, 388), (243, 395), (257, 402), (262, 409), (264, 416), (266, 423), (270, 430), (272, 437), (274, 444), (276, 451), (278, 458), (280, 465), (287, 472), (289, 479), (291, 486), (301, 493), (303, 500), (306, 507), (312, 514), (315, 521), (318, 528), (322, 535), (326, 542), (337, 549), (344, 556), (352, 563), (362, 570), (371, 577), (381, 582), (398, 589), (414, 596), (426, 601), (442, 606), (465, 613)]
def linesTo (k : Nat) : Array Value := ((defLines.take k).flatMap fun p => [.int p.1 0, .int 0 0, .ref p.2]).toArray
/-- from one cut to the next: the state behind is of the form told, whatever the objects that no step reads -/
def Go (w : World) (N : Nat) (s : OsState → SharedT) (l : List Stmt) (p : Pos) (g : OsState → Out → Out) : Prop := ∀ os, ((seg w N (s os) l p).isSome, (seg w N (s os) l p).map id) = (true, (seg w N (s os) l p).map (g os))
noncomputable def rest (x : Out) (i : Nat) : Obj := (x.2.1.tree.get i).getD default
noncomputable abbrev sA (w : World) (os : OsState) : SharedT := stT w os (boot_o_3 w.params) #[] 15 187 fun _ => default
noncomputable abbrev sB (w : World) (o : Nat → Obj) (os : OsState) : SharedT := stT w os (modAt w.params (.str "gemrows.things" 194) 11) (linesTo 1) 23 230 o
noncomputable abbrev sC (w : World) (o : Nat → Obj) (os : OsState) : SharedT := stT w os (modAt w.params (.str "gemrows.things" 194) 21) (linesTo 9) 211 549 o
def pB : Pos := ⟨5, 0, 5, 14⟩
def pC : Pos := ⟨68, 0, 85, 16⟩
def pD : Pos := ⟨465, 0, 470, 102⟩
theorem go1 : ∀ w, Go w 220 (sA w) (sts 0 3) q0 (fun os x => (.next, sB w (rest x) os, cd0, pB)) :=
  byRow2 "special-get-raises" (P := fun w => Go w 220 (sA w) (sts 0 3) q0 (fun os x => (.next, sB w (rest x) os, cd0, pB)))
    (fun w os => by
      unfold seg piecesOf
      rw [PySem.W.Fast.te10110043849684766642, PySem.W.Fast.te12563942051412417395]
      kernel_rfl)
    (fun w os => by
      unfold seg piecesOf
      rw [PySem.W.Fast.te10110043849684766642, PySem.W.Fast.te12563942051412417395]
      kernel_rfl)
theorem go2 (w : World) (o : Nat → Obj) : Go w 2300 (sB w o) (sts 3 10) pB (fun os x => (.next, sC w (rest x) os, cd0, pC)) := by
  intro os
  unfold seg piecesOf
  rw [PySem.W.Fast.te10110043849684766642, PySem.W.Fast.te12563942051412417395]
  kernel_rfl
/-- the objects that the looks read: those of the proof's part, and law itself -/
noncomputable def KL (P : Params) : Frag := (613, { cls := .type "code", data := .fields #[.str "law" 1091, .str "law" 1092, .str "/claim/cut.py" 1093, .int 465 0, .int 1 0, .int 0 0, .int 0 0, .int 3 0, .ref 608, .bool true, .int 181 0, .ref 609, .none, .ref 610, .ref 611, .ref 612, .int 1098 0, .int 465 0, .str "/claim/cut.py" 1099] }) ::
  (609, { cls := .none, data := .fields #[] }) :: (614, fnOb 75 613 .none "law_nz0044_01" 985) :: KF P
noncomputable def known (P : Params) (o : Nat → Obj) (i : Nat) : Obj := ((KL P).lookup i).getD (o i)
noncomputable abbrev sD (w : World) (o : Nat → Obj) (os : OsState) : SharedT := stT w os (modAt w.params (.str "gemrows.numbers" 667) 50) (linesTo 36) 397 786 (known w.params o)
noncomputable abbrev sE (w : World) (o : Nat → Obj) (os : OsState) : SharedT := stT w os (modAt w.params (.str "law_nz0044_01" 985) 82) (linesTo 68) 615 1101 (known w.params o)
def pM : Pos := ⟨243, 0, 256, 16⟩
theorem go3 (w : World) (o : Nat → Obj) : Go w 1100 (sC w o) (sts 13 30) pC (fun os x => (.next, sD w (rest x) os, cd0, pM)) := by
  intro os
  unfold seg piecesOf
  rw [PySem.W.Fast.te10110043849684766642, PySem.W.Fast.te12563942051412417395]
  kernel_rfl
theorem go4 (w : World) (o : Nat → Obj) : Go w 1200 (sD w o) (sts 43 33) pM (fun os x => (.next, sE w (rest x) os, cd0, pD)) := by
  intro os
  unfold seg piecesOf
  rw [PySem.W.Fast.te10110043849684766642, PySem.W.Fast.te12563942051412417395]
  kernel_rfl
noncomputable abbrev look0 (w : World) (s : Shared) := ((staticsOk (importedModules pw.main.body) (boot_heap w.params) s.heap && namesBound pw s.heap && gensDone s && laidKept (boot_heap w.params) s.heap), openSeen qv looseN (importedModules pw.main.body) xt true s, Hook.obs hk s)
noncomputable abbrev good0 (w : World) := (true, openGood qv looseN, Hook.val hk w)
theorem looks (w : World) (o : Nat → Obj) (os : OsState) : look0 w (sE w o os).abs = good0 w := by
  unfold look0 good0
  rw [PySem.W.Fast.te4187177175401517315]
  kernel_rfl
end Mine

namespace Mine
theorem fin0 (w : World) (h : Heap) (g : Array GenState) (d : Drawn) (tk : Nat) (os : OsState) (p : Pos) : topRun treeTable pw w 11 (some (.ref 6)) 2 ⟨h, g, d, tk, os⟩ (restOf [] envT cd0 p [topFrame q0]) = some ⟨h, g, d, tk, os⟩ := by kernel_rfl
theorem body0 : behindTheImports pw = sts 0 3 ++ (sts 3 10 ++ (sts 13 30 ++ (sts 43 33 ++ []))) := by kernel_rfl
theorem runW (w : World) (os : OsState) : ∃ s, topRun treeTable pw w 11 (some (.ref 6)) 4835 (s0 w os) (topStub pw) = some s ∧ look0 w s = good0 w := by
  obtain ⟨x1, h1⟩ := phase_of (go1 w os)
  obtain ⟨x2, h2⟩ := phase_of (go2 w (rest x1) os)
  obtain ⟨x3, h3⟩ := phase_of (go3 w (rest x2) os)
  obtain ⟨x4, h4⟩ := phase_of (go4 w (rest x3) os)
  have t4 := piece_app (segRun_of h4) (fin0 w _ _ _ _ os pD)
  have t3 := piece_app (segRun_of h3) t4
  have t2 := piece_app (segRun_of h2) t3
  have t1 := piece_app (segRun_of h1) t2
  rw [← body0] at t1
  exact ⟨_, go_top (pre0 w os) (piece_block (block0 w os) t1), looks w (rest x4) os⟩
theorem open0 : opening pw = plainProg pw.main.scope.names := by kernel_rfl
theorem fence0 (s : Shared) : fenceModules? pw s = some s := by kernel_rfl
theorem size0 (w : World) (os : OsState) : (((s0 w os).heap.isNs mainGlobals && (s0 w os).gens.size == 0), (s0 w os).heap.objs.size, (s0 w os).heap.nsMap mainGlobals "__annotations__") = (true, 11, some (.ref 6)) := by kernel_rfl
theorem left0 : LeftO pw qv looseN xt (Hook.obs hk) (Hook.val hk) 9000 := by
  intro w
  obtain ⟨s, a, b⟩ := Option.map_eq_some_iff.mp (boot_open (p := pw) (N := 9000) open0 (by decide) fence0 w)
  obtain ⟨h, g, d, k, os⟩ := s
  simp only [Prod.mk.injEq] at b
  obtain ⟨rfl, rfl, rfl, rfl⟩ := b
  obtain ⟨r, hr, hl⟩ := runW w os
  have hz := size0 w os
  simp only [Prod.mk.injEq] at hz
  obtain ⟨z1, z2, z3⟩ := hz
  simp only [look0, good0, Prod.mk.injEq] at hl
  obtain ⟨l1, l2, l3⟩ := hl
  have t' := topRun_mono 4165 _ _ _ _ hr
  unfold openEnds
  rw [a]
  show (topFrom treeTable pw w 9000 (s0 w os)).map _ = _
  unfold topFrom
  rw [z1, z2, z3, t']
  show ((match staticsOk (importedModules pw.main.body) (boot_heap w.params) r.heap && namesBound pw r.heap && gensDone r && laidKept (boot_heap w.params) r.heap with | true => some r | false => none : Option Shared)).map _ = _
  rw [l1]
  exact congrArg some (Prod.ext l2 l3)
end Mine

namespace Mine
set_option maxHeartbeats 8000000 in
theorem said0 : OpenLaw.wellSaid PySem.Challenge.rw_nz0044_01 = true := by
  rw [PySem.W.Fast.te9446332074065402090]
  delta PySem.W.Fast.tw9446332074065402090 PySem.W.Fast.tw17960256430627541270 PySem.W.Fast.tw2436336058641802641 PySem.W.Fast.tw12908688711261696721
  repeat' (with_reducible refine Bool.and_eq_true_iff.mpr ⟨?_, ?_⟩)
  all_goals (as_aux_lemma => kernel_rfl)
end Mine

namespace Mine

inductive PV where
  | none | bool (b : Bool) | int (n : Int) | str (s : Str) | list (l : List PV) | tup (l : List PV) | cell | ty (s : String) | xl (l : List PV)

mutual
inductive Rep (c : Option Addr) (h : Heap) : Value → PV → Prop
  | none : Rep c h .none .none
  | bool (b : Bool) : Rep c h (.bool b) (.bool b)
  | int (n : Int) (t : Tok) : Rep c h (.int n t) (.int n)
  | str (x : Str) (t : Tok) : Rep c h (.str x t) (.str x)
  | list {a : Addr} {vs : List Value} {l : List PV} : h.PlainList a vs.toArray → c ≠ some a → Reps c h vs l → Rep c h (.ref a) (.list l)
  | tup {a : Addr} {vs : List Value} {l : List PV} : h.IsTuple a vs.toArray → c ≠ some a → Reps c h vs l → Rep c h (.ref a) (.tup l)
  | cell {a : Addr} : c = some a → Rep c h (.ref a) .cell
  | ty (x : String) : Rep c h (.type x) (.ty x)
  /-- a list from outside: it may carry a dict of its own -/
  | xl {a : Addr} {vs : List Value} {l : List PV} : h.IsList a vs.toArray → c ≠ some a → Reps c h vs l → Rep c h (.ref a) (.xl l)
inductive Reps (c : Option Addr) (h : Heap) : List Value → List PV → Prop
  | nil : Reps c h [] []
  | cons {v : Value} {p : PV} {vs : List Value} {l : List PV} : Rep c h v p → Reps c h vs l → Reps c h (v :: vs) (p :: l)
end

def KeepB (c : Option Addr) (h h' : Heap) : Prop := ∀ b o, c ≠ some b → h.get? b = some o → h'.get? b = some o
theorem KeepB.refl (c : Option Addr) (h : Heap) : KeepB c h h := fun _ _ _ e => e
theorem KeepB.trans {c : Option Addr} {h h' h'' : Heap} (a : KeepB c h h') (b : KeepB c h' h'') : KeepB c h h'' := fun x o n e => b x o n (a x o n e)
theorem KeepB.of (c : Option Addr) {h h' : Heap} (k : ∀ b o, h.get? b = some o → h'.get? b = some o) : KeepB c h h' := fun b o _ e => k b o e
theorem KeepB.all {h h' : Heap} (k : KeepB Option.none h h') : ∀ b o, h.get? b = some o → h'.get? b = some o := fun b o e => k b o (by intro x; cases x) e
theorem KeepB.up (c : Option Addr) {h h' : Heap} (k : KeepB Option.none h h') : KeepB c h h' := .of c k.all

theorem plain_keep {c : Option Addr} {h h' : Heap} {a : Addr} {xs : Array Value} (k : KeepB c h h') (ha : c ≠ some a) (p : h.PlainList a xs) : h'.PlainList a xs := p.at fun o e => k a o ha e
theorem tuple_keep {c : Option Addr} {h h' : Heap} {a : Addr} {xs : Array Value} (k : KeepB c h h') (ha : c ≠ some a) (p : h.IsTuple a xs) : h'.IsTuple a xs := p.at fun o e => k a o ha e
mutual
theorem Rep.mono {c : Option Addr} {h h' : Heap} (k : KeepB c h h') : ∀ {v : Value} {p : PV}, Rep c h v p → Rep c h' v p
  | _, _, .none => .none
  | _, _, .bool b => .bool b
  | _, _, .int n t => .int n t
  | _, _, .str x t => .str x t
  | _, _, .list a b r => .list (plain_keep k b a) b (Reps.mono k r)
  | _, _, .tup a b r => .tup (tuple_keep k b a) b (Reps.mono k r)
  | _, _, .cell e => .cell e
  | _, _, .ty x => .ty x
  | _, _, .xl a b r => .xl (a.at fun o e => k _ o b e) b (Reps.mono k r)
theorem Reps.mono {c : Option Addr} {h h' : Heap} (k : KeepB c h h') : ∀ {vs : List Value} {l : List PV}, Reps c h vs l → Reps c h' vs l
  | _, _, .nil => .nil
  | _, _, .cons a r => .cons (Rep.mono k a) (Reps.mono k r)
end

mutual
inductive NoCell : PV → Prop
  | none : NoCell .none
  | bool (b : Bool) : NoCell (.bool b)
  | int (n : Int) : NoCell (.int n)
  | str (x : Str) : NoCell (.str x)
  | list {l : List PV} : NoCells l → NoCell (.list l)
  | tup {l : List PV} : NoCells l → NoCell (.tup l)
  | ty (x : String) : NoCell (.ty x)
  | xl {l : List PV} : NoCells l → NoCell (.xl l)
inductive NoCells : List PV → Prop
  | nil : NoCells []
  | cons {p : PV} {l : List PV} : NoCell p → NoCells l → NoCells (p :: l)
end
mutual
theorem Rep.toNone {c : Option Addr} {h : Heap} : ∀ {v : Value} {p : PV}, Rep c h v p → NoCell p → Rep Option.none h v p
  | _, _, .none, _ => .none
  | _, _, .bool b, _ => .bool b
  | _, _, .int n t, _ => .int n t
  | _, _, .str x t, _ => .str x t
  | _, _, .list a b r, .list q => .list a (by intro x; cases x) (Reps.toNone r q)
  | _, _, .tup a b r, .tup q => .tup a (by intro x; cases x) (Reps.toNone r q)
  | _, _, .ty x, _ => .ty x
  | _, _, .xl a b r, .xl q => .xl a (by intro x; cases x) (Reps.toNone r q)
theorem Reps.toNone {c : Option Addr} {h : Heap} : ∀ {vs : List Value} {l : List PV}, Reps c h vs l → NoCells l → Reps Option.none h vs l
  | _, _, .nil, _ => .nil
  | _, _, .cons a r, .cons q qs => .cons (Rep.toNone a q) (Reps.toNone r qs)
end
inductive Scalar : PV → Prop
  | none : Scalar .none
  | bool (b : Bool) : Scalar (.bool b)
  | int (n : Int) : Scalar (.int n)
  | str (x : Str) : Scalar (.str x)
theorem Scalar.rep {c c' : Option Addr} {h h' : Heap} {v : Value} {p : PV} (q : Scalar p) (r : Rep c h v p) : Rep c' h' v p := by
  cases q <;> cases r <;> constructor

structure Cx where
  prog : Program
  w : World
  K : Frag
  p : Program
  loose : List Str
  mean : ExcName → Option Value
  mg : Str → Option Value
  mb : Str → Option Value

structure Good (X : Cx) (h : Heap) : Prop where
  top : Top X.p X.loose X.mean X.mg X.mb h
  kin : X.K.In h
theorem Good.keeps {X : Cx} {h h' : Heap} (g : Good X h) (k : ∀ b o, h.get? b = some o → h'.get? b = some o) : Good X h' := ⟨g.top.keeps k, fun a o e => k _ _ (g.kin a o e)⟩

def WS (X : Cx) (c : Option Addr) (h : Heap) : Prop :=
  (∃ h₀, Good X h₀ ∧ ∀ b o, h₀.get? b = some o → h.get? b = some o ∧ c ≠ some b) ∧ ∀ a, c = some a → ∃ o, h.get? a = some o
theorem WS.good {X : Cx} {c : Option Addr} {h : Heap} (x : WS X c h) : Good X h := let ⟨⟨_, g, k⟩, _⟩ := x; g.keeps fun b o e => (k b o e).1
theorem WS.toNone {X : Cx} {c : Option Addr} {h : Heap} (x : WS X c h) : WS X Option.none h := ⟨⟨h, x.good, fun _ _ e => ⟨e, by intro x; cases x⟩⟩, by intro a e; cases e⟩
theorem WS.step {X : Cx} {c : Option Addr} {h h' : Heap} (x : WS X c h) (k : KeepB c h h') (hc : ∀ a, c = some a → ∃ o, h'.get? a = some o) : WS X c h' :=
  let ⟨⟨h₀, g, q⟩, _⟩ := x; ⟨⟨h₀, g, fun b o e => ⟨k b o (q b o e).2 (q b o e).1, (q b o e).2⟩⟩, hc⟩
theorem WS.stepN {X : Cx} {c : Option Addr} {h h' : Heap} (x : WS X c h) (k : KeepB Option.none h h') : WS X c h' :=
  x.step (k.up c) fun a e => let ⟨o, ho⟩ := x.2 a e; ⟨o, k.all a o ho⟩

abbrev Sig := List (Str × PV)
/-- the value of a name of the frame env -/
def Holds1 (h : Heap) (env : Env) (m : Str → Option Value) (x : Str) (val : Value) : Prop := match env.cells.lookup x with
  | some ca => h.IsCell ca (some val)
  | Option.none => m x = some val
theorem Holds1.step {h h' : Heap} {env : Env} {m : Str → Option Value} {x : Str} {val : Value} (y : Holds1 h env m x val) (k : ∀ p ∈ env.cells, ∀ o, h.get? p.2 = some o → h'.get? p.2 = some o) : Holds1 h' env m x val := by
  unfold Holds1 at y ⊢
  cases e : env.cells.lookup x with
  | none => rw [e] at y; exact y
  | some ca => rw [e] at y; obtain ⟨o, ho, hd⟩ := y; exact ⟨o, k _ (mem_of_lookup e) o ho, hd⟩
structure Loc (c : Option Addr) (h : Heap) (env : Env) (σ : Sig) : Prop where
  off : c ≠ some env.locals
  cells : ∀ p ∈ env.cells, c ≠ some p.2 ∧ ∃ v, h.IsCell p.2 v
  apart : ∀ x y a, env.cells.lookup x = some a → env.cells.lookup y = some a → x = y
  vals : ∃ m, h.Ns env.locals m ∧ ∀ x v, σ.lookup x = some v → ∃ val, Rep c h val v ∧ Holds1 h env m x val
theorem Loc.step {c : Option Addr} {h h' : Heap} {env : Env} {σ : Sig} (x : Loc c h env σ) (k : KeepB c h h') : Loc c h' env σ :=
  ⟨x.off, fun p hp => ⟨(x.cells p hp).1, let ⟨v, o, ho, hd⟩ := (x.cells p hp).2; ⟨v, o, k _ o (x.cells p hp).1 ho, hd⟩⟩, x.apart,
    let ⟨m, hn, hm⟩ := x.vals; ⟨m, hn.at' fun o e => k env.locals o x.off e, fun y v e => let ⟨val, a, b⟩ := hm y v e; ⟨val, a.mono k, b.step fun p hp o e => k _ o (x.cells p hp).1 e⟩⟩⟩
def SubSig (σ τ : Sig) : Prop := ∀ x v, σ.lookup x = some v → τ.lookup x = some v
theorem Loc.sub {c : Option Addr} {h : Heap} {env : Env} {σ τ : Sig} (x : Loc c h env τ) (s : SubSig σ τ) : Loc c h env σ :=
  ⟨x.off, x.cells, x.apart, let ⟨m, hn, hm⟩ := x.vals; ⟨m, hn, fun y v e => hm y v (s y v e)⟩⟩
theorem SubSig.nil (τ : Sig) : SubSig [] τ := fun _ _ e => by cases e
theorem SubSig.refl (τ : Sig) : SubSig τ τ := fun _ _ e => e
theorem SubSig.cons {x : Str} {v : PV} {σ τ : Sig} (e : τ.lookup x = some v) (s : SubSig σ τ) : SubSig ((x, v) :: σ) τ := fun y u q => by
  rw [List.lookup_cons] at q
  split at q
  · rename_i b
    have := eq_of_beq b
    subst this; cases q; exact e
  · exact s y u q

def isStr : PV → Bool
  | .str _ => true
  | _ => false
def CellAt (c : Option Addr) (z : List PV) (h : Heap) : Prop := match c with
  | Option.none => z = []
  | some a => ∃ vs, h.IsList a (List.toArray vs) ∧ Reps (some a) h vs z ∧ (z.all isStr = true → h.PlainList a (List.toArray vs))
theorem CellAt.stepN {c : Option Addr} {z : List PV} {h h' : Heap} (x : CellAt c z h) (k : KeepB Option.none h h') : CellAt c z h' := by
  cases c with
  | none => exact x
  | some a => obtain ⟨vs, p, r, q⟩ := x; exact ⟨vs, p.at fun o e => k.all a o e, r.mono (k.up _), fun y => (q y).at fun o e => k.all a o e⟩
theorem CellAt.live {c : Option Addr} {z : List PV} {h : Heap} (x : CellAt c z h) : ∀ a, c = some a → ∃ o, h.get? a = some o := by
  rintro a rfl; obtain ⟨vs, ⟨o, e, _⟩, r, _⟩ := x; exact ⟨_, e⟩

structure SS (X : Cx) (c : Option Addr) (env : Env) (σ : Sig) (z : List PV) (h : Heap) : Prop where
  base : ∃ h₀, Good X h₀ ∧ ∀ b o, h₀.get? b = some o → h.get? b = some o ∧ c ≠ some b ∧ b ≠ env.locals ∧ ∀ p ∈ env.cells, b ≠ p.2
  loc : Loc c h env σ
  cell : CellAt c z h
theorem SS.ws {X : Cx} {c : Option Addr} {env : Env} {σ : Sig} {z : List PV} {h : Heap} (x : SS X c env σ z h) : WS X c h := ⟨let ⟨h₀, g, k⟩ := x.base; ⟨h₀, g, fun b o e => ⟨(k b o e).1, (k b o e).2.1⟩⟩, x.cell.live⟩
theorem SS.step {X : Cx} {c : Option Addr} {env : Env} {σ : Sig} {z z' : List PV} {h h' : Heap} (x : SS X c env σ z h) (k : KeepB c h h') (hc : CellAt c z' h') : SS X c env σ z' h' :=
  ⟨let ⟨h₀, g, q⟩ := x.base; ⟨h₀, g, fun b o e => ⟨k b o (q b o e).2.1 (q b o e).1, (q b o e).2⟩⟩, x.loc.step k, hc⟩
theorem SS.stepN {X : Cx} {c : Option Addr} {env : Env} {σ : Sig} {z : List PV} {h h' : Heap} (x : SS X c env σ z h) (k : KeepB Option.none h h') : SS X c env σ z h' := x.step (k.up c) (x.cell.stepN k)

def Room (n : Nat) (A : Around) : Prop := A.handled = none ∧ A.depth + n ≤ 950 ∧ A.units + 40 * n ≤ 9000
theorem Room.le {n m : Nat} {A : Around} (r : Room n A) (h : m ≤ n) : Room m A := ⟨r.1, by have := r.2.1; omega, by have := r.2.2; omega⟩
theorem Room.zero {n : Nat} {A : Around} (r : Room n A) : Room 0 A := r.le (Nat.zero_le _)
theorem Room.deeper {n : Nat} {A : Around} {env : Env} (r : Room (n + 1) A) : Room n (A.deeper env) := ⟨r.1, by have := r.2.1; simp only [Around.deeper]; omega, by have := r.2.2; simp only [Around.deeper]; omega⟩
theorem Room.lim {n : Nat} {A : Around} (r : Room n A) : A.depth < recursionLimit := by have := r.2.1; simp only [recursionLimit]; omega
theorem Room.unit {n : Nat} {A : Around} (r : Room n A) : A.units < cLine := by have := r.2.2; simp only [cLine]; omega
structure EnvOk (S : Scope) (env : Env) : Prop where
  scope : env.scope = S
  gl : env.globals = mainGlobals
  bi : env.builtins = builtinsNs
  plain : ∀ x, S.names.lookup x = some .local → env.cells.lookup x = Option.none
  held : ∀ x, S.names.lookup x = some .cell → ∃ a, env.cells.lookup x = some a
  kf : S.kind = ScopeKind.function
theorem EnvOk.kind {S : Scope} {env : Env} (e : EnvOk S env) : env.scope.kind = ScopeKind.function := by rw [e.scope]; exact e.kf
theorem EnvOk.of {S : Scope} {env : Env} {x : Str} {k : NameKind} (e : EnvOk S env) (h : S.names.lookup x = some k) : env.kindOf x = some k := by unfold Env.kindOf; rw [e.scope]; exact h

def Ez (X : Cx) (c : Option Addr) (n : Nat) (sc : Scope) (σ : Sig) (z : List PV) (e : Expr) (v : PV) (z' : List PV) : Prop :=
  ∀ (A : Around) (env : Env) (s : Shared) (Q : Value → Shared → Prop) (E : Value → Shared → Prop), Room n A → EnvOk sc env → SS X c env σ z s.heap →
    (∀ x h' tk, KeepB c s.heap h' → CellAt c z' h' → Rep c h' x v → Q x { s with heap := h', toks := tk }) → wpAny (model X.prog X.w) A (eval e env) Q E s
def Ezs (X : Cx) (c : Option Addr) (n : Nat) (sc : Scope) (σ : Sig) (z : List PV) (es : List Expr) (vs : List PV) (z' : List PV) : Prop :=
  ∀ (A : Around) (env : Env) (s : Shared) (pos : Pos) (Q : List Value → Shared → Prop) (E : Value → Shared → Prop), Room n A → EnvOk sc env → SS X c env σ z s.heap →
    (∀ xs h' tk, KeepB c s.heap h' → CellAt c z' h' → Reps c h' xs vs → Q xs { s with heap := h', toks := tk }) → wpAny (model X.prog X.w) A (spliced (backTo pos (starEach es env))) Q E s
def Tz (X : Cx) (c : Option Addr) (n : Nat) (sc : Scope) (σ : Sig) (z : List PV) (e : Expr) (b : Bool) (z' : List PV) : Prop :=
  ∀ (A : Around) (env : Env) (s : Shared) (Q : Bool → Shared → Prop) (E : Value → Shared → Prop), Room n A → EnvOk sc env → SS X c env σ z s.heap →
    (∀ h' tk, KeepB c s.heap h' → CellAt c z' h' → Q b { s with heap := h', toks := tk }) → wpAny (model X.prog X.w) A (PySem.isTrue e env (eval e env)) Q E s
def FnAt (X : Cx) (f : Addr) : Prop := ∃ o fd, X.K.lookup f = some o ∧ o.data = .func fd
def Fn (X : Cx) (n : Nat) (f : Addr) (args : List PV) (v : PV) : Prop := FnAt X f ∧
  ∀ (A : Around) (s : Shared) (xs : List Value) (Q : Value → Shared → Prop) (E : Value → Shared → Prop), Room n A → WS X Option.none s.heap → Reps Option.none s.heap xs args →
    (∀ x h' tk, KeepB Option.none s.heap h' → Rep Option.none h' x v → Q x { s with heap := h', toks := tk }) → wpAny (model X.prog X.w) A (call (.ref f) xs) Q E s
def Fz (X : Cx) (n : Nat) (f : Addr) (z : List PV) (args : List PV) (v : PV) (z' : List PV) : Prop := FnAt X f ∧
  ∀ (a : Addr) (A : Around) (s : Shared) (xs : List Value) (Q : Value → Shared → Prop) (E : Value → Shared → Prop), Room n A → WS X (some a) s.heap → CellAt (some a) z s.heap → Reps (some a) s.heap xs args →
    (∀ x h' tk, KeepB (some a) s.heap h' → CellAt (some a) z' h' → Rep (some a) h' x v → Q x { s with heap := h', toks := tk }) → wpAny (model X.prog X.w) A (call (.ref f) xs) Q E s
/-- a built-in called with plain values -/
def Bi (X : Cx) (f : Value) (args : List PV) (v : PV) : Prop :=
  ∀ (c : Option Addr) (A : Around) (s : Shared) (xs : List Value) (Q : Value → Shared → Prop) (E : Value → Shared → Prop), Room 0 A → WS X c s.heap → Reps c s.heap xs args →
    (∀ x h' tk, KeepB Option.none s.heap h' → Rep c h' x v → Q x { s with heap := h', toks := tk }) → wpAny (model X.prog X.w) A (call f xs) Q E s
def BinOk (X : Cx) (op : Operator) (a b v : PV) : Prop :=
  ∀ (c : Option Addr) (A : Around) (s : Shared) (x y : Value) (Q : Value → Shared → Prop) (E : Value → Shared → Prop), Room 0 A → WS X c s.heap → Rep c s.heap x a → Rep c s.heap y b →
    (∀ r h' tk, KeepB Option.none s.heap h' → Rep c h' r v → Q r { s with heap := h', toks := tk }) → wpAny (model X.prog X.w) A (binaryOp op x y) Q E s
def UnOk (X : Cx) (op : UnaryOp) (a v : PV) : Prop :=
  ∀ (c : Option Addr) (A : Around) (s : Shared) (x : Value) (Q : Value → Shared → Prop) (E : Value → Shared → Prop), Room 0 A → WS X c s.heap → Rep c s.heap x a →
    (∀ r h' tk, KeepB Option.none s.heap h' → Rep c h' r v → Q r { s with heap := h', toks := tk }) → wpAny (model X.prog X.w) A (unaryOp op x) Q E s
def CmpOk (X : Cx) (op : CmpOp) (a b : PV) (r : Bool) : Prop :=
  ∀ (c : Option Addr) (A : Around) (s : Shared) (x y : Value) (Q : Value → Shared → Prop) (E : Value → Shared → Prop), Room 0 A → WS X c s.heap → Rep c s.heap x a → Rep c s.heap y b →
    (∀ h' tk, KeepB Option.none s.heap h' → Q (.bool r) { s with heap := h', toks := tk }) → wpAny (model X.prog X.w) A (compareOp op x y) Q E s

def plainE : Expr → Bool
  | .Starred .. => false
  | _ => true
theorem star_cons {e : Expr} {es : List Expr} {env : Env} (h : plainE e = true) : starEach (e :: es) env = (false, eval e env) :: starEach es env := by
  cases e <;> first | rfl | cases h
theorem star_any {env : Env} {pos : Pos} : ∀ {es : List Expr}, es.all plainE = true → (backTo pos (starEach es env)).any (·.1) = false
  | [], _ => rfl
  | e :: es, h => by
    rw [List.all_cons, Bool.and_eq_true] at h
    rw [star_cons h.1]
    show (false || (backTo pos (starEach es env)).any (·.1)) = false
    rw [star_any h.2]; rfl
theorem Γ_release {M : Model} {A : Around} {E : Value → Shared → Prop} {s : Shared} {vs keep : List Value} {Q : Unit → Shared → Prop} (h : Q () s) : wpAny M A (release vs keep) Q E s := fun Γ p _ => by rw [Sem.wp_release]; exact h
theorem wpAny_operate {M : Model} {A : Around} {E : Value → Shared → Prop} {s : Shared} {vs : List Value} {m : Sem Value} {Q : Value → Shared → Prop} (h : wpAny M A m Q E s) : wpAny M A (operate vs m) Q E s := fun Γ p hΓ => by rw [Sem.wp_operate]; exact h Γ p hΓ
section
variable {X : Cx} {c : Option Addr} {n : Nat} {sc : Scope} {σ : Sig} {z z' z₁ z₂ : List PV}

theorem Ez.int {i : Int} {k : Nat} {pos : Pos} : Ez X c n sc σ z (.Constant (.int i) k pos) (.int i) z := fun _ _ s _ _ _ _ S h =>
  wpAny_Constant_int (h _ s.heap _ (KeepB.refl _ _) S.cell (.int ..))
theorem Ez.str {i : Str} {k : Nat} {pos : Pos} : Ez X c n sc σ z (.Constant (.str i) k pos) (.str i) z := fun _ _ s _ _ _ _ S h =>
  Constant_str (h _ s.heap _ (KeepB.refl _ _) S.cell (.str ..))
theorem Ez.bool {i : Bool} {k : Nat} {pos : Pos} : Ez X c n sc σ z (.Constant (.bool i) k pos) (.bool i) z := fun _ _ s _ _ _ _ S h =>
  fun _ _ _ => h _ s.heap s.toks (KeepB.refl _ _) S.cell (.bool ..)
theorem Ez.none {k : Nat} {pos : Pos} : Ez X c n sc σ z (.Constant .none k pos) .none z := fun _ _ s _ _ _ _ S h =>
  fun _ _ _ => h _ s.heap s.toks (KeepB.refl _ _) S.cell .none
def own (sc : Scope) (x : Str) : Bool := match sc.names.lookup x with
  | some .local => true
  | some .cell => true
  | _ => false
theorem own_or {sc : Scope} {x : Str} (h : own sc x = true) : sc.names.lookup x = some .local ∨ sc.names.lookup x = some .cell := by
  unfold own at h
  split at h
  · exact .inl (by assumption)
  · exact .inr (by assumption)
  · cases h
theorem Ez.name {x : Str} {pos : Pos} {v : PV} (hv : σ.lookup x = some v) (hk : own sc x = true) (hd : (x == ("__debug__" : Str)) = false) : Ez X c n sc σ z (.Name x pos) v z := fun A env s Q E r e S h => by
  obtain ⟨m, hn, hm⟩ := S.loc.vals
  obtain ⟨val, b, a⟩ := hm x v hv
  unfold Holds1 at a
  rcases own_or hk with hk | hk
  · rw [e.plain x hk] at a
    exact wpAny_Name (wpAny_loadName_local e.kind (e.of hk) hn a (h _ s.heap s.toks (KeepB.refl _ _) S.cell b)) hd
  · obtain ⟨ca, hc⟩ := e.held x hk
    rw [hc] at a
    exact wpAny_Name (wpAny_loadName_cell e.kind (e.of hk) hc a (h _ s.heap s.toks (KeepB.refl _ _) S.cell b)) hd

theorem Ez.bin {l r : Expr} {op : Operator} {pos : Pos} {a b v : PV} (h1 : Ez X c n sc σ z l a z₁) (h2 : Ez X c n sc σ z₁ r b z₂) (h3 : BinOk X op a b v) : Ez X c n sc σ z (.BinOp l op r pos) v z₂ := fun A env s Q E rm e S h =>
  wpAny_BinOp (h1 A env s _ _ rm e S fun x h' tk k1 c1 r1 => h2 A env _ _ _ rm e (S.step k1 c1) fun y h'' tk' k2 c2 r2 =>
    h3 c A _ x y _ _ rm.zero (((S.step k1 c1).step k2 c2).ws) (r1.mono k2) r2 fun r h3 tk3 k3 r3 => h r h3 tk3 ((k1.trans k2).trans (k3.up c)) (c2.stepN k3) r3)
theorem Ez.un {e : Expr} {op : UnaryOp} {pos : Pos} {a v : PV} (h1 : Ez X c n sc σ z e a z₁) (h3 : UnOk X op a v) : Ez X c n sc σ z (.UnaryOp op e pos) v z₁ := fun A env s Q E rm e S h => by
  rw [arm_eval_UnaryOp]
  exact wpAny_bind (h1 A env s _ _ rm e S fun x h' tk k1 c1 r1 => wpAny_bind (wpAny_standAt (wpAny_holding (h3 c A { s with heap := h', toks := tk } x _ _ rm.zero ((S.step k1 c1).ws) r1 fun r h2 tk2 k2 r2 => h r h2 tk2 (k1.trans (k2.up c)) (c1.stepN k2) r2))))
theorem Ez.cmp {l r : Expr} {op : CmpOp} {pos : Pos} {a b : PV} {v : Bool} (h1 : Ez X c n sc σ z l a z₁) (h2 : Ez X c n sc σ z₁ r b z₂) (h3 : CmpOk X op a b v) (hm : behindInMarks op r = false) : Ez X c n sc σ z (.Compare l [op] [r] pos) (.bool v) z₂ := fun A env s Q E rm e S h =>
  wpAny_Compare1 (h1 A env s _ _ rm e S fun x h' tk k1 c1 r1 => h2 A env _ _ _ rm e (S.step k1 c1) fun y h'' tk' k2 c2 r2 =>
    h3 c A _ x y _ _ rm.zero (((S.step k1 c1).step k2 c2).ws) (r1.mono k2) r2 fun h3 tk3 k3 => h _ h3 tk3 ((k1.trans k2).trans (k3.up c)) (c2.stepN k3) (.bool v)) hm
theorem Tz.cmp {l r : Expr} {op : CmpOp} {pos : Pos} {a b : PV} {v : Bool} (h1 : Ez X c n sc σ z l a z₁) (h2 : Ez X c n sc σ z₁ r b z₂) (h3 : CmpOk X op a b v) (hm : behindInMarks op r = false) : Tz X c n sc σ z (.Compare l [op] [r] pos) v z₂ := fun A env s Q E rm e S h =>
  wpAny_isTrue_Compare1 (h1 A env s _ _ rm e S fun x h' tk k1 c1 r1 => h2 A env _ _ _ rm e (S.step k1 c1) fun y h'' tk' k2 c2 r2 =>
    h3 c A _ x y _ _ rm.zero (((S.step k1 c1).step k2 c2).ws) (r1.mono k2) r2 fun h3 tk3 k3 => wpAny_truthy_bool (h h3 tk3 ((k1.trans k2).trans (k3.up c)) (c2.stepN k3))) hm
theorem Tz.chain {l r t : Expr} {op op' : CmpOp} {pos : Pos} {a b d : PV} {v v' : Bool} (h1 : Ez X c n sc σ z l a z) (h2 : Ez X c n sc σ z r b z) (h3 : CmpOk X op a b v) (h4 : Ez X c n sc σ z t d z) (h5 : CmpOk X op' b d v') (hm : lastMarks [op, op'] [r, t] = false) : Tz X c n sc σ z (.Compare l [op, op'] [r, t] pos) (v && v') z := fun A env s Q E rm e S h =>
  isTrue_chain (h1 A env s _ _ rm e S fun x h' tk k1 c1 r1 => by
    unfold testChain
    refine wpAny_bind (wpAny_holding (h2 A env _ _ _ rm e (S.step k1 c1) fun y h'' tk' k2 c2 r2 => ?_))
    refine wpAny_bind (wpAny_standAt (wpAny_bind (wpAny_holding ?_)))
    refine h3 c A _ x y _ _ rm.zero (((S.step k1 c1).step k2 c2).ws) (r1.mono k2) r2 fun hh3 tk3 k3 => ?_
    have S3 := ((S.step k1 c1).step k2 c2).stepN k3
    have k123 := (k1.trans k2).trans (k3.up c)
    refine wpAny_bind (Γ_release (wpAny_bind (wpAny_holding (wpAny_truthy_bool ?_))))
    cases v with
    | false => exact wpAny_pure (h hh3 tk3 k123 S3.cell)
    | true =>
      unfold testChain
      refine wpAny_bind (wpAny_holding (h4 A env _ _ _ rm e S3 fun y4 h4 tk4 k4 c4 r4 => ?_))
      refine wpAny_bind (wpAny_standAt (wpAny_bind ?_))
      refine wpAny_operate (h5 c A _ y y4 _ _ rm.zero ((S3.step k4 c4).ws) ((r2.mono (k3.up c)).mono k4) r4 fun h6 tk6 k6 => ?_)
      exact wpAny_holding (wpAny_truthy_bool (h h6 tk6 ((k123.trans k4).trans (k6.up c)) (c4.stepN k6)))) hm
theorem Tz.not {e : Expr} {pos : Pos} {b : Bool} (h1 : Tz X c n sc σ z e b z₁) : Tz X c n sc σ z (.UnaryOp .Not e pos) (!b) z₁ := fun A env s Q E rm e S h =>
  isTrue_not (h1 A env s _ _ rm e S h)
theorem Tz.plain {e : Expr} {b : Bool} (h1 : Ez X c n sc σ z e (.bool b) z₁) (hp : ∀ env whole, PySem.isTrue e env whole = (do let v ← whole; standAt e.pos; holding [v] (truthy v))) : Tz X c n sc σ z e b z₁ := fun A env s Q E rm e S h =>
  isTrue_plain (h1 A env s _ _ rm e S fun x h' tk k c r => by cases r; exact wpAny_truthy_bool (h h' tk k c)) (hp _ _)
theorem Ez.ifexp {t a b : Expr} {pos : Pos} {q : Bool} {v : PV} (h1 : Tz X c n sc σ z t q z₁) (h2 : q = true → Ez X c n sc σ z₁ a v z₂) (h3 : q = false → Ez X c n sc σ z₁ b v z₂) : Ez X c n sc σ z (.IfExp t a b pos) v z₂ := fun A env s Q E rm e S h => by
  rw [arm_eval_IfExp]
  refine wpAny_bind (h1 A env s _ _ rm e S fun h' tk k c1 => ?_)
  cases q with
  | true => exact h2 rfl A env _ _ _ rm e (S.step k c1) fun x h'' tk' k' c' r => h x h'' tk' (k.trans k') c' r
  | false => exact h3 rfl A env _ _ _ rm e (S.step k c1) fun x h'' tk' k' c' r => h x h'' tk' (k.trans k') c' r
/-- and, or as values -/
theorem Ez.bool1 {op : BoolOp} {e : Expr} {pos : Pos} {v : PV} (h1 : Ez X c n sc σ z e v z₁) : Ez X c n sc σ z (.BoolOp op [e] pos) v z₁ := fun A env s Q E rm e S h => by
  rw [arm_eval_BoolOp, arm_evalEach_cons, arm_evalEach_nil]
  unfold boolOp
  exact h1 A env s Q E rm e S h
theorem Ez.boolGo {op : BoolOp} {e e2 : Expr} {es : List Expr} {pos : Pos} {b : Bool} {v : PV} (h1 : Ez X c n sc σ z e (.bool b) z₁) (hb : (match op with | .And => b | .Or => !b) = true) (h2 : Ez X c n sc σ z₁ (.BoolOp op (e2 :: es) pos) v z₂) : Ez X c n sc σ z (.BoolOp op (e :: e2 :: es) pos) v z₂ := fun A env s Q E rm en S h => by
  rw [arm_eval_BoolOp, arm_evalEach_cons, arm_evalEach_cons]
  unfold boolOp
  refine wpAny_bind (h1 A env s _ _ rm en S fun x h' tk k1 c1 r1 => wpAny_bind (wpAny_standAt (wpAny_bind (wpAny_holding ?_))))
  cases r1
  refine wpAny_truthy_bool ?_
  have g := h2 A env { s with heap := h', toks := tk } Q E rm en (S.step k1 c1) fun x h'' tk' k' c' r => h x h'' tk' (k1.trans k') c' r
  rw [arm_eval_BoolOp, arm_evalEach_cons] at g
  cases op <;> cases b <;> first | exact g | exact absurd hb (by decide)
theorem Ez.boolStop {op : BoolOp} {e e2 : Expr} {es : List Expr} {pos : Pos} {b : Bool} (h1 : Ez X c n sc σ z e (.bool b) z₁) (hb : (match op with | .And => !b | .Or => b) = true) : Ez X c n sc σ z (.BoolOp op (e :: e2 :: es) pos) (.bool b) z₁ := fun A env s Q E rm en S h => by
  rw [arm_eval_BoolOp, arm_evalEach_cons, arm_evalEach_cons]
  unfold boolOp
  refine wpAny_bind (h1 A env s _ _ rm en S fun x h' tk k1 c1 r1 => wpAny_bind (wpAny_standAt (wpAny_bind (wpAny_holding ?_))))
  cases r1
  refine wpAny_truthy_bool ?_
  have g := h (.bool b) h' tk k1 c1 (.bool b)
  cases op <;> cases b <;> first | exact wpAny_pure g | exact absurd hb (by decide)
/-- and, or as tests -/
theorem Tz.bool1 {op : BoolOp} {e : Expr} {pos : Pos} {b : Bool} (h1 : Tz X c n sc σ z e b z₁) : Tz X c n sc σ z (.BoolOp op [e] pos) b z₁ := fun A env s Q E rm en S h => by
  rw [arm_isTrue_BoolOp, arm_allTrue_cons]
  refine wpAny_bind (h1 A env s _ _ rm en S fun h' tk k1 c1 => ?_)
  have g := h h' tk k1 c1
  cases op <;> cases b <;> exact wpAny_pure g
theorem Tz.boolGo {op : BoolOp} {e e2 : Expr} {es : List Expr} {pos : Pos} {b v : Bool} (h1 : Tz X c n sc σ z e b z₁) (hb : (match op with | .And => b | .Or => !b) = true) (h2 : Tz X c n sc σ z₁ (.BoolOp op (e2 :: es) pos) v z₂) : Tz X c n sc σ z (.BoolOp op (e :: e2 :: es) pos) v z₂ := fun A env s Q E rm en S h => by
  rw [arm_isTrue_BoolOp, arm_allTrue_cons]
  refine wpAny_bind (h1 A env s _ _ rm en S fun h' tk k1 c1 => ?_)
  have g := h2 A env { s with heap := h', toks := tk } Q E rm en (S.step k1 c1) fun h'' tk' k' c' => h h'' tk' (k1.trans k') c'
  rw [arm_isTrue_BoolOp] at g
  cases op <;> cases b <;> first | exact g | exact absurd hb (by decide)
theorem Tz.boolStop {op : BoolOp} {e e2 : Expr} {es : List Expr} {pos : Pos} {b : Bool} (h1 : Tz X c n sc σ z e b z₁) (hb : (match op with | .And => !b | .Or => b) = true) : Tz X c n sc σ z (.BoolOp op (e :: e2 :: es) pos) b z₁ := fun A env s Q E rm en S h => by
  rw [arm_isTrue_BoolOp, arm_allTrue_cons]
  refine wpAny_bind (h1 A env s _ _ rm en S fun h' tk k1 c1 => ?_)
  have g := h h' tk k1 c1
  cases op <;> cases b <;> first | exact wpAny_pure g | exact absurd hb (by decide)
theorem Ezs.nil : Ezs X c n sc σ z [] [] z := fun A env s pos Q E rm en S h => spliced_nil (h [] s.heap s.toks (KeepB.refl _ _) S.cell .nil)
theorem Ezs.cons {e : Expr} {es : List Expr} {v : PV} {vs : List PV} (h1 : Ez X c n sc σ z e v z₁) (h2 : Ezs X c n sc σ z₁ es vs z₂) (hs : plainE e = true) : Ezs X c n sc σ z (e :: es) (v :: vs) z₂ := fun A env s pos Q E rm en S h => by
  rw [star_cons hs]
  show wpAny _ A (spliced ((false, eval e env) :: backTo pos (starEach es env))) _ _ s
  exact spliced_cons (h1 A env s _ _ rm en S fun x h' tk k1 c1 r1 => h2 A env _ pos _ _ rm en (S.step k1 c1) fun xs h'' tk' k2 c2 r2 => h _ h'' tk' (k1.trans k2) c2 (.cons (r1.mono k2) r2))
theorem Reps.length {h : Heap} : ∀ {vs : List Value} {l : List PV}, Reps c h vs l → vs.length = l.length
  | _, _, .nil => rfl
  | _, _, .cons _ r => by rw [List.length_cons, List.length_cons, Reps.length r]
theorem fresh_none {h : Heap} : h.get? h.objs.size = none := by
  cases e : h.get? h.objs.size with
  | none => rfl
  | some o => exact absurd (Heap.lt_size e) (Nat.lt_irrefl _)
theorem WS.ne {h : Heap} (x : WS X c h) : c ≠ some h.objs.size := by
  intro e; obtain ⟨o, ho⟩ := x.2 _ e; rw [fresh_none] at ho; cases ho
theorem Ez.list {es : List Expr} {pos : Pos} {vs : List PV} (h1 : Ezs X c n sc σ z es vs z₁) (hl : vs.length ≤ 1000) : Ez X c n sc σ z (.List es pos) (.list vs) z₁ := fun A env s Q E rm en S h =>
  wpAny_List_spliced (h1 A env s pos _ _ rm en S fun xs h' tk k c1 r => ⟨by rw [r.length, sizeLine_eq]; omega, by
    have kp : KeepB Option.none h' (h'.push { cls := .type "list", data := .seq xs.toArray }) := .of _ fun b o e => Heap.get?_push_of_some _ e
    exact h _ _ tk (k.trans (kp.up c)) (c1.stepN kp) (.list ⟨_, Heap.get?_push_size _ rfl⟩ (S.step k c1).ws.ne (r.mono (kp.up c)))⟩)
theorem Ez.tup {es : List Expr} {pos : Pos} {kk : Nat} {vs : List PV} (h1 : Ezs X c n sc σ z es vs z₁) (hl : vs.length ≤ 1000) : Ez X c n sc σ z (.Tuple es kk pos) (.tup vs) z₁ := fun A env s Q E rm en S h =>
  wpAny_Tuple_spliced (h1 A env s pos _ _ rm en S fun xs h' tk k c1 r => ⟨by rw [r.length, sizeLine_eq]; omega, by
    have kp : KeepB Option.none h' (h'.push { cls := .type "tuple", data := .seq xs.toArray }) := .of _ fun b o e => Heap.get?_push_of_some _ e
    exact h _ _ tk (k.trans (kp.up c)) (c1.stepN kp) (.tup ⟨_, Heap.get?_push_size _ rfl, rfl, _, rfl⟩ (S.step k c1).ws.ne (r.mono (kp.up c)))⟩)
end
end Mine

namespace Mine
section
variable {X : Cx} {c : Option Addr} {n : Nat} {sc : Scope} {σ : Sig} {z z' z₁ z₂ : List PV}

theorem glob_ {A : Around} {env : Env} {s : Shared} {Q : Value → Shared → Prop} {E : Value → Shared → Prop} {x : Str} {pos : Pos} {v : Value} (en : EnvOk sc env) (g : Good X s.heap) (hk : sc.names.lookup x = some .globalImplicit) (hg : nsIn X.K mainGlobals x = some (some v))
    (hd : (x == ("__debug__" : Str)) = false) (h : Q v s) : wpAny (model X.prog X.w) A (eval (.Name x pos) env) Q E s :=
  Name_function_global en.kind (en.of hk) (loadGlobal_global (by rw [en.gl]; exact g.top.g) (mg_of g.kin g.top.g hg) h) hd
theorem globB_ {A : Around} {env : Env} {s : Shared} {Q : Value → Shared → Prop} {E : Value → Shared → Prop} {x : Str} {pos : Pos} {v : Value} (en : EnvOk sc env) (g : Good X s.heap) (hk : sc.names.lookup x = some .globalImplicit) (hg : nsIn X.K mainGlobals x = some Option.none)
    (hb : bootBuiltins x = some v) (hn : x ≠ "__name__") (hd : (x == ("__debug__" : Str)) = false) (h : Q v s) : wpAny (model X.prog X.w) A (eval (.Name x pos) env) Q E s :=
  Name_function_global en.kind (en.of hk) (loadGlobal_builtin (by rw [en.gl]; exact g.top.g) (mg_none_of g.kin g.top.g hg) (by rw [en.bi]; exact g.top.b) ((g.top.builtins x hn).trans hb) h) hd
theorem Ez.gname {x : Str} {pos : Pos} {v : Value} {p : PV} (hk : sc.names.lookup x = some .globalImplicit) (hg : nsIn X.K mainGlobals x = some (some v)) (hd : (x == ("__debug__" : Str)) = false) (hr : ∀ c h, Rep c h v p) : Ez X c n sc σ z (.Name x pos) p z := fun A env s Q E rm en S h =>
  glob_ en S.ws.good hk hg hd (h v s.heap s.toks (KeepB.refl _ _) S.cell (hr _ _))

theorem Ez.bname {x : Str} {pos : Pos} {T : String} (hk : sc.names.lookup x = some .globalImplicit) (hg : nsIn X.K mainGlobals x = some Option.none) (hb : bootBuiltins x = some (.type T)) (hn : x ≠ "__name__") (hd : (x == ("__debug__" : Str)) = false) : Ez X c n sc σ z (.Name x pos) (.ty T) z := fun A env s Q E rm en S h =>
  globB_ en S.ws.good hk hg hb hn hd (h _ s.heap s.toks (KeepB.refl _ _) S.cell (.ty _))

theorem evalArgs_ {M : Model} {A : Around} {E : Value → Shared → Prop} {s : Shared} {env : Env} {f : Value} {e : Expr} {es : List Expr} {pos : Pos} {Q : Args → Shared → Prop} (hs : plainE e = true)
    (h : wpAny M A (spliced (backTo pos (starEach (e :: es) env))) (fun vs s' => Q ⟨vs, []⟩ s') E s) : wpAny M A (evalArgs f true (backTo pos (starEach (e :: es) env)) []) Q E s := by
  rw [star_cons hs] at h ⊢
  exact evalArgs_plain h

theorem Ez.call {x : Str} {p pos : Pos} {f : Addr} {e : Expr} {es : List Expr} {vs : List PV} {v : PV} {k : Nat} (hk : sc.names.lookup x = some .globalImplicit) (hg : nsIn X.K mainGlobals x = some (some (.ref f))) (hd : (x == ("__debug__" : Str)) = false)
    (hs : plainE e = true) (h1 : Ezs X c n sc σ z (e :: es) vs z₁) (hf : Fn X k f vs v) (hle : k ≤ n) (hn : NoCells vs) (hv : Scalar v) : Ez X c n sc σ z (.Call (.Name x p) (e :: es) [] pos) v z₁ := fun A env s Q E rm en S h => by
  refine wpAny_Call_NameR (glob_ en S.ws.good hk hg hd ?_)
  obtain ⟨⟨o, fd, ho, hfd⟩, hf⟩ := hf
  refine callWith_function (o := o) (fd := fd) (evalArgs_ hs (h1 A env s pos _ _ rm en S fun xs h' tk k1 c1 r1 => ?_))
  have S1 := S.step k1 c1
  refine ⟨⟨S1.ws.good.kin _ _ ho, hfd⟩, ?_⟩
  exact hf A _ xs _ _ (rm.le hle) S1.ws.toNone (r1.toNone hn) fun x h'' tk' k2 r2 => h x h'' tk' (k1.trans (k2.up c)) (c1.stepN k2) (hv.rep r2)
theorem Ez.callz {a : Addr} {x : Str} {p pos : Pos} {f : Addr} {e : Expr} {es : List Expr} {vs : List PV} {v : PV} {k : Nat} (hk : sc.names.lookup x = some .globalImplicit) (hg : nsIn X.K mainGlobals x = some (some (.ref f))) (hd : (x == ("__debug__" : Str)) = false)
    (hs : plainE e = true) (h1 : Ezs X (some a) n sc σ z (e :: es) vs z₁) (hf : Fz X k f z₁ vs v z₂) (hle : k ≤ n) : Ez X (some a) n sc σ z (.Call (.Name x p) (e :: es) [] pos) v z₂ := fun A env s Q E rm en S h => by
  refine wpAny_Call_NameR (glob_ en S.ws.good hk hg hd ?_)
  obtain ⟨⟨o, fd, ho, hfd⟩, hf⟩ := hf
  refine callWith_function (o := o) (fd := fd) (evalArgs_ hs (h1 A env s pos _ _ rm en S fun xs h' tk k1 c1 r1 => ?_))
  have S1 := S.step k1 c1
  refine ⟨⟨S1.ws.good.kin _ _ ho, hfd⟩, ?_⟩
  exact hf a A _ xs _ _ (rm.le hle) S1.ws c1 r1 fun x h'' tk' k2 c2 r2 => h x h'' tk' (k1.trans k2) c2 r2
theorem Ez.callB {x : Str} {p pos : Pos} {id : String} {e : Expr} {es : List Expr} {vs : List PV} {v : PV} (hk : sc.names.lookup x = some .globalImplicit) (hg : nsIn X.K mainGlobals x = some Option.none) (hb : bootBuiltins x = some (.builtin id)) (hn : x ≠ "__name__") (hd : (x == ("__debug__" : Str)) = false)
    (hs : (e :: es).all plainE = true) (h1 : Ezs X c n sc σ z (e :: es) vs z₁) (hf : Bi X (.builtin id) vs v) : Ez X c n sc σ z (.Call (.Name x p) (e :: es) [] pos) v z₁ := fun A env s Q E rm en S h => by
  refine wpAny_Call_NameR (globB_ en S.ws.good hk hg hb hn hd ?_)
  refine callWith_builtin (star_any hs) (evalArgs_ (by rw [List.all_cons, Bool.and_eq_true] at hs; exact hs.1) (h1 A env s pos _ _ rm en S fun xs h' tk k1 c1 r1 => ?_))
  exact hf c A { s with heap := h', toks := tk } xs _ _ rm.zero (S.step k1 c1).ws r1 fun x h'' tk' k2 r2 => h x h'' tk' (k1.trans (k2.up c)) (c1.stepN k2) r2
theorem Ez.callT {x : Str} {p pos : Pos} {id : String} {e : Expr} {es : List Expr} {vs : List PV} {v : PV} (hk : sc.names.lookup x = some .globalImplicit) (hg : nsIn X.K mainGlobals x = some Option.none) (hb : bootBuiltins x = some (.type id)) (hn : x ≠ "__name__") (hd : (x == ("__debug__" : Str)) = false)
    (hs : (e :: es).all plainE = true) (h1 : Ezs X c n sc σ z (e :: es) vs z₁) (hf : Bi X (.type id) vs v) : Ez X c n sc σ z (.Call (.Name x p) (e :: es) [] pos) v z₁ := fun A env s Q E rm en S h => by
  refine wpAny_Call_NameR (globB_ en S.ws.good hk hg hb hn hd ?_)
  refine PyProof.Rows.callWith_type (star_any hs) (evalArgs_ (by rw [List.all_cons, Bool.and_eq_true] at hs; exact hs.1) (h1 A env s pos _ _ rm en S fun xs h' tk k1 c1 r1 => ?_))
  exact hf c A { s with heap := h', toks := tk } xs _ _ rm.zero (S.step k1 c1).ws r1 fun x h'' tk' k2 r2 => h x h'' tk' (k1.trans (k2.up c)) (c1.stepN k2) r2

-- int operations
theorem Bin.add {a b : Int} : BinOk X .Add (.int a) (.int b) (.int (a + b)) := fun c A s x y Q E rm w ra rb h => by
  cases ra; cases rb; exact add_int (h _ s.heap _ (KeepB.refl _ _) (.int ..))
theorem Bin.sub {a b : Int} : BinOk X .Sub (.int a) (.int b) (.int (a - b)) := fun c A s x y Q E rm w ra rb h => by
  cases ra; cases rb; exact sub_int (h _ s.heap _ (KeepB.refl _ _) (.int ..))
theorem Bin.mul {a b : Int} (hm : IntMulOk a b) : BinOk X .Mult (.int a) (.int b) (.int (a * b)) := fun c A s x y Q E rm w ra rb h => by
  cases ra; cases rb; exact mul_int (h _ s.heap _ (KeepB.refl _ _) (.int ..)) hm
theorem Bin.mod {a b : Int} (hb : b ≠ 0) : BinOk X .Mod (.int a) (.int b) (.int (a.fmod b)) := fun c A s x y Q E rm w ra rb h => by
  cases ra; cases rb; exact mod_int' hb (h _ s.heap _ (KeepB.refl _ _) (.int ..))
theorem Bin.div {a b : Int} (hb : b ≠ 0) (hp : Builtin.divisionGoesByPylong a b = false) : BinOk X .FloorDiv (.int a) (.int b) (.int (a.fdiv b)) := fun c A s x y Q E rm w ra rb h => by
  cases ra; cases rb; exact floordiv_int hb (h _ s.heap _ (KeepB.refl _ _) (.int ..)) (.inl hp)
theorem Bin.pow {a b : Int} (hb : 0 ≤ b) (hp : (Builtin.Int.intBits a : Int) * b ≤ 2 ^ 27) : BinOk X .Pow (.int a) (.int b) (.int (a ^ b.toNat)) := fun c A s x y Q E rm w ra rb h => by
  cases ra; cases rb; exact pow_int hb hp (h _ s.heap _ (KeepB.refl _ _) (.int ..))
theorem Bin.and {a b : Int} : BinOk X .BitAnd (.int a) (.int b) (.int (Builtin.bitAnd a b)) := fun c A s x y Q E rm w ra rb h => by
  cases ra; cases rb; exact and_int (h _ s.heap _ (KeepB.refl _ _) (.int ..))
theorem Bin.or {a b : Int} : BinOk X .BitOr (.int a) (.int b) (.int (Builtin.bitOr a b)) := fun c A s x y Q E rm w ra rb h => by
  cases ra; cases rb; exact or_int (h _ s.heap _ (KeepB.refl _ _) (.int ..))
theorem Bin.xor {a b : Int} : BinOk X .BitXor (.int a) (.int b) (.int (Builtin.bitXor a b)) := fun c A s x y Q E rm w ra rb h => by
  cases ra; cases rb; exact xor_int (h _ s.heap _ (KeepB.refl _ _) (.int ..))
theorem Bin.shr {a b : Int} (hb : 0 ≤ b) : BinOk X .RShift (.int a) (.int b) (.int (a.fdiv (2 ^ b.toNat))) := fun c A s x y Q E rm w ra rb h => by
  cases ra; cases rb; exact rshift_int hb (h _ s.heap _ (KeepB.refl _ _) (.int ..))
theorem Bin.shl {a b : Int} (hb : 0 ≤ b) (hp : (Builtin.Int.intBits a : Int) + b ≤ 2 ^ 27) : BinOk X .LShift (.int a) (.int b) (.int (a * 2 ^ b.toNat)) := fun c A s x y Q E rm w ra rb h => by
  cases ra; cases rb; exact lshift_int_or rm.1 (fun hn => absurd hb (by omega)) (fun _ => hp) (fun _ => h _ s.heap _ (KeepB.refl _ _) (.int ..))
theorem Un.neg {a : Int} : UnOk X .USub (.int a) (.int (-a)) := fun c A s x Q E rm w ra h => by
  cases ra; exact neg_int (h _ s.heap _ (KeepB.refl _ _) (.int ..))
theorem Un.inv {a : Int} : UnOk X .Invert (.int a) (.int (Builtin.bitNot a)) := fun c A s x Q E rm w ra h => by
  cases ra; exact invert_int (h _ s.heap _ (KeepB.refl _ _) (.int ..))
theorem Un.not {a : Bool} : UnOk X .Not (.bool a) (.bool (!a)) := fun c A s x Q E rm w ra h => by
  cases ra; exact not_of (wpAny_truthy_bool (h _ s.heap _ (KeepB.refl _ _) (.bool ..)))
theorem Cmp.lt {a b : Int} : CmpOk X .Lt (.int a) (.int b) (decide (a < b)) := fun c A s x y Q E rm w ra rb h => by
  cases ra; cases rb; exact lt_int (h s.heap _ (KeepB.refl _ _))
theorem Cmp.le {a b : Int} : CmpOk X .LtE (.int a) (.int b) (decide (a ≤ b)) := fun c A s x y Q E rm w ra rb h => by
  cases ra; cases rb; exact le_int (h s.heap _ (KeepB.refl _ _))
theorem Cmp.gt {a b : Int} : CmpOk X .Gt (.int a) (.int b) (decide (b < a)) := fun c A s x y Q E rm w ra rb h => by
  cases ra; cases rb; exact gt_int (h s.heap _ (KeepB.refl _ _))
theorem Cmp.ge {a b : Int} : CmpOk X .GtE (.int a) (.int b) (decide (b ≤ a)) := fun c A s x y Q E rm w ra rb h => by
  cases ra; cases rb; exact ge_int (h s.heap _ (KeepB.refl _ _))
theorem Cmp.eq {a b : Int} : CmpOk X .Eq (.int a) (.int b) (decide (a = b)) := fun c A s x y Q E rm w ra rb h => by
  cases ra; cases rb; exact eq_int (by rw [show (a == b) = decide (a = b) from rfl]; exact h s.heap _ (KeepB.refl _ _))
theorem Cmp.ne {a b : Int} : CmpOk X .NotEq (.int a) (.int b) (!decide (a = b)) := fun c A s x y Q E rm w ra rb h => by
  cases ra; cases rb; exact ne_int (by rw [show (a != b) = !decide (a = b) from rfl]; exact h s.heap _ (KeepB.refl _ _))
theorem Cmp.eqS {a b : Str} : CmpOk X .Eq (.str a) (.str b) (a == b) := fun c A s x y Q E rm w ra rb h => by
  cases ra; cases rb; exact eq_str (h s.heap _ (KeepB.refl _ _))
def mx (a b : Int) : Int := if b > a then b else a
def mn (a b : Int) : Int := if b < a then b else a
theorem mx_eq (a b : Int) : mx a b = max a b := by unfold mx; omega
theorem mn_eq (a b : Int) : mn a b = min a b := by unfold mn; omega
def ab (a : Int) : Int := if a < 0 then -a else a
theorem ab_eq (a : Int) : ab a = a.natAbs := by unfold ab; omega
theorem ab_nn (a : Int) : 0 ≤ ab a := by unfold ab; omega
theorem ab_ne {a : Int} (h : a ≠ 0) : ab a ≠ 0 := by unfold ab; omega
theorem Bi.abs {a : Int} : Bi X (.builtin "abs") [.int a] (.int (ab a)) := fun c A s xs Q E rm w r h => by
  obtain _ | ⟨r1, r2⟩ := r; cases r1; cases r2; unfold ab at h; exact call_abs_int fun u tk => h _ s.heap _ (KeepB.refl _ _) (.int ..)
theorem Bi.max {a b : Int} : Bi X (.builtin "max") [.int a, .int b] (.int (mx a b)) := fun c A s xs Q E rm w r h => by
  obtain _ | ⟨r1, r2⟩ := r; obtain _ | ⟨r2, r3⟩ := r2; cases r1; cases r2; cases r3
  exact max_two_ints rm.1 fun h' tk k => h _ h' tk (KeepB.of _ k) (by first | (unfold mx; split <;> exact .int ..) | (unfold mn; split <;> exact .int ..))
theorem Bi.min {a b : Int} : Bi X (.builtin "min") [.int a, .int b] (.int (mn a b)) := fun c A s xs Q E rm w r h => by
  obtain _ | ⟨r1, r2⟩ := r; obtain _ | ⟨r2, r3⟩ := r2; cases r1; cases r2; cases r3
  exact min_two_ints rm.1 fun h' tk k => h _ h' tk (KeepB.of _ k) (by first | (unfold mx; split <;> exact .int ..) | (unfold mn; split <;> exact .int ..))
theorem Bi.isIntInt {a : Int} : Bi X (.builtin "isinstance") [.int a, .ty "int"] (.bool true) := fun c A s xs Q E rm w r h => by
  obtain _ | ⟨r1, r2⟩ := r; obtain _ | ⟨r2, r3⟩ := r2; cases r1; cases r2; cases r3
  exact IsiPair.int_int (h _ s.heap _ (KeepB.refl _ _) (.bool ..))
theorem Bi.isIntBool {a : Int} : Bi X (.builtin "isinstance") [.int a, .ty "bool"] (.bool false) := fun c A s xs Q E rm w r h => by
  obtain _ | ⟨r1, r2⟩ := r; obtain _ | ⟨r2, r3⟩ := r2; cases r1; cases r2; cases r3
  exact IsiPair.int_bool (h _ s.heap _ (KeepB.refl _ _) (.bool ..))
theorem Bi.lenL {l : List PV} (hl : l.length < 2 ^ 40) : Bi X (.builtin "len") [.list l] (.int l.length) := fun c A s xs Q E rm w r h => by
  obtain _ | ⟨r1, r2⟩ := r; cases r2
  cases r1 with | list a b r => exact call_len_list a.isList (by simp [r.length]; omega) (by simpa [r.length] using h _ s.heap (s.toks + 1 + 1) (KeepB.refl _ _) (.int (l.length) (s.toks + 1)))
theorem Bi.lenS {x : Str} (hl : x.length < 2 ^ 40) : Bi X (.builtin "len") [.str x] (.int x.length) := fun c A s xs Q E rm w r h => by
  obtain _ | ⟨r1, r2⟩ := r; cases r2; cases r1
  exact len_str (by omega) (h _ s.heap _ (KeepB.refl _ _) (.int ..))
end
end Mine

namespace Mine

inductive FV where
  | next | ret (v : PV)
inductive FlowRep (c : Option Addr) (h : Heap) : Flow → FV → Prop
  | next : FlowRep c h .next .next
  | ret {x : Value} {v : PV} : Rep c h x v → FlowRep c h (.ret x) (.ret v)
def KeepL (c : Option Addr) (env : Env) (h h' : Heap) : Prop := ∀ b o, c ≠ some b → b ≠ env.locals → (∀ p ∈ env.cells, b ≠ p.2) → h.get? b = some o → h'.get? b = some o
theorem KeepB.toL {c : Option Addr} {env : Env} {h h' : Heap} (k : KeepB c h h') : KeepL c env h h' := fun b o n _ _ e => k b o n e
theorem KeepL.trans {c : Option Addr} {env : Env} {h h' h'' : Heap} (a : KeepL c env h h') (b : KeepL c env h' h'') : KeepL c env h h'' := fun x o n m q e => b x o n m q (a x o n m q e)
theorem KeepL.refl (c : Option Addr) (env : Env) (h : Heap) : KeepL c env h h := fun _ _ _ _ _ e => e

/-- what the frame's own objects are -/
def OwnAt (h : Heap) (env : Env) : Prop := (∃ m, h.Ns env.locals m) ∧ ∀ p ∈ env.cells, ∃ v, h.IsCell p.2 v
theorem Loc.own {c : Option Addr} {h : Heap} {env : Env} {σ : Sig} (x : Loc c h env σ) : OwnAt h env := ⟨let ⟨m, hn, _⟩ := x.vals; ⟨m, hn⟩, fun p hp => (x.cells p hp).2⟩
theorem ns_ne {h : Heap} {L a : Addr} {m : Str → Option Value} {xs : Array Value} {T : String} (hn : h.Ns L m) (p : ∃ o, h.get? a = some o ∧ o.cls = .type T ∧ ∃ n, o.data = .seq xs n) : a ≠ L := by
  rintro rfl
  obtain ⟨o, es, ep, ho, hd, _⟩ := hn
  obtain ⟨o', ho', _, n, hd'⟩ := p
  rw [ho] at ho'; cases ho'; rw [hd] at hd'; cases hd'
theorem cell_ne {h : Heap} {a b : Addr} {v : Option Value} {xs : Array Value} {T : String} (hn : h.IsCell b v) (p : ∃ o, h.get? a = some o ∧ o.cls = .type T ∧ ∃ n, o.data = .seq xs n) : a ≠ b := by
  rintro rfl
  obtain ⟨o, ho, hd⟩ := hn
  obtain ⟨o', ho', _, n, hd'⟩ := p
  rw [ho] at ho'; cases ho'; rw [hd] at hd'; cases hd'
theorem OwnAt.off {h : Heap} {env : Env} {a : Addr} {xs : Array Value} {T : String} (x : OwnAt h env) (p : ∃ o, h.get? a = some o ∧ o.cls = .type T ∧ ∃ n, o.data = .seq xs n) : a ≠ env.locals ∧ ∀ q ∈ env.cells, a ≠ q.2 :=
  ⟨let ⟨_, hn⟩ := x.1; ns_ne hn p, fun q hq => let ⟨_, hc⟩ := x.2 q hq; cell_ne hc p⟩
mutual
theorem Rep.monoL {c : Option Addr} {env : Env} {h h' : Heap} (hn : OwnAt h env) (k : KeepL c env h h') : ∀ {v : Value} {p : PV}, Rep c h v p → Rep c h' v p
  | _, _, .none => .none
  | _, _, .bool b => .bool b
  | _, _, .int n t => .int n t
  | _, _, .str x t => .str x t
  | _, _, .list a b r => .list (a.at fun o e => k _ o b (hn.off a.isList).1 (hn.off a.isList).2 e) b (Reps.monoL hn k r)
  | _, _, .tup a b r => .tup (a.at fun o e => k _ o b (hn.off a).1 (hn.off a).2 e) b (Reps.monoL hn k r)
  | _, _, .cell e => .cell e
  | _, _, .ty x => .ty x
  | _, _, .xl a b r => .xl (a.at fun o e => k _ o b (hn.off a).1 (hn.off a).2 e) b (Reps.monoL hn k r)
theorem Reps.monoL {c : Option Addr} {env : Env} {h h' : Heap} (hn : OwnAt h env) (k : KeepL c env h h') : ∀ {vs : List Value} {l : List PV}, Reps c h vs l → Reps c h' vs l
  | _, _, .nil => .nil
  | _, _, .cons a r => .cons (Rep.monoL hn k a) (Reps.monoL hn k r)
end
theorem SS.sub {X : Cx} {c : Option Addr} {env : Env} {σ τ : Sig} {z : List PV} {h : Heap} (x : SS X c env τ z h) (s : SubSig σ τ) : SS X c env σ z h := ⟨x.base, x.loc.sub s, x.cell⟩
theorem ns_uniq {h : Heap} {L : Addr} {m m' : Str → Option Value} (hm : h.Ns L m) (hm' : h.Ns L m') : m' = m := funext fun y => by
  obtain ⟨o, es, ep, ho, hd, hkk, hmm⟩ := hm
  obtain ⟨o', es', ep', ho', hd', hkk', hmm'⟩ := hm'
  rw [ho] at ho'; cases ho'; rw [hd] at hd'; cases hd'
  rw [← hmm, ← hmm']
theorem ns_cell {h : Heap} {L a : Addr} {m : Str → Option Value} {v : Option Value} (hn : h.Ns L m) (hc : h.IsCell a v) : a ≠ L := by
  rintro rfl
  obtain ⟨o, es, ep, ho, hd, _⟩ := hn
  obtain ⟨o', ho', hd'⟩ := hc
  rw [ho] at ho'; cases ho'; rw [hd] at hd'; cases hd'
/-- what a store leaves as it was: all but one of the frame's own objects -/
theorem SS.put {X : Cx} {c : Option Addr} {env : Env} {σ : Sig} {z : List PV} {h h' : Heap} {x : Str} {val : Value} {v : PV} (S : SS X c env σ z h) (r : Rep c h val v) (k0 : KeepL Option.none env h h')
    (hcells : ∀ p ∈ env.cells, ∃ v, h'.IsCell p.2 v) (hn : ∃ m, h'.Ns env.locals m ∧ Holds1 h' env m x val ∧ ∀ m₀, h.Ns env.locals m₀ → ∀ y u, y ≠ x → Holds1 h env m₀ y u → Holds1 h' env m y u) : SS X c env ((x, v) :: σ) z h' := by
  have ow := S.loc.own
  have k : KeepL c env h h' := fun b o _ n m e => k0 b o (by intro q; cases q) n m e
  obtain ⟨m', hm', hx, hy⟩ := hn
  obtain ⟨m, hm, hl⟩ := S.loc.vals
  refine ⟨?_, ⟨S.loc.off, fun p hp => ⟨(S.loc.cells p hp).1, hcells p hp⟩, S.loc.apart, m', hm', ?_⟩, ?_⟩
  · obtain ⟨h₀, g, q⟩ := S.base
    exact ⟨h₀, g, fun b o e => ⟨k b o (q b o e).2.1 (q b o e).2.2.1 (q b o e).2.2.2 (q b o e).1, (q b o e).2⟩⟩
  · intro y u e
    rw [List.lookup_cons] at e
    split at e
    · rename_i b
      cases e
      have := eq_of_beq b
      subst this
      exact ⟨val, r.monoL ow k, hx⟩
    · rename_i b
      obtain ⟨w, a, b'⟩ := hl y u e
      exact ⟨w, a.monoL ow k, hy m hm y w (by intro q; subst q; simp at b) b'⟩
  · cases hc : c with
    | none => have := S.cell; rw [hc] at this; exact this
    | some a =>
      have := S.cell
      rw [hc] at this
      obtain ⟨vs, p, rr, pp⟩ := this
      have hoff : (a ≠ env.locals) ∧ ∀ q ∈ env.cells, a ≠ q.2 := ⟨fun q => S.loc.off (by rw [hc, q]), fun q hq e => (S.loc.cells q hq).1 (by rw [hc, e])⟩
      subst hc
      exact ⟨vs, p.at fun o e => k0 _ o (by intro q; cases q) hoff.1 hoff.2 e, rr.monoL ow k, fun y => (pp y).at fun o e => k0 _ o (by intro q; cases q) hoff.1 hoff.2 e⟩
def Sx (X : Cx) (c : Option Addr) (n : Nat) (sc : Scope) (σ : Sig) (z : List PV) (st : List Stmt) (R : FV → Sig → List PV → Prop) : Prop :=
  ∀ (A : Around) (env : Env) (s : Shared) (Q : Flow → Shared → Prop) (E : Value → Shared → Prop), Room n A → EnvOk sc env → SS X c env σ z s.heap → PassesOwn (model X.prog X.w) A env E →
    (∀ f fv σ' z' h' tk, KeepL c env s.heap h' → SS X c env σ' z' h' → FlowRep c h' f fv → R fv σ' z' → Q f { s with heap := h', toks := tk }) → wpAny (model X.prog X.w) A (execs st env) Q E s
/-- the target of an assignment takes a value -/
def Az (X : Cx) (c : Option Addr) (n : Nat) (sc : Scope) (σ : Sig) (z : List PV) (t : Expr) (v : PV) (τ : Sig) : Prop :=
  ∀ (A : Around) (env : Env) (s : Shared) (x : Value) (Q : Unit → Shared → Prop) (E : Value → Shared → Prop), Room n A → EnvOk sc env → SS X c env σ z s.heap → Rep c s.heap x v →
    (∀ h' tk, KeepL c env s.heap h' → SS X c env τ z h' → Q () { s with heap := h', toks := tk }) → wpAny (model X.prog X.w) A (assign t env x) Q E s
def thenR (X : Cx) (c : Option Addr) (n : Nat) (sc : Scope) (rest : List Stmt) (R : FV → Sig → List PV → Prop) : FV → Sig → List PV → Prop := fun fv σ z => match fv with
  | .next => Sx X c n sc σ z rest R
  | .ret v => R (.ret v) σ z
section
variable {X : Cx} {c : Option Addr} {n : Nat} {sc : Scope} {σ σ' τ : Sig} {z z' z₁ z₂ : List PV} {R : FV → Sig → List PV → Prop} {rest : List Stmt}

theorem store_ {A : Around} {env : Env} {s : Shared} {x : Str} {val : Value} {v : PV} {Q : Unit → Shared → Prop} {E : Value → Shared → Prop} (en : EnvOk sc env) (S : SS X c env σ z s.heap) (r : Rep c s.heap val v) (hk : own sc x = true)
    (h : ∀ h' tk, KeepL c env s.heap h' → SS X c env ((x, v) :: σ) z h' → Q () { s with heap := h', toks := tk }) : wpAny (model X.prog X.w) A (storeName env x val) Q E s := by
  obtain ⟨m, hm, hl⟩ := id S.loc.vals
  rcases own_or hk with hk | hk
  · refine wpAny_storeName_local (en.of hk) hm (fun h' hn hs => ?_) (by rw [en.kind]; rfl)
    have k0 : KeepL Option.none env s.heap h' := fun b o _ ne _ e => (hs.2 b ne).trans e
    have kc : ∀ p ∈ env.cells, ∀ o, s.heap.get? p.2 = some o → h'.get? p.2 = some o := fun p hp o e => (hs.2 _ (let ⟨_, hc⟩ := (S.loc.cells p hp).2; ns_cell hm hc)).trans e
    refine h h' _ (fun b o _ n m e => k0 b o (by intro q; cases q) n m e) (S.put r k0 (fun p hp => let ⟨v, o, ho, hd⟩ := (S.loc.cells p hp).2; ⟨v, o, kc p hp o ho, hd⟩) ⟨_, hn, ?_, ?_⟩)
    · unfold Holds1; rw [en.plain x hk]; simp
    · intro m₀ hm₀ y u hne hy
      rw [ns_uniq hm hm₀] at hy
      unfold Holds1 at hy ⊢
      cases e : env.cells.lookup y with
      | none => rw [e] at hy; simpa [hne] using hy
      | some ca => rw [e] at hy; obtain ⟨o, ho, hd⟩ := hy; exact ⟨o, kc _ (mem_of_lookup e) o ho, hd⟩
  · obtain ⟨ca, hc⟩ := en.held x hk
    obtain ⟨v₀, hv₀⟩ := (S.loc.cells _ (mem_of_lookup hc)).2
    refine wpAny_storeName_cell en.kind (en.of hk) hc hv₀ fun h' hv hs => ?_
    have k0 : KeepL Option.none env s.heap h' := fun b o _ _ ne e => (hs.2 b (ne _ (mem_of_lookup hc))).trans e
    refine h h' _ (fun b o _ n m e => k0 b o (by intro q; cases q) n m e) (S.put r k0 (fun p hp => ?_) ⟨m, hm.at' fun o e => (hs.2 _ (Ne.symm (ns_cell hm hv₀))).trans e, ?_, ?_⟩)
    · by_cases e : p.2 = ca
      · exact ⟨_, e ▸ hv⟩
      · obtain ⟨v, hw⟩ := (S.loc.cells p hp).2
        exact ⟨v, hw.sameBut hs e⟩
    · unfold Holds1; rw [hc]; exact hv
    · intro m₀ hm₀ y u hne hy
      rw [ns_uniq hm hm₀] at hy
      unfold Holds1 at hy ⊢
      cases e : env.cells.lookup y with
      | none => rw [e] at hy; exact hy
      | some cb =>
        rw [e] at hy
        exact hy.sameBut hs fun q => hne (S.loc.apart _ _ _ e (q ▸ hc))

theorem Sx.nil (h : R .next σ z) : Sx X c n sc σ z [] R := fun A env s Q E rm en S pe hQ => wpAny_execs_nil (hQ _ _ σ z s.heap s.toks (KeepL.refl _ _ _) S .next h)
theorem Sx.ret {e : Expr} {pos : Pos} {v : PV} (h1 : Ez X c n sc σ z e v z₁) (h : R (.ret v) σ z₁) : Sx X c n sc σ z (.Return (some e) pos :: rest) R := fun A env s Q E rm en S pe hQ =>
  wpAny_execs_cons (wpAny_Return_some (h1 A env s _ _ rm en S fun x h' tk k c1 r => hQ _ _ σ z₁ h' tk k.toL (S.step k c1) (.ret r) h))
theorem Sx.assign {e : Expr} {x : Str} {p pos : Pos} {v : PV} (h1 : Ez X c n sc σ z e v z₁) (hk : own sc x = true) (hs : ∀ env, swapsWith e (some (.Name x p)) pos.line env = pure false) (h : Sx X c n sc ((x, v) :: σ) z₁ rest R) : Sx X c n sc σ z (.Assign [.Name x p] e pos :: rest) R := fun A env s Q E rm en S pe hQ =>
  wpAny_execs_cons (wpAny_Assign_Name (h1 A env s _ _ rm en S fun y h' tk k c1 r => store_ en (S.step k c1) r hk fun h'' tk' k' S' =>
    h A env { s with heap := h'', toks := tk' } Q E rm en S' pe fun f fv σ' z' h3 tk3 k3 S3 fr hr => hQ f fv σ' z' h3 tk3 ((k.toL.trans k').trans k3) S3 fr hr) (hs env))
theorem Sx.expr {e : Expr} {pos : Pos} (h1 : Ez X c n sc σ z e .none z₁) (hs : ∀ env, swapsWith e Option.none pos.line env = pure false) (h : Sx X c n sc σ z₁ rest R) : Sx X c n sc σ z (.Expr e pos :: rest) R := fun A env s Q E rm en S pe hQ =>
  wpAny_execs_cons (wpAny_Expr (h1 A env s _ _ rm en S fun y h' tk k c1 r => by
    cases r
    exact h A env { s with heap := h', toks := tk } Q E rm en (S.step k c1) pe fun f fv σ' z' h3 tk3 k3 S3 fr hr => hQ f fv σ' z' h3 tk3 (k.toL.trans k3) S3 fr hr) (by unfold interactive; rw [en.kind]; rfl) (hs env))
theorem Sx.then (h : Sx X c n sc σ z (rest : List Stmt) (thenR X c n sc rest' R)) {A : Around} {env : Env} {s : Shared} {Q : Flow → Shared → Prop} {E : Value → Shared → Prop} (rm : Room n A) (en : EnvOk sc env) (S : SS X c env σ z s.heap) (pe : PassesOwn (model X.prog X.w) A env E)
    (hQ : ∀ f fv σ' z' h' tk, KeepL c env s.heap h' → SS X c env σ' z' h' → FlowRep c h' f fv → R fv σ' z' → Q f { s with heap := h', toks := tk }) :
    wpAny (model X.prog X.w) A (execs rest env) (fun f s' => match f with | .next => wpAny (model X.prog X.w) A (execs rest' env) Q E s' | f => Q f s') E s :=
  h A env s _ E rm en S pe fun f fv σ' z' h' tk k S' fr hr => by
    cases fr with
    | next => exact hr A env { s with heap := h', toks := tk } Q E rm en S' pe fun f fv σ2 z2 h2 tk2 k2 S2 fr2 hr2 => hQ f fv σ2 z2 h2 tk2 (k.trans k2) S2 fr2 hr2
    | ret r => exact hQ _ _ σ' z' h' tk k S' (.ret r) hr
theorem Sx.if {t : Expr} {body orelse : List Stmt} {pos : Pos} {b : Bool} (h1 : Tz X c n sc σ z t b z₁) (h2 : b = true → Sx X c n sc σ z₁ body (thenR X c n sc rest R)) (h3 : b = false → Sx X c n sc σ z₁ orelse (thenR X c n sc rest R)) : Sx X c n sc σ z (.If t body orelse pos :: rest) R := fun A env s Q E rm en S pe hQ =>
  wpAny_execs_cons (wpAny_If (h1 A env s _ _ rm en S fun h' tk k c1 => by
    have hQ' : ∀ f fv σ' z' h'' tk, KeepL c env h' h'' → SS X c env σ' z' h'' → FlowRep c h'' f fv → R fv σ' z' → Q f { s with heap := h'', toks := tk } := fun f fv σ' z' h3 tk3 k3 S3 fr hr => hQ f fv σ' z' h3 tk3 (k.toL.trans k3) S3 fr hr
    cases b with
    | true => exact (h2 rfl).then rm en (S.step k c1) pe hQ'
    | false => exact (h3 rfl).then rm en (S.step k c1) pe hQ'))
theorem Sx.iff {t : Expr} {body : List Stmt} {pos : Pos} (h1 : Tz X c n sc σ z t false z₁) (h3 : Sx X c n sc σ z₁ rest R) : Sx X c n sc σ z (.If t body [] pos :: rest) R :=
  .if h1 (fun h => by cases h) fun _ => .nil h3
theorem Sx.ift {t : Expr} {body orelse : List Stmt} {pos : Pos} (h1 : Tz X c n sc σ z t true z₁) (h3 : Sx X c n sc σ z₁ body (thenR X c n sc rest R)) : Sx X c n sc σ z (.If t body orelse pos :: rest) R :=
  .if h1 (fun _ => h3) fun h => by cases h
theorem Sx.sub (s : SubSig σ τ) (h : Sx X c n sc σ z rest R) : Sx X c n sc τ z rest R := fun A env s' Q E rm en S pe hQ => h A env s' Q E rm en (S.sub s) pe hQ
theorem Sx.mono {R' : FV → Sig → List PV → Prop} (h : Sx X c n sc σ z rest R) (hr : ∀ f σ z, R f σ z → R' f σ z) : Sx X c n sc σ z rest R' := fun A env s' Q E rm en S pe hQ => h A env s' Q E rm en S pe fun f fv σ' z' h' tk k S' fr r => hQ f fv σ' z' h' tk k S' fr (hr _ _ _ r)

theorem Az.name {x : Str} {pos : Pos} {v : PV} (hk : own sc x = true) : Az X c n sc σ z (.Name x pos) v ((x, v) :: σ) := fun A env s y Q E rm en S r h =>
  wpAny_assign_Name (store_ en S r hk h)
def addAll (σ : Sig) : List Str → List PV → Sig
  | x :: xs, v :: vs => addAll ((x, v) :: σ) xs vs
  | _, _ => σ
theorem inOrder_ : ∀ (xs : List Str) (vs : List PV) (vals : List Value) (σ : Sig) {A : Around} {env : Env} {s : Shared} {Q : Unit → Shared → Prop} {E : Value → Shared → Prop}, EnvOk sc env → SS X c env σ z s.heap → Reps c s.heap vals vs → (∀ x ∈ xs, own sc x = true) →
    (∀ h' tk, KeepL c env s.heap h' → SS X c env (addAll σ xs vs) z h' → Q () { s with heap := h', toks := tk }) → wpAny (model X.prog X.w) A (assignInOrder (xs.map fun n => bindName env n) vals) Q E s
  | [], vs, vals, σ, A, env, s, Q, E, en, S, r, hx, h => by
    cases vals <;> exact wpAny_pure (h s.heap s.toks (KeepL.refl _ _ _) (by cases vs <;> exact S))
  | x :: xs, vs, vals, σ, A, env, s, Q, E, en, S, r, hx, h => by
    cases r with
    | nil => exact wpAny_pure (h s.heap s.toks (KeepL.refl _ _ _) S)
    | cons r rs =>
      show wpAny _ A (do holding _ (bindName env x _); assignInOrder _ _) _ _ s
      refine wpAny_bind (wpAny_holding (wpAny_bindName (store_ en S r (hx x (.head _)) fun h' tk k S' => ?_)))
      exact inOrder_ xs _ _ _ en S' (rs.monoL S.loc.own k) (fun y hy => hx y (.tail _ hy)) fun h'' tk' k' S'' => h h'' tk' (k.trans k') S''
theorem unpack_ {A : Around} {s : Shared} {a : Value} {vs : List PV} {Q : List Value → Shared → Prop} {E : Value → Shared → Prop} {k : Nat} (rm : Room n A) (r : Rep c s.heap a (.tup vs)) (hk : vs.length = k)
    (h : ∀ vals h', KeepB Option.none s.heap h' → Reps c h' vals vs → Q vals { s with heap := h' }) : wpAny (model X.prog X.w) A (unpackItems a k Option.none) Q E s := by
  cases r with
  | tup p q r =>
    rename_i a vals
    have hl : (vals.toArray).size = k := by simp [r.length, hk]
    rw [← hl]
    refine wpAny_unpackItems_tuple rm.1 p fun h' e => ?_
    have kk : KeepB Option.none s.heap h' := .of _ fun b o q => e b o (Nat.ne_of_lt (Heap.lt_size q)) q
    simpa using h vals h' kk (r.mono (kk.up c))
theorem Reps.rev {h : Heap} : ∀ {vs : List Value} {l : List PV}, Reps c h vs l → Reps c h vs.reverse l.reverse := by
  intro vs l r
  have app : ∀ {vs₁ vs₂ : List Value} {l₁ l₂ : List PV}, Reps c h vs₁ l₁ → Reps c h vs₂ l₂ → Reps c h (vs₁ ++ vs₂) (l₁ ++ l₂) := by
    intro vs₁ vs₂ l₁ l₂ a b
    induction vs₁ generalizing l₁ with
    | nil => cases a; exact b
    | cons v r ih => cases a with | cons x y => exact .cons x (ih y)
  induction vs generalizing l with
  | nil => cases r; exact .nil
  | cons v t ih => cases r with | cons x y => rw [List.reverse_cons, List.reverse_cons]; exact app (ih y) (.cons x .nil)
theorem Sx.tupS {e : Expr} {elts : List Expr} {kk : Nat} {tp pos : Pos} {xs : List Str} {vs : List PV} (h1 : Ez X c n sc σ z e (.tup vs) z₁) (hl : vs.length = xs.length) (hx : ∀ x ∈ xs, own sc x = true)
    (hs : ∀ env, swapsWithSole [.Tuple elts kk tp] e pos.line env = pure false) (hw : ∀ env, env.scope = sc → swappedStores [.Tuple elts kk tp] e env = pure (some xs))
    (h : Sx X c n sc (addAll σ xs.reverse vs.reverse) z₁ rest R) : Sx X c n sc σ z (.Assign [.Tuple elts kk tp] e pos :: rest) R := fun A env s Q E rm en S pe hQ =>
  wpAny_execs_cons (Assign_Tuple_swapped (h1 A env s _ _ rm en S fun y h' tk k c1 r => unpack_ rm r hl fun vals h'' k2 r2 =>
    inOrder_ xs.reverse vs.reverse vals.reverse σ en ((S.step k c1).stepN k2) r2.rev (fun x hm => hx x (List.mem_reverse.mp hm)) fun h3 tk3 k3 S3 =>
      h A env { s with heap := h3, toks := tk3 } Q E rm en S3 pe fun f fv σ' z' h4 tk4 k4 S4 fr hr => hQ f fv σ' z' h4 tk4 (((k.trans (k2.up c)).toL.trans k3).trans k4) S4 fr hr) (hs env) (hw env en.scope))
theorem eachNames {env : Env} : ∀ (xs : List (Str × Pos)), (assignEach (xs.map fun p => Expr.Name p.1 p.2) env).map (·.2) = xs.map (fun p => assign (.Name p.1 p.2) env) ∧ (assignEach (xs.map fun p => Expr.Name p.1 p.2) env).findIdx? (·.1) = Option.none ∧ (assignEach (xs.map fun p => Expr.Name p.1 p.2) env).length = xs.length
  | [] => ⟨rfl, rfl, rfl⟩
  | p :: r => by
    obtain ⟨a, b, d⟩ := eachNames (env := env) r
    show (((false, assign (.Name p.1 p.2) env) :: assignEach (r.map fun p => Expr.Name p.1 p.2) env).map (·.2) = _ ∧ ((false, assign (.Name p.1 p.2) env) :: assignEach (r.map fun p => Expr.Name p.1 p.2) env).findIdx? (·.1) = Option.none ∧ ((false, assign (.Name p.1 p.2) env) :: assignEach (r.map fun p => Expr.Name p.1 p.2) env).length = _)
    refine ⟨by rw [List.map_cons, a, List.map_cons], ?_, by rw [List.length_cons, d, List.length_cons]⟩
    rw [List.findIdx?_cons, b]; rfl
theorem inOrderA_ : ∀ (xs : List (Str × Pos)) (vs : List PV) (vals : List Value) (σ : Sig) {A : Around} {env : Env} {s : Shared} {Q : Unit → Shared → Prop} {E : Value → Shared → Prop}, EnvOk sc env → SS X c env σ z s.heap → Reps c s.heap vals vs → (∀ x ∈ xs, own sc x.1 = true) →
    (∀ h' tk, KeepL c env s.heap h' → SS X c env (addAll σ (xs.map (·.1)) vs) z h' → Q () { s with heap := h', toks := tk }) → wpAny (model X.prog X.w) A (assignInOrder (xs.map fun p => assign (.Name p.1 p.2) env) vals) Q E s
  | [], vs, vals, σ, A, env, s, Q, E, en, S, r, hx, h => by
    cases vals <;> exact wpAny_pure (h s.heap s.toks (KeepL.refl _ _ _) (by cases vs <;> exact S))
  | x :: xs, vs, vals, σ, A, env, s, Q, E, en, S, r, hx, h => by
    cases r with
    | nil => exact wpAny_pure (h s.heap s.toks (KeepL.refl _ _ _) S)
    | cons r rs =>
      show wpAny _ A (do holding _ (assign (.Name x.1 x.2) env _); assignInOrder _ _) _ _ s
      refine wpAny_bind (wpAny_holding (wpAny_assign_Name (store_ en S r (hx x (.head _)) fun h' tk k S' => ?_)))
      exact inOrderA_ xs _ _ _ en S' (rs.monoL S.loc.own k) (fun y hy => hx y (.tail _ hy)) fun h'' tk' k' S'' => h h'' tk' (k.trans k') S''
theorem Az.tup {xs : List (Str × Pos)} {kk : Nat} {tp : Pos} {vs : List PV} (hl : vs.length = xs.length) (hx : ∀ x ∈ xs, own sc x.1 = true) : Az X c n sc σ z (.Tuple (xs.map fun p => Expr.Name p.1 p.2) kk tp) (.tup vs) (addAll σ (xs.map (·.1)) vs) := fun A env s x Q E rm en S r h => by
  cases r with
  | tup p q r =>
    rename_i a vals
    obtain ⟨e1, e2, e3⟩ := eachNames (env := env) xs
    refine wpAny_assign_Tuple rm.1 p (by rw [e3]; simp [r.length, hl]) e2 fun h' e => ?_
    have kk : KeepB Option.none s.heap h' := .of _ fun b o q => e b o (Nat.ne_of_lt (Heap.lt_size q)) q
    rw [e1]
    refine inOrderA_ xs vs vals σ en (S.stepN kk) (r.mono (kk.up c)) hx fun h'' tk k2 S2 => h h'' tk ((kk.up c).toL.trans k2) S2
theorem Sx.tupP {e : Expr} {xs : List (Str × Pos)} {kk : Nat} {tp pos : Pos} {vs : List PV} (h1 : Ez X c n sc σ z e (.tup vs) z₁) (hl : vs.length = xs.length) (hx : ∀ x ∈ xs, own sc x.1 = true)
    (hs : ∀ env, swapsWithSole [.Tuple (xs.map fun p => Expr.Name p.1 p.2) kk tp] e pos.line env = pure false) (hw : ∀ env, env.scope = sc → swappedStores [.Tuple (xs.map fun p => Expr.Name p.1 p.2) kk tp] e env = pure Option.none)
    (h : Sx X c n sc (addAll σ (xs.map (·.1)) vs) z₁ rest R) : Sx X c n sc σ z (.Assign [.Tuple (xs.map fun p => Expr.Name p.1 p.2) kk tp] e pos :: rest) R := fun A env s Q E rm en S pe hQ =>
  wpAny_execs_cons (Assign_Tuple (h1 A env s _ _ rm en S fun y h' tk k c1 r => Az.tup hl hx A env { s with heap := h', toks := tk } y _ _ rm en (S.step k c1) r fun h3 tk3 k3 S3 =>
      h A env { s with heap := h3, toks := tk3 } Q E rm en S3 pe fun f fv σ' z' h4 tk4 k4 S4 fr hr => hQ f fv σ' z' h4 tk4 ((k.toL.trans k3).trans k4) S4 fr hr) (hs env) (hw env en.scope))
/-- while, by a state and a measure -/
theorem Sx.while {t : Expr} {body : List Stmt} {pos : Pos} (J : Nat → Sig → List PV → Prop) (m : Nat) (h0 : J m σ z)
    (turn : ∀ m σ z, J m σ z → ∃ b z₁, Tz X c n sc σ z t b z₁ ∧ (b = true → Sx X c n sc σ z₁ body fun fv σ' z' => match fv with | .next => ∃ m' σ₂, m' < m ∧ SubSig σ₂ σ' ∧ J m' σ₂ z' | .ret v => R (.ret v) σ' z') ∧ (b = false → Sx X c n sc σ z₁ rest R)) :
    Sx X c n sc σ z (.While t body [] pos :: rest) R := fun A env s Q E rm en S pe hQ => by
  refine wpAny_execs_cons (wpAny_While (codeAny_whileLoop (fun k s' => ∃ h tk σ z, s' = { s with heap := h, toks := tk } ∧ KeepL c env s.heap h ∧ SS X c env σ z h ∧ J k σ z) ?_ m ⟨s.heap, s.toks, σ, z, rfl, KeepL.refl _ _ _, S, h0⟩))
  rintro k s' ⟨h, tk, σ, z, rfl, kk, S', hj⟩
  obtain ⟨b, z₁, ht, hb, hf⟩ := turn k σ z hj
  refine ht A env _ _ _ rm en S' fun h2 tk2 k2 c2 => ?_
  have S2 := S'.step k2 c2
  cases b with
  | false =>
    refine wpAny_execs_nil ?_
    exact hf rfl A env { s with heap := h2, toks := tk2 } Q E rm en S2 pe fun f fv σ' z' h4 tk4 k4 S4 fr hr => hQ f fv σ' z' h4 tk4 ((kk.trans k2.toL).trans k4) S4 fr hr
  | true =>
    refine wpAny_passesOwn pe (hb rfl A env _ _ _ rm en S2 pe fun f fv σ' z' h4 tk4 k4 S4 fr hr => ?_)
    cases fr with
    | next =>
      obtain ⟨m', σ₂, hm, hs, hj'⟩ := hr
      exact ⟨m', hm, h4, tk4, σ₂, z', rfl, (kk.trans k2.toL).trans k4, S4.sub hs, hj'⟩
    | ret r => exact hQ _ _ σ' z' h4 tk4 ((kk.trans k2.toL).trans k4) S4 (.ret r) hr
end
end Mine

namespace Mine
def CellList (c : Option Addr) (h : Heap) : Prop := ∀ a, c = some a → ∃ xs, h.IsList a xs
theorem CellAt.isL {c : Option Addr} {z : List PV} {h : Heap} (x : CellAt c z h) : CellList c h := by
  rintro a rfl; obtain ⟨vs, p, r, _⟩ := x; exact ⟨_, p⟩
theorem CellList.ne {c : Option Addr} {h : Heap} {a : Addr} {xs : Array Value} (x : CellList c h) (p : h.IsTuple a xs) : c ≠ some a := fun e => by
  obtain ⟨ys, o', e1, e4, _⟩ := x a e
  obtain ⟨o, e2, e3, _⟩ := p
  rw [e1] at e2; cases e2; rw [e3] at e4; injection e4 with q; exact absurd q (by decide)
def Fields (h : Heap) (wr : List Addr) : Prop := ∀ b ∈ wr, ∃ o vs, h.get? b = some o ∧ o.data = .fields vs
theorem not_fields {h : Heap} {wr : List Addr} {a : Addr} {xs : Array Value} {T : String} (hf : Fields h wr) (p : ∃ o, h.get? a = some o ∧ o.cls = .type T ∧ ∃ n, o.data = .seq xs n) : a ∉ wr := fun hm => by
  obtain ⟨o, vs, ho, hd⟩ := hf a hm
  obtain ⟨o', ho', _, n, hd'⟩ := p
  rw [ho] at ho'; cases ho'; rw [hd] at hd'; cases hd'
mutual
theorem Rep.monoW {c : Option Addr} {wr : List Addr} {h h' : Heap} (hf : Fields h wr) (k : ∀ b o, b ∉ wr → h.get? b = some o → h'.get? b = some o) : ∀ {v : Value} {p : PV}, Rep c h v p → Rep c h' v p
  | _, _, .none => .none
  | _, _, .bool b => .bool b
  | _, _, .int n t => .int n t
  | _, _, .str x t => .str x t
  | _, _, .list a b r => .list (a.at fun o e => k _ o (not_fields hf a.isList) e) b (Reps.monoW hf k r)
  | _, _, .tup a b r => .tup (a.at fun o e => k _ o (not_fields hf a) e) b (Reps.monoW hf k r)
  | _, _, .cell e => .cell e
  | _, _, .ty x => .ty x
  | _, _, .xl a b r => .xl (a.at fun o e => k _ o (not_fields hf a) e) b (Reps.monoW hf k r)
theorem Reps.monoW {c : Option Addr} {wr : List Addr} {h h' : Heap} (hf : Fields h wr) (k : ∀ b o, b ∉ wr → h.get? b = some o → h'.get? b = some o) : ∀ {vs : List Value} {l : List PV}, Reps c h vs l → Reps c h' vs l
  | _, _, .nil => .nil
  | _, _, .cons a r => .cons (Rep.monoW hf k a) (Reps.monoW hf k r)
end
theorem ns_not_fields {h : Heap} {wr : List Addr} {L : Addr} {m : Str → Option Value} (hf : Fields h wr) (hn : h.Ns L m) : L ∉ wr := fun hm => by
  obtain ⟨o, vs, ho, hd⟩ := hf L hm
  obtain ⟨o', es, ep, ho', hd', _⟩ := hn
  rw [ho] at ho'; cases ho'; rw [hd] at hd'; cases hd'
theorem cell_not_fields {h : Heap} {wr : List Addr} {a : Addr} {v : Option Value} (hf : Fields h wr) (hn : h.IsCell a v) : a ∉ wr := fun hm => by
  obtain ⟨o, vs, ho, hd⟩ := hf a hm
  obtain ⟨o', ho', hd'⟩ := hn
  rw [ho] at ho'; cases ho'; rw [hd] at hd'; cases hd'
theorem Loc.monoW {c : Option Addr} {wr : List Addr} {h h' : Heap} {env : Env} {σ : Sig} (hf : Fields h wr) (k : ∀ b o, b ∉ wr → h.get? b = some o → h'.get? b = some o) (x : Loc c h env σ) : Loc c h' env σ :=
  have kc : ∀ p ∈ env.cells, ∀ o, h.get? p.2 = some o → h'.get? p.2 = some o := fun p hp o e => let ⟨_, hc⟩ := (x.cells p hp).2; k _ o (cell_not_fields hf hc) e
  ⟨x.off, fun p hp => ⟨(x.cells p hp).1, let ⟨v, o, ho, hd⟩ := (x.cells p hp).2; ⟨v, o, kc p hp o ho, hd⟩⟩, x.apart,
    let ⟨m, hn, hm⟩ := x.vals; ⟨m, hn.at' fun o e => k _ o (ns_not_fields hf hn) e, fun y v e => let ⟨val, a, b⟩ := hm y v e; ⟨val, a.monoW hf k, b.step kc⟩⟩⟩
theorem CellAt.monoW {c : Option Addr} {wr : List Addr} {z : List PV} {h h' : Heap} (hf : Fields h wr) (k : ∀ b o, b ∉ wr → h.get? b = some o → h'.get? b = some o) (x : CellAt c z h) : CellAt c z h' := by
  cases c with
  | none => exact x
  | some a => obtain ⟨vs, p, r, q⟩ := x; exact ⟨vs, p.at fun o e => k a o (not_fields hf p) e, r.monoW hf k, fun y => (q y).at fun o e => k a o (not_fields hf p) e⟩

def FpOk (c : Option Addr) (env : Env) (h' : Heap) (b : Addr) : Prop := b ≠ env.locals ∧ (∀ p ∈ env.cells, b ≠ p.2) ∧ c ≠ some b ∧ b < h'.objs.size
theorem FpOk.fresh {X : Cx} {c : Option Addr} {env : Env} {σ : Sig} {z : List PV} {hm h' : Heap} {b : Addr} (S : SS X c env σ z hm) (hb : hm.objs.size ≤ b) (hl : b < h'.objs.size) : FpOk c env h' b :=
  ⟨fun q => by obtain ⟨m, hn, _⟩ := S.loc.vals; exact absurd hn.lt (Nat.not_lt.mpr (q ▸ hb)), fun p hp q => by obtain ⟨v, hc⟩ := (S.loc.cells p hp).2; exact absurd hc.lt (Nat.not_lt.mpr (q ▸ hb)),
    fun q => by obtain ⟨o, ho⟩ := S.ws.2 b q; exact absurd (Heap.lt_size ho) (Nat.not_lt.mpr hb), hl⟩
theorem FpOk.seq {X : Cx} {c : Option Addr} {env : Env} {σ : Sig} {z : List PV} {hm h' : Heap} {b : Addr} {xs : Array Value} (S : SS X c env σ z hm) (p : hm.IsList b xs) (hc : c ≠ some b) (hl : b < h'.objs.size) : FpOk c env h' b :=
  ⟨(S.loc.own.off p).1, (S.loc.own.off p).2, hc, hl⟩

/-- what an iterable gives, turn by turn, to the target t -/
def Itz (X : Cx) (c : Option Addr) (n : Nat) (sc : Scope) (σ : Sig) (z : List PV) (e : Expr) (t : Expr) (items : List PV) (z' : List PV) : Prop :=
  ∀ (A : Around) (env : Env) (s : Shared) (Q : Value → Shared → Prop) (E : Value → Shared → Prop), Room n A → EnvOk sc env → SS X c env σ z s.heap →
    (∀ (I : Addr) (fp wr : List Addr) (P Md : Nat → Value → Heap → Prop) (St : Nat → Heap → Prop) (hm h' : Heap) (tk : Nat), KeepB c s.heap hm → CellAt c z' hm → KeepB Option.none hm h' →
      KTurns X.prog X.w A t I fp wr items.length P Md St → St 0 h' → (∀ j s Q E, St j s.heap → Q (.ref I) s → wpAny (model X.prog X.w) A (pyIter (.ref I)) Q E s) → (∀ b ∈ wr, hm.get? b = Option.none) → (∀ b ∈ fp, FpOk c env h' b) → (∀ j h, St j h → Fields h wr) →
      (∀ i v h, i < items.length → P i v h → (∀ q x, Rep c hm x q → Rep c h x q) → CellList c h → ∃ p, items[i]? = some p ∧ Rep c h v p) → Q (.ref I) { s with heap := h', toks := tk }) →
    wpAny (model X.prog X.w) A (eval e env) (fun xv s₁ => wpAny (model X.prog X.w) A (pyIter xv) Q E s₁) E s

section
variable {X : Cx} {c : Option Addr} {n : Nat} {sc : Scope} {σ σ' τ : Sig} {z z' z₁ z₂ : List PV} {R : FV → Sig → List PV → Prop} {rest : List Stmt}
theorem Sx.for {t e : Expr} {body : List Stmt} {pos : Pos} {items : List PV} (J : Nat → Sig → List PV → Prop) (hi : Itz X c n sc σ z e t items z₁) (h0 : J 0 σ z₁)
    (turn : ∀ i p σ z, items[i]? = some p → J i σ z → ∃ τ, Az X c n sc σ z t p τ ∧ Sx X c n sc τ z body fun fv σ' z' => match fv with | .next => ∃ σ₂, SubSig σ₂ σ' ∧ J (i + 1) σ₂ z' | .ret v => R (.ret v) σ' z')
    (done : ∀ σ z, J items.length σ z → Sx X c n sc σ z rest R) (hs : ∀ env x, foldedSetIterable e env x = pure x) : Sx X c n sc σ z (.For t e body [] pos :: rest) R := fun A env s Q E rm en S pe hQ => by
  refine wpAny_execs_cons (wpAny_For (hi A env s _ _ rm en S fun I fp wr P Md St hm h' tk k c1 k1 W st _ hwr hfp hF hP => ?_) (hs env))
  have S0 : SS X c env σ z₁ hm := S.step k c1
  have S1 : SS X c env σ z₁ h' := S0.stepN k1
  obtain ⟨h₀, g₀, q₀⟩ := S0.base
  have base : ∀ h2, KeepL c env hm h2 → ∃ h₀, Good X h₀ ∧ ∀ b o, h₀.get? b = some o → h2.get? b = some o ∧ c ≠ some b ∧ b ≠ env.locals ∧ ∀ p ∈ env.cells, b ≠ p.2 := fun h2 kl => ⟨h₀, g₀, fun b o e => ⟨kl b o (q₀ b o e).2.1 (q₀ b o e).2.2.1 (q₀ b o e).2.2.2 (q₀ b o e).1, (q₀ b o e).2⟩⟩
  refine codeAny_forLoop_any
    (fun k s' => ∃ h'' tk i σ z, s' = { s with heap := h'', toks := tk } ∧ St i h'' ∧ KeepL c env hm h'' ∧ SS X c env σ z h'' ∧ J i σ z ∧ i ≤ items.length ∧ k = items.length + 1 - i) ?_ (items.length + 1)
    ⟨h', tk, 0, σ, z₁, rfl, st, (k1.up c).toL, S1, h0, Nat.zero_le _, rfl⟩
  rintro k' s' ⟨h2, tk2, i, σ2, z2, rfl, st2, kl2, S2, hj, hle, rfl⟩
  have keep : ∀ {hb : Heap}, (∀ b o, b ∉ wr → h2.get? b = some o → hb.get? b = some o) → KeepL c env hm hb ∧ SS X c env σ2 z2 hb := fun hk => by
    have kl : KeepL c env hm _ := fun b o n m q e => hk b o (fun hb => by rw [hwr b hb] at e; cases e) (kl2 b o n m q e)
    exact ⟨kl, base _ kl, S2.loc.monoW (hF _ _ st2) hk, S2.cell.monoW (hF _ _ st2) hk⟩
  by_cases hlt : i < items.length
  · refine W.item i _ _ _ hlt st2 fun v h3 tk3 md hk3 => ?_
    refine W.go i v _ _ _ md fun h4 hp st4 hk4 => ?_
    obtain ⟨kl4, S4⟩ := keep (hb := h4) fun b o hb e => hk4 b o hb (hk3 b o hb e)
    obtain ⟨p, hpi, rp⟩ := hP i v h4 hlt hp (fun q x r => r.monoL S0.loc.own kl4) S4.cell.isL
    obtain ⟨τ, ha, hb⟩ := turn i p σ2 z2 hpi hj
    refine ha A env { s with heap := h4, toks := tk3 } v _ _ rm en S4 rp fun h5 tk5 k5 S5 => ?_
    refine wpAny_passesOwn pe (hb A env { s with heap := h5, toks := tk5 } _ _ rm en S5 pe fun f fv σ' z' h6 tk6 k6 S6 fr hr => ?_)
    have kl6 := (kl4.trans k5).trans k6
    have st6 : St (i + 1) h6 := W.frame _ _ _ st4 fun b hb o e => k6 b o (hfp b hb).2.2.1 (hfp b hb).1 (hfp b hb).2.1 (k5 b o (hfp b hb).2.2.1 (hfp b hb).1 (hfp b hb).2.1 e)
    cases fr with
    | next =>
      obtain ⟨σ₂, hs, hj'⟩ := hr
      exact ⟨items.length + 1 - (i + 1), by omega, h6, tk6, i + 1, σ₂, z', rfl, st6, kl6, S6.sub hs, hj', hlt, rfl⟩
    | ret r => exact hQ _ _ σ' z' h6 tk6 (k.toL.trans kl6) S6 (.ret r) hr
  · have hin : i = items.length := by omega
    subst hin
    refine W.done _ _ _ st2 fun h3 tk3 hk3 => wpAny_execs_nil ?_
    obtain ⟨kl3, S3⟩ := keep hk3
    exact done σ2 z2 hj A env { s with heap := h3, toks := tk3 } Q E rm en S3 pe fun f fv σ' z' h4 tk4 k4 S4 fr hr => hQ f fv σ' z' h4 tk4 ((k.toL.trans kl3).trans k4) S4 fr hr

/-- a list of the program's own -/
theorem Itz.list {e : Expr} {x : Str} {p : Pos} {items : List PV} (h1 : Ez X c n sc σ z e (.list items) z₁) : Itz X c n sc σ z e (.Name x p) items z₁ := fun A env s Q E rm en S h =>
  h1 A env s _ _ rm en S fun y h1 tk k c1 r => by
    cases r with
    | list a b r =>
      rename_i ax vs
      have hax := Heap.lt_size (a.isList).choose_spec.1
      have hne : ax ≠ h1.objs.size := Nat.ne_of_lt hax
      refine wpAny_pyIter_list a.isList ?_
      have kp : KeepB Option.none h1 (h1.push { cls := .type "list_iterator", data := .fields #[.ref ax, .int 0 0] }) := .of _ fun b o e => Heap.get?_push_of_some _ e
      have hsz : vs.toArray.size = items.length := by simp [r.length]
      have W := KTurns.ofWalks (target := .Name x p) (Walks.list (prog := X.prog) (w := X.w) rm.1 h1.objs.size ax hne vs.toArray) (fun _ v s Q E _ hq => wpAny_pure hq)
      rw [hsz] at W
      refine h _ _ _ _ _ _ h1 _ tk k c1 kp W ⟨⟨_, Heap.get?_push_size _ rfl, rfl, rfl⟩, (a.isList).at fun o e => kp.all _ _ e⟩ (fun j s Q E st hq => wpAny_pyIter_listiter st.1 hq) (fun b hb => by rw [List.mem_singleton.mp hb]; exact fresh_none) ?_
        (fun j h st b hb => by rw [List.mem_singleton.mp hb]; obtain ⟨o, ho, _, hd⟩ := st.1; exact ⟨o, _, ho, hd⟩) ?_
      · intro b' hb
        rcases List.mem_cons.mp hb with e | e
        · subst e; exact FpOk.fresh (S.step k c1) (Nat.le_refl _) (by rw [Heap.size_push]; exact Nat.lt_succ_self _)
        · rw [List.mem_singleton.mp e]; exact FpOk.seq (S.step k c1) a.isList b (by rw [Heap.size_push]; exact Nat.lt_succ_of_lt hax)
      · intro i v h hi hp tr _
        have get : ∀ {vs : List Value} {l : List PV} {i : Nat} {v : Value}, Reps c h1 vs l → vs[i]? = some v → ∃ p, l[i]? = some p ∧ Rep c h1 v p := by
          intro vs l i v r
          induction vs generalizing l i with
          | nil => intro e; simp at e
          | cons u t ih =>
            cases r with
            | cons x y =>
              intro e
              cases i with
              | zero => simp at e; subst e; exact ⟨_, rfl, x⟩
              | succ i => simpa using ih y (by simpa using e)
        obtain ⟨p, e1, e2⟩ := get r (by simpa using hp)
        exact ⟨p, e1, tr _ _ e2⟩
end
end Mine

namespace Mine
section
variable {X : Cx} {c : Option Addr} {n : Nat} {sc : Scope} {σ σ' τ : Sig} {z z' z₁ z₂ : List PV} {R : FV → Sig → List PV → Prop} {rest : List Stmt}

theorem evalT_ {A : Around} {env : Env} {s : Shared} {Q : Value → Shared → Prop} {E : Value → Shared → Prop} {x : Str} {p pos : Pos} {id : String} {e : Expr} {es : List Expr} {vs : List PV} (rm : Room n A) (en : EnvOk sc env) (S : SS X c env σ z s.heap)
    (hk : sc.names.lookup x = some .globalImplicit) (hg : nsIn X.K mainGlobals x = some Option.none) (hb : bootBuiltins x = some (.type id)) (hn : x ≠ "__name__") (hd : (x == ("__debug__" : Str)) = false)
    (hs : (e :: es).all plainE = true) (h1 : Ezs X c n sc σ z (e :: es) vs z₁)
    (h : ∀ xs h' tk, KeepB c s.heap h' → CellAt c z₁ h' → Reps c h' xs vs → wpAny (model X.prog X.w) A (call (.type id) xs) Q E { s with heap := h', toks := tk }) :
    wpAny (model X.prog X.w) A (eval (.Call (.Name x p) (e :: es) [] pos) env) Q E s := by
  refine wpAny_Call_NameR (globB_ en S.ws.good hk hg hb hn hd ?_)
  exact PyProof.Rows.callWith_type (star_any hs) (evalArgs_ (by rw [List.all_cons, Bool.and_eq_true] at hs; exact hs.1) (h1 A env s pos _ _ rm en S fun xs h' tk k1 c1 r1 => h xs h' tk k1 c1 r1))

def rangeItems (a st : Int) (N : Nat) : List PV := (List.range N).map fun (i : Nat) => PV.int (a + (i : Int) * st)
/-- a range, once it stands -/
theorem range_ {A : Around} {env : Env} {s : Shared} {Q : Value → Shared → Prop} {E : Value → Shared → Prop} {hm : Heap} {r : Addr} {a b st : Int} {t1 t2 t3 : Tok} {N : Nat} {x : Str} {p : Pos} (rm : Room n A) (S : SS X c env σ z₁ hm) (hr : IsRange s.heap r a b st t1 t2 t3) (km : KeepB Option.none hm s.heap)
    (hsm : Builtin.Range.small a b st = true) (hN : Builtin.Range.rangeSize a b st = (N : Int))
    (h : ∀ (I : Addr) (fp wr : List Addr) (P Md : Nat → Value → Heap → Prop) (St : Nat → Heap → Prop) (h' : Heap) (tk : Nat), KeepB Option.none hm h' →
      KTurns X.prog X.w A (.Name x p) I fp wr (rangeItems a st N).length P Md St → St 0 h' → (∀ j s Q E, St j s.heap → Q (.ref I) s → wpAny (model X.prog X.w) A (pyIter (.ref I)) Q E s) → (∀ b ∈ wr, hm.get? b = Option.none) → (∀ b ∈ fp, FpOk c env h' b) → (∀ j h, St j h → Fields h wr) →
      (∀ i v h, i < (rangeItems a st N).length → P i v h → (∀ q x, Rep c hm x q → Rep c h x q) → CellList c h → ∃ p, (rangeItems a st N)[i]? = some p ∧ Rep c h v p) → Q (.ref I) { s with heap := h', toks := tk }) :
    wpAny (model X.prog X.w) A (pyIter (.ref r)) Q E s := by
  refine wpAny_pyIter_range hr hsm ?_
  have kp : KeepB Option.none s.heap (s.heap.push { cls := .type "range_iterator", data := .fields #[rawInt a, rawInt (Builtin.Range.rangeSize a b st), rawInt st] }) := .of _ fun b o e => Heap.get?_push_of_some _ e
  have hlen : (rangeItems a st N).length = N := by simp [rangeItems]
  have W := KTurns.ofWalks (target := .Name x p) (Walks.range (prog := X.prog) (w := X.w) rm.1 s.heap.objs.size a st N) (fun _ v s Q E _ hq => wpAny_pure hq)
  rw [← hlen] at W
  refine h _ _ _ _ _ _ _ _ (km.trans kp) W ?_ (fun j s Q E st hq => wpAny_pyIter_rangeiter st hq) ?_ ?_ ?_ ?_
  · rw [hlen, hN]
    have := Heap.get?_push_size s.heap (o := { cls := .type "range_iterator", data := .fields #[rawInt a, rawInt (N : Int), rawInt st] }) rfl
    simpa using this
  · intro b hb
    rw [List.mem_singleton.mp hb]
    cases e : hm.get? s.heap.objs.size with
    | none => rfl
    | some o => have := km.all _ _ e; rw [fresh_none] at this; cases this
  · intro b hb
    rw [List.mem_singleton.mp hb]
    exact FpOk.fresh (S.stepN km) (Nat.le_refl _) (by rw [Heap.size_push]; exact Nat.lt_succ_self _)
  · intro j h st b hb
    rw [List.mem_singleton.mp hb]
    exact ⟨_, _, st, rfl⟩
  · rintro i v h hi ⟨t, rfl⟩ tr _
    rw [hlen] at hi
    exact ⟨.int (a + (i : Int) * st), by simp [rangeItems, hi], .int ..⟩

theorem Itz.range1 {x y : Str} {p q pos : Pos} {e : Expr} {k : Int} (hk : sc.names.lookup x = some .globalImplicit) (hg : nsIn X.K mainGlobals x = some Option.none) (hb : bootBuiltins x = some (.type "range")) (hn : x ≠ "__name__") (hd : (x == ("__debug__" : Str)) = false)
    (hs : plainE e = true) (h1 : Ez X c n sc σ z e (.int k) z₁) (h0 : 0 ≤ k) (hh : k < 2 ^ 40) : Itz X c n sc σ z (.Call (.Name x p) [e] [] pos) (.Name y q) (rangeItems 0 1 k.toNat) z₁ := fun A env s Q E rm en S h => by
  refine evalT_ rm en S hk hg hb hn hd (by simp [hs]) (Ezs.cons h1 .nil hs) fun xs h' tk k1 c1 r1 => ?_
  obtain _ | ⟨r1, r2⟩ := r1; cases r1; cases r2
  refine call_range_1 ?_
  refine range_ (N := k.toNat) (x := y) (p := q) rm (S.step k1 c1) (IsRange.new ..) (.of _ fun b o e => Heap.get?_push_of_some _ e) (small_one (by decide) (by decide) (by omega) (by omega)) (by rw [rangeSize_one]; split <;> omega) ?_
  intro I fp wr P Md St h'' tk' kk W st self hwr hfp hF hP
  exact h I fp wr P Md St h' h'' tk' k1 c1 kk W st self hwr hfp hF hP
theorem Itz.range3 {x y : Str} {p q pos : Pos} {e1 e2 e3 : Expr} {a b st : Int} {N : Nat} (hk : sc.names.lookup x = some .globalImplicit) (hg : nsIn X.K mainGlobals x = some Option.none) (hb : bootBuiltins x = some (.type "range")) (hn : x ≠ "__name__") (hd : (x == ("__debug__" : Str)) = false)
    (hs : [e1, e2, e3].all plainE = true) (h1 : Ezs X c n sc σ z [e1, e2, e3] [.int a, .int b, .int st] z₁)
    (h0 : st ≠ 0) (hp : Builtin.divisionGoesByPylong (b - a) st = false) (hsm : Builtin.Range.small a b st = true) (hN : Builtin.Range.rangeSize a b st = (N : Int)) : Itz X c n sc σ z (.Call (.Name x p) [e1, e2, e3] [] pos) (.Name y q) (rangeItems a st N) z₁ := fun A env s Q E rm en S h => by
  refine evalT_ rm en S hk hg hb hn hd hs h1 fun xs h' tk k1 c1 r1 => ?_
  obtain _ | ⟨r1, r2⟩ := r1; obtain _ | ⟨r2, r3⟩ := r2; obtain _ | ⟨r3, r4⟩ := r3; cases r1; cases r2; cases r3; cases r4
  refine call_range_3 h0 ?_ (.inl hp)
  refine range_ (N := N) (x := y) (p := q) rm (S.step k1 c1) (IsRange.new ..) (.of _ fun b o e => Heap.get?_push_of_some _ e) hsm hN ?_
  intro I fp wr P Md St h'' tk' kk W st self hwr hfp hF hP
  exact h I fp wr P Md St h' h'' tk' k1 c1 kk W st self hwr hfp hF hP

def signs (x : Str) : List PV := x.cps.toList.map fun c => PV.str ⟨#[c]⟩
theorem Itz.str {e : Expr} {y : Str} {q : Pos} {x : Str} (h1 : Ez X c n sc σ z e (.str x) z₁) : Itz X c n sc σ z e (.Name y q) (signs x) z₁ := fun A env s Q E rm en S h =>
  h1 A env s _ _ rm en S fun v h1 tk k c1 r => by
    cases r with | str _ t => ?_
    have fin : ∀ (ty : String) (W : Walks X.prog X.w A h1.objs.size [h1.objs.size] [h1.objs.size] x.cps.size (SignAt x) (fun i h => h.IsStrIter h1.objs.size ty x t i)), Q (.ref h1.objs.size) { s with heap := h1.push { cls := .type ty, data := .fields #[.str x t, .int 0 0] }, toks := tk } := fun ty W => by
      have kp : KeepB Option.none h1 (h1.push { cls := .type ty, data := .fields #[.str x t, .int 0 0] }) := .of _ fun b o e => Heap.get?_push_of_some _ e
      have W' := KTurns.ofWalks (target := .Name y q) W (fun _ v s Q E _ hq => wpAny_pure hq)
      have hlen : (signs x).length = x.cps.size := by simp [signs]
      rw [← hlen] at W'
      refine h _ _ _ _ _ _ h1 _ tk k c1 kp W' ⟨_, Heap.get?_push_size _ rfl, rfl, rfl⟩ (fun j s Q E st hq => W.self j _ _ _ st hq) (fun b hb => by rw [List.mem_singleton.mp hb]; exact fresh_none) (fun b hb => ?_) (fun j h st b hb => ?_) ?_
      · rw [List.mem_singleton.mp hb]
        exact FpOk.fresh (S.step k c1) (Nat.le_refl _) (by rw [Heap.size_push]; exact Nat.lt_succ_self _)
      · rw [List.mem_singleton.mp hb]; obtain ⟨o, ho, _, hd⟩ := st; exact ⟨o, _, ho, hd⟩
      · rintro i v h hi ⟨cc, u, hc, rfl⟩ tr _
        exact ⟨.str ⟨#[cc]⟩, by simp [signs, hc], .str ..⟩
    cases ha : x.cps.all (· < 128)
    · exact wpAny_pyIter_wide ha (fin _ (Walks.strWide rm.1 _ x t))
    · exact wpAny_pyIter_ascii ha (fin _ (Walks.strAscii rm.1 _ x t))

def pairsOf (l : List PV) : List PV := (l.zipIdx).map fun p => PV.tup [.int (p.2 : Nat), p.1]
theorem pairsOf_get {l : List PV} {i : Nat} {v : PV} (h : l[i]? = some v) : (pairsOf l)[i]? = some (.tup [.int i, v]) := by
  simp [pairsOf, List.getElem?_map, List.getElem?_zipIdx, h]
theorem pairsOf_len {l : List PV} : (pairsOf l).length = l.length := by simp [pairsOf]
theorem Reps.get {h1 : Heap} : ∀ {vs : List Value} {l : List PV} {i : Nat} {v : Value}, Reps c h1 vs l → vs[i]? = some v → ∃ p, l[i]? = some p ∧ Rep c h1 v p := by
  intro vs l i v r
  induction vs generalizing l i with
  | nil => intro e; simp at e
  | cons u t ih =>
    cases r with
    | cons x y =>
      intro e
      cases i with
      | zero => simp at e; subst e; exact ⟨_, rfl, x⟩
      | succ i => simpa using ih y (by simpa using e)
/-- enumerate over a list -/
theorem Itz.enumL {x : Str} {p pos tp : Pos} {e : Expr} {elts : List Expr} {kk : Nat} {l : List PV} (hk : sc.names.lookup x = some .globalImplicit) (hg : nsIn X.K mainGlobals x = some Option.none) (hb : bootBuiltins x = some (.type "enumerate")) (hn : x ≠ "__name__") (hd : (x == ("__debug__" : Str)) = false)
    (hs : plainE e = true) (h1 : Ez X c n sc σ z e (.list l) z₁) : Itz X c n sc σ z (.Call (.Name x p) [e] [] pos) (.Tuple elts kk tp) (pairsOf l) z₁ := fun A env s Q E rm en S h => by
  refine evalT_ rm en S hk hg hb hn hd (by simp [hs]) (Ezs.cons h1 .nil hs) fun xs h' tk k1 c1 r1 => ?_
  have S1 := S.step k1 c1
  obtain _ | ⟨r1, r2⟩ := r1; cases r2
  cases r1 with
  | list a b r =>
    rename_i ax vs
    have hax : ax < h'.objs.size := Heap.lt_size (a.isList).choose_spec.1
    refine call_enumerate_list a.isList fun h2 he hit hsz hk2 => ?_
    have k2 : KeepB Option.none h' h2 := .of _ hk2
    refine wpAny_pyIter_enum (i := 0) he ?_
    have WT := (WalksT.enumerate (prog := X.prog) (w := X.w) rm.1 (h'.objs.size + 1) h'.objs.size ax (Nat.succ_ne_self _) (Nat.ne_of_lt (Nat.lt_succ_of_lt hax)) (Nat.ne_of_lt hax) vs.toArray)
    have W := KTurns.ofWalksU (elts := elts) (k := kk) (pos := tp) WT.toU
    have hlen : (pairsOf l).length = vs.toArray.size := by rw [pairsOf_len]; simp [r.length]
    rw [← hlen] at W
    refine h _ _ _ _ _ _ h' h2 tk k1 c1 k2 W ⟨⟨_, he⟩, hit, (a.isList).at fun o e => hk2 _ _ e⟩ (fun j s Q E st hq => WT.self j _ _ _ st hq) ?_ ?_ ?_ ?_
    · intro b hb
      have hge : h'.objs.size ≤ b := by
        rcases List.mem_cons.mp hb with e | e
        · rw [e]; exact Nat.le_succ _
        · rw [List.mem_singleton.mp e]; exact Nat.le_refl _
      cases e : h'.get? b with
      | none => rfl
      | some o => exact absurd (Heap.lt_size e) (Nat.not_lt.mpr hge)
    · intro b' hb
      have hz : h2.objs.size = h'.objs.size + 2 := hsz
      rcases List.mem_cons.mp hb with e | e
      · subst e; exact FpOk.fresh S1 (Nat.le_succ _) (by rw [hz]; exact Nat.lt_succ_self _)
      · rcases List.mem_cons.mp e with e | e
        · subst e; exact FpOk.fresh S1 (Nat.le_refl _) (by rw [hz]; exact Nat.lt_succ_of_lt (Nat.lt_succ_self _))
        · rw [List.mem_singleton.mp e]; exact FpOk.seq S1 a.isList b (by rw [hz]; exact Nat.lt_succ_of_lt (Nat.lt_succ_of_lt hax))
    · intro j h st b hb
      rcases List.mem_cons.mp hb with e | e
      · subst e; obtain ⟨⟨old, he⟩, _⟩ := st; exact ⟨_, _, he, rfl⟩
      · rw [List.mem_singleton.mp e]; obtain ⟨_, ⟨o, ho, _, hd⟩, _⟩ := st; exact ⟨o, _, ho, hd⟩
    · rintro i v h3 hi ⟨T, vals, rfl, ⟨t, x, hx, rfl⟩, hT⟩ tr cl
      obtain ⟨p, e1, e2⟩ := r.get (by simpa using hx)
      refine ⟨_, pairsOf_get e1, ?_⟩
      exact .tup (vs := [.int i t, x]) hT (cl.ne hT) (.cons (.int ..) (.cons (tr _ _ e2) .nil))
end
end Mine

namespace Mine
section
variable {X : Cx} {c : Option Addr} {n : Nat} {sc : Scope} {σ σ' τ : Sig} {z z' z₁ z₂ : List PV} {R : FV → Sig → List PV → Prop} {rest : List Stmt}

/-- a target of plain local names takes a value: nothing but the frame's own map is turned -/
def AzP (X : Cx) (c : Option Addr) (n : Nat) (sc : Scope) (σ : Sig) (z : List PV) (t : Expr) (v : PV) (τ : Sig) : Prop :=
  ∀ (A : Around) (env : Env) (s : Shared) (x : Value) (Q : Unit → Shared → Prop) (E : Value → Shared → Prop), Room n A → EnvOk sc env → SS X c env σ z s.heap → Rep c s.heap x v →
    (∀ h' tk, (∀ b o, b ≠ env.locals → s.heap.get? b = some o → h'.get? b = some o) → SS X c env τ z h' → Q () { s with heap := h', toks := tk }) → wpAny (model X.prog X.w) A (assign t env x) Q E s
theorem storeP_ {A : Around} {env : Env} {s : Shared} {x : Str} {val : Value} {v : PV} {Q : Unit → Shared → Prop} {E : Value → Shared → Prop} (en : EnvOk sc env) (S : SS X c env σ z s.heap) (r : Rep c s.heap val v) (hk : sc.names.lookup x = some .local)
    (h : ∀ h' tk, (∀ b o, b ≠ env.locals → s.heap.get? b = some o → h'.get? b = some o) → SS X c env ((x, v) :: σ) z h' → Q () { s with heap := h', toks := tk }) : wpAny (model X.prog X.w) A (storeName env x val) Q E s := by
  obtain ⟨m, hm, hl⟩ := id S.loc.vals
  refine wpAny_storeName_local (en.of hk) hm (fun h' hn hs => ?_) (by rw [en.kind]; rfl)
  have k0 : KeepL Option.none env s.heap h' := fun b o _ ne _ e => (hs.2 b ne).trans e
  have kc : ∀ p ∈ env.cells, ∀ o, s.heap.get? p.2 = some o → h'.get? p.2 = some o := fun p hp o e => (hs.2 _ (let ⟨_, hc⟩ := (S.loc.cells p hp).2; ns_cell hm hc)).trans e
  refine h h' _ (fun b o ne e => (hs.2 b ne).trans e) (S.put r k0 (fun p hp => let ⟨v, o, ho, hd⟩ := (S.loc.cells p hp).2; ⟨v, o, kc p hp o ho, hd⟩) ⟨_, hn, ?_, ?_⟩)
  · unfold Holds1; rw [en.plain x hk]; simp
  · intro m₀ hm₀ y u hne hy
    rw [ns_uniq hm hm₀] at hy
    unfold Holds1 at hy ⊢
    cases e : env.cells.lookup y with
    | none => rw [e] at hy; simpa [hne] using hy
    | some ca => rw [e] at hy; obtain ⟨o, ho, hd⟩ := hy; exact ⟨o, kc _ (mem_of_lookup e) o ho, hd⟩
theorem AzP.name {x : Str} {pos : Pos} {v : PV} (hk : sc.names.lookup x = some .local) : AzP X c n sc σ z (.Name x pos) v ((x, v) :: σ) := fun A env s y Q E rm en S r h =>
  wpAny_assign_Name (storeP_ en S r hk h)
theorem keepP {env : Env} {h h' : Heap} (k : ∀ b o, b ≠ env.locals → h.get? b = some o → h'.get? b = some o) : KeepL c env h h' := fun b o _ n _ e => k b o n e
theorem inOrderP_ : ∀ (xs : List (Str × Pos)) (vs : List PV) (vals : List Value) (σ : Sig) {A : Around} {env : Env} {s : Shared} {Q : Unit → Shared → Prop} {E : Value → Shared → Prop}, EnvOk sc env → SS X c env σ z s.heap → Reps c s.heap vals vs → (∀ x ∈ xs, sc.names.lookup x.1 = some .local) →
    (∀ h' tk, (∀ b o, b ≠ env.locals → s.heap.get? b = some o → h'.get? b = some o) → SS X c env (addAll σ (xs.map (·.1)) vs) z h' → Q () { s with heap := h', toks := tk }) → wpAny (model X.prog X.w) A (assignInOrder (xs.map fun p => assign (.Name p.1 p.2) env) vals) Q E s
  | [], vs, vals, σ, A, env, s, Q, E, en, S, r, hx, h => by
    cases vals <;> exact wpAny_pure (h s.heap s.toks (fun _ _ _ e => e) (by cases vs <;> exact S))
  | x :: xs, vs, vals, σ, A, env, s, Q, E, en, S, r, hx, h => by
    cases r with
    | nil => exact wpAny_pure (h s.heap s.toks (fun _ _ _ e => e) S)
    | cons r rs =>
      show wpAny _ A (do holding _ (assign (.Name x.1 x.2) env _); assignInOrder _ _) _ _ s
      refine wpAny_bind (wpAny_holding (wpAny_assign_Name (storeP_ en S r (hx x (.head _)) fun h' tk k S' => ?_)))
      exact inOrderP_ xs _ _ _ en S' (rs.monoL S.loc.own (keepP k)) (fun y hy => hx y (.tail _ hy)) fun h'' tk' k' S'' => h h'' tk' (fun b o n e => k' b o n (k b o n e)) S''
theorem AzP.tup {xs : List (Str × Pos)} {kk : Nat} {tp : Pos} {vs : List PV} (hl : vs.length = xs.length) (hx : ∀ x ∈ xs, sc.names.lookup x.1 = some .local) : AzP X c n sc σ z (.Tuple (xs.map fun p => Expr.Name p.1 p.2) kk tp) (.tup vs) (addAll σ (xs.map (·.1)) vs) := fun A env s x Q E rm en S r h => by
  cases r with
  | tup p q r =>
    rename_i a vals
    obtain ⟨e1, e2, e3⟩ := eachNames (env := env) xs
    refine wpAny_assign_Tuple rm.1 p (by rw [e3]; simp [r.length, hl]) e2 fun h' e => ?_
    have kk : KeepB Option.none s.heap h' := .of _ fun b o q => e b o (Nat.ne_of_lt (Heap.lt_size q)) q
    rw [e1]
    refine inOrderP_ xs vs vals σ en (S.stepN kk) (r.mono (kk.up c)) hx fun h'' tk k2 S2 => h h'' tk (fun b o n q => k2 b o n (kk.all b o q)) S2

/-- closures -/
def closOf (cs : List (Str × Addr)) : List (Str × NameKind) → List (Str × Addr) → List (Str × Addr)
  | [], acc => acc
  | (x, k) :: r, acc => if k == .free then closOf cs r ((x, (cs.lookup x).getD 0) :: acc) else closOf cs r acc
theorem closureGo {env : Env} (f : Str × NameKind → List (Str × Addr) → Sem (ForInStep (List (Str × Addr))))
    (hf : ∀ x k cs, f (x, k) cs = if k == .free then (do let a ← cellOf env x; pure (.yield ((x, a) :: cs))) else pure (.yield cs)) : ∀ (names : List (Str × NameKind)) (acc : List (Str × Addr)), (∀ p ∈ names, p.2 = .free → ∃ a, env.cells.lookup p.1 = some a) →
    forIn names acc f = pure (closOf env.cells names acc)
  | [], acc, _ => rfl
  | (x, k) :: r, acc, h => by
    rw [List.forIn_cons, hf]
    unfold closOf
    by_cases hk : (k == NameKind.free) = true
    · rw [if_pos hk, if_pos hk]
      obtain ⟨a, ha⟩ := h (x, k) (.head _) (by simpa using hk)
      have e : cellOf env x = pure a := by unfold cellOf; rw [ha]
      rw [e, ha]
      exact closureGo f hf r _ fun p hp => h p (.tail _ hp)
    · rw [if_neg hk, if_neg hk]
      exact closureGo f hf r _ fun p hp => h p (.tail _ hp)
theorem closure_ {scope : Scope} {env : Env} (h : ∀ p ∈ scope.names, p.2 = .free → ∃ a, env.cells.lookup p.1 = some a) : closureFor scope env = pure (closOf env.cells scope.names []) := by
  unfold closureFor
  exact (congrArg (· >>= fun cs => pure cs) (closureGo _ (fun x k cs => by cases hk : k == NameKind.free <;> simp [hk]) scope.names [] h))
theorem closOf_mem {cs : List (Str × Addr)} : ∀ {names : List (Str × NameKind)} {acc : List (Str × Addr)} {p : Str × Addr}, p ∈ closOf cs names acc → p ∈ acc ∨ ((p.1, NameKind.free) ∈ names ∧ p.2 = (cs.lookup p.1).getD 0)
  | [], acc, p, h => .inl h
  | (x, k) :: r, acc, p, h => by
    unfold closOf at h
    split at h
    · rename_i hk
      rcases closOf_mem h with h | h
      · rcases List.mem_cons.mp h with e | h
        · subst e; exact .inr ⟨by rw [show k = .free by simpa using hk]; exact .head _, rfl⟩
        · exact .inl h
      · exact .inr ⟨.tail _ h.1, h.2⟩
    · rcases closOf_mem h with h | h
      · exact .inl h
      · exact .inr ⟨.tail _ h.1, h.2⟩
theorem closOf_acc {cs : List (Str × Addr)} : ∀ {names : List (Str × NameKind)} {acc : List (Str × Addr)} {p : Str × Addr}, p ∈ acc → p ∈ closOf cs names acc
  | [], acc, p, h => h
  | (x, k) :: r, acc, p, h => by
    unfold closOf
    split
    · exact closOf_acc (.tail _ h)
    · exact closOf_acc h
theorem closOf_has {cs : List (Str × Addr)} : ∀ {names : List (Str × NameKind)} {acc : List (Str × Addr)} {x : Str}, (x, NameKind.free) ∈ names → (x, (cs.lookup x).getD 0) ∈ closOf cs names acc
  | (y, k) :: r, acc, x, h => by
    unfold closOf
    rcases List.mem_cons.mp h with e | h
    · cases e; rw [if_pos (by rfl)]; exact closOf_acc (.head _)
    · split
      · exact closOf_has h
      · exact closOf_has h
theorem lookup_of_mem {α : Type} : ∀ {l : List (Str × α)} {x : Str} {a : α}, (x, a) ∈ l → ∃ b, l.lookup x = some b
  | (y, b) :: r, x, a, h => by
    rw [List.lookup_cons]
    cases e : x == y with
    | true => exact ⟨b, rfl⟩
    | false =>
      rcases List.mem_cons.mp h with q | h
      · cases q; simp at e
      · exact lookup_of_mem h
theorem closOf_some {cs : List (Str × Addr)} {names : List (Str × NameKind)} {x : Str} {a : Addr} (hx : (x, NameKind.free) ∈ names) (ha : cs.lookup x = some a) : (closOf cs names []).lookup x = some a := by
  obtain ⟨b, hb⟩ := lookup_of_mem (closOf_has (acc := []) (cs := cs) hx)
  rcases closOf_mem (mem_of_lookup hb) with h | h
  · cases h
  · have := h.2; rw [ha] at this; rw [hb]; exact congrArg some this
theorem closOf_only {cs : List (Str × Addr)} {names : List (Str × NameKind)} {x : Str} {a : Addr} (h : (closOf cs names []).lookup x = some a) : (x, NameKind.free) ∈ names ∧ a = (cs.lookup x).getD 0 := by
  rcases closOf_mem (mem_of_lookup h) with h | h
  · cases h
  · exact h

def relS (scope sc : Scope) : Scope := { scope with names := scope.names.map fun (n, k) => if (k == .free && sc.kind == .function && sc.names.lookup n == some .cell) then (n, .cell) else (n, k) }
theorem relabel_eq {scope : Scope} {env : Env} (en : EnvOk sc env) : relabel scope env = relS scope sc := by
  unfold relabel relS Env.kindOf; rw [en.scope]
/-- what is asked of a block's scope -/
def blockOk (scope sc : Scope) : Bool := scope.names.all fun p => (p.2 != .cell) && (p.2 != .free || (scope.names.lookup p.1 == some .free && sc.names.lookup p.1 == some .cell)) && (p.2 != .local || scope.names.lookup p.1 == some .local)
theorem blockOk.at {scope sc : Scope} (h : blockOk scope sc = true) : ∀ p ∈ scope.names, p.2 ≠ .cell ∧ (p.2 = .free → scope.names.lookup p.1 = some .free ∧ sc.names.lookup p.1 = some .cell) ∧ (p.2 = .local → scope.names.lookup p.1 = some .local) := fun p hp => by
  have := List.all_eq_true.mp h p hp
  simp only [Bool.and_eq_true, Bool.or_eq_true, bne_iff_ne, ne_eq, beq_iff_eq] at this
  exact ⟨this.1.1, fun e => this.1.2.resolve_left (fun q => q e), fun e => this.2.resolve_left (fun q => q e)⟩
theorem relS_lookup {scope sc : Scope} : ∀ {names : List (Str × NameKind)} {x : Str} {kk : NameKind}, (names.map fun (n, k) => if (k == NameKind.free && sc.kind == ScopeKind.function && sc.names.lookup n == some NameKind.cell) then (n, NameKind.cell) else (n, k)).lookup x = some kk →
    ∃ k', names.lookup x = some k' ∧ (k' = kk ∨ (k' = .free ∧ kk = .cell))
  | [], x, k, h => by simp at h
  | (y, k₀) :: r, x, k, h => by
    rw [List.map_cons] at h
    dsimp only at h
    rw [List.lookup_cons]
    split at h
    · rename_i hc
      rw [List.lookup_cons] at h
      cases e : x == y with
      | true => rw [e] at h; cases h; simp only [Bool.and_eq_true, beq_iff_eq] at hc; exact ⟨k₀, rfl, .inr ⟨hc.1.1, rfl⟩⟩
      | false => rw [e] at h; exact relS_lookup (scope := scope) h
    · rw [List.lookup_cons] at h
      cases e : x == y with
      | true => rw [e] at h; cases h; exact ⟨_, rfl, .inl rfl⟩
      | false => rw [e] at h; exact relS_lookup (scope := scope) h
theorem block_env {scope : Scope} {env : Env} {C : Addr} (en : EnvOk sc env) (hb : blockOk scope sc = true) (hk : scope.kind = .function) : EnvOk (relS scope sc) (compEnvC scope (closOf env.cells scope.names []) C env) where
  scope := relabel_eq en
  gl := en.gl
  bi := en.bi
  kf := hk
  plain := fun x h => by
    obtain ⟨k', h1, h2⟩ := relS_lookup (scope := scope) h
    cases e : (closOf env.cells scope.names []).lookup x with
    | none => exact e
    | some a =>
      have := (blockOk.at hb _ (closOf_only e).1).2.1 rfl
      rw [h1] at this
      rcases h2 with h2 | ⟨_, h2⟩
      · rw [h2] at this; cases this.1
      · cases h2
  held := fun x h => by
    obtain ⟨k', h1, h2⟩ := relS_lookup (scope := scope) h
    have hm := mem_of_lookup h1
    rcases h2 with h2 | ⟨h2, _⟩
    · exact absurd h2 ((blockOk.at hb _ hm).1)
    · rw [h2] at hm
      obtain ⟨a, ha⟩ := en.held x ((blockOk.at hb _ hm).2.1 rfl).2
      exact ⟨a, closOf_some hm ha⟩
/-- what of the outer names the block sees -/
def CapOk (scope : Scope) (σ σc : Sig) : Prop := ∀ x v, σc.lookup x = some v → σ.lookup x = some v ∧ NoCell v ∧ (x, NameKind.free) ∈ scope.names
theorem CapOk.nil {scope : Scope} : CapOk scope σ [] := fun _ _ e => by cases e
theorem CapOk.cons {scope : Scope} {σc : Sig} {x : Str} {v : PV} (e : σ.lookup x = some v) (hn : NoCell v) (hf : scope.names.lookup x = some .free) (r : CapOk scope σ σc) : CapOk scope σ ((x, v) :: σc) := fun y u q => by
  rw [List.lookup_cons] at q
  split at q
  · rename_i b
    have := eq_of_beq b
    subst this; cases q; exact ⟨e, hn, mem_of_lookup hf⟩
  · exact r y u q
theorem block_SS {scope : Scope} {env : Env} {C : Addr} {σc : Sig} {hm h2 : Heap} {m : Str → Option Value} (en : EnvOk sc env) (S : SS X c env σ z hm) (hb : blockOk scope sc = true) (hc : CapOk scope σ σc)
    (k : ∀ b o, hm.get? b = some o → h2.get? b = some o) (hC : hm.get? C = Option.none) (hn : h2.Ns C m) : SS X Option.none (compEnvC scope (closOf env.cells scope.names []) C env) σc [] h2 := by
  have kk : KeepB c hm h2 := .of _ k
  have hcl : ∀ p ∈ closOf env.cells scope.names [], p ∈ env.cells := fun p hp => by
    rcases closOf_mem hp with h | ⟨h1, h2⟩
    · cases h
    · obtain ⟨a, ha⟩ := en.held _ ((blockOk.at hb _ h1).2.1 rfl).2
      rw [ha] at h2
      have : p = (p.1, a) := by rw [show a = p.2 from h2.symm]
      rw [this]; exact mem_of_lookup ha
  refine ⟨?_, ⟨(by intro q; cases q), fun p hp => ⟨(by intro q; cases q), ?_⟩, ?_, m, hn, ?_⟩, rfl⟩
  · obtain ⟨h₀, g, q⟩ := S.base
    refine ⟨h₀, g, fun b o e => ⟨k b o (q b o e).1, (by intro q; cases q), ?_, fun p hp => (q b o e).2.2.2 p (hcl p hp)⟩⟩
    intro q'
    have := (q b o e).1
    rw [q', show (compEnvC scope (closOf env.cells scope.names []) C env).locals = C from rfl, hC] at this
    cases this
  · obtain ⟨v, o, ho, hd⟩ := (S.loc.cells p (hcl p hp)).2
    exact ⟨v, o, k _ o ho, hd⟩
  · intro x y a hx hy
    have up : ∀ x, (closOf env.cells scope.names []).lookup x = some a → env.cells.lookup x = some a := fun x h => by
      obtain ⟨h1, h2⟩ := closOf_only h
      obtain ⟨b, hb'⟩ := en.held _ ((blockOk.at hb _ h1).2.1 rfl).2
      rw [hb'] at h2; rw [h2]; exact hb'
    exact S.loc.apart x y a (up x hx) (up y hy)
  · intro x v e
    obtain ⟨h1, h2, h3⟩ := hc x v e
    obtain ⟨m₀, hm₀, hv⟩ := S.loc.vals
    obtain ⟨val, r, ho⟩ := hv x v h1
    obtain ⟨a, ha⟩ := en.held _ ((blockOk.at hb _ h3).2.1 rfl).2
    unfold Holds1 at ho
    rw [ha] at ho
    refine ⟨val, (r.toNone h2).mono (.of _ k), ?_⟩
    unfold Holds1
    rw [show (compEnvC scope (closOf env.cells scope.names []) C env).cells = closOf env.cells scope.names [] from rfl, closOf_some h3 ha]
    obtain ⟨o, ho1, ho2⟩ := ho
    exact ⟨o, k _ o ho1, ho2⟩
end
end Mine

namespace Mine
section
variable {X : Cx} {c : Option Addr} {n : Nat} {sc : Scope} {σ σ' τ : Sig} {z z' z₁ z₂ : List PV} {R : FV → Sig → List PV → Prop} {rest : List Stmt}

/-- the tests of a block -/
def Ifs (X : Cx) (n : Nat) (sc : Scope) (τ : Sig) (ifs : List Expr) (b : Bool) : Prop :=
  ∀ (A : Around) (env : Env) (s : Shared) (Q : Bool → Shared → Prop) (E : Value → Shared → Prop), Room n A → EnvOk sc env → SS X Option.none env τ [] s.heap →
    (∀ h' tk, KeepB Option.none s.heap h' → Q b { s with heap := h', toks := tk }) → wpAny (model X.prog X.w) A (forIn ifs true fun c r => if r = true then do let ok ← PySem.isTrue c env (eval c env); pure (ForInStep.yield ok) else pure (ForInStep.yield r)) Q E s
theorem Ifs.nil : Ifs X n sc τ [] true := fun A env s Q E rm en S h => by
  rw [List.forIn_nil]; exact wpAny_pure (h s.heap s.toks (KeepB.refl _ _))
theorem Ifs.one {e : Expr} {b : Bool} (h1 : Tz X Option.none n sc τ [] e b []) : Ifs X n sc τ [e] b := fun A env s Q E rm en S h => by
  rw [List.forIn_cons]
  refine wpAny_bind ?_
  rw [if_pos rfl]
  refine wpAny_bind (h1 A env s _ _ rm en S fun h' tk k _ => wpAny_pure ?_)
  dsimp only
  rw [List.forIn_nil]
  exact wpAny_pure (h h' tk k)
def ElOk (X : Cx) (n : Nat) (sc : Scope) (σc : Sig) (t : Expr) (ifs : List Expr) (elt : Expr) (items : List PV) (p : PV → Bool) (g : PV → PV) : Prop :=
  ∀ q ∈ items, ∃ τ, AzP X Option.none n sc σc [] t q τ ∧ Ifs X n sc τ ifs (p q) ∧ (p q = true → Ez X Option.none n sc τ [] elt (g q) [])
theorem Reps.scalar {c' : Option Addr} {h h' : Heap} : ∀ {vs : List Value} {l : List PV}, (∀ q ∈ l, Scalar q) → Reps c h vs l → Reps c' h' vs l
  | _, _, _, .nil => .nil
  | _, _, hs, .cons a r => .cons ((hs _ (.head _)).rep a) (Reps.scalar (fun q hq => hs q (.tail _ hq)) r)
theorem Reps.snoc {h : Heap} {v : Value} {q : PV} : ∀ {vs : List Value} {l : List PV}, Reps c h vs l → Rep c h v q → Reps c h (vs ++ [v]) (l ++ [q])
  | _, _, .nil, r => .cons r .nil
  | _, _, .cons a r, s => .cons a (Reps.snoc r s)
def outs (items : List PV) (p : PV → Bool) (g : PV → PV) (i : Nat) : List PV := ((items.take i).filter p).map g
def CInv (s₂ : Shared) (items : List PV) (p : PV → Bool) (g : PV → PV) (hm : Heap) (St : Nat → Heap → Prop) (D C : Addr) (k : Nat) (s' : Shared) : Prop :=
  ∃ i h'' tk m ys, s' = { s₂ with heap := h'', toks := tk } ∧ St i h'' ∧ (∀ b o, hm.get? b = some o → h''.get? b = some o) ∧ h''.PlainList D (List.toArray ys) ∧ Reps Option.none h'' ys (outs items p g i) ∧ h''.Ns C m ∧ i ≤ items.length ∧ k = items.length + 1 - i

theorem comp_run {A : Around} {env : Env} {s₂ : Shared} {E : Value → Shared → Prop} {t iter elt : Expr} {ifs : List Expr} {scope : Scope} {pos : Pos} {items : List PV} {p : PV → Bool} {g : PV → PV} {σc : Sig} {hm : Heap}
    {I : Addr} {fp wr : List Addr} {P Md : Nat → Value → Heap → Prop} {St : Nat → Heap → Prop} {RR : Value → Addr → Result → Shared → Prop} (rm : Room n A) (en : EnvOk sc env) (S : SS X c env σ z hm) (km : KeepB Option.none hm s₂.heap)
    (W : KTurns X.prog X.w A t I fp wr items.length P Md St) (st : St 0 s₂.heap) (self : ∀ j s Q E, St j s.heap → Q (.ref I) s → wpAny (model X.prog X.w) A (pyIter (.ref I)) Q E s) (hwr : ∀ b ∈ wr, hm.get? b = Option.none) (hfp : ∀ b ∈ fp, FpOk c env s₂.heap b) (hF : ∀ j h, St j h → Fields h wr)
    (hP : ∀ i v h, i < items.length → P i v h → (∀ q x, Rep c hm x q → Rep c h x q) → CellList c h → ∃ p, items[i]? = some p ∧ Rep c h v p)
    (hb : blockOk scope sc = true) (hk : scope.kind = .function) (hcap : CapOk scope σ σc) (hel : ElOk X n (relS scope sc) σc t ifs elt items p g) (hno : ∀ q ∈ items, NoCell q) (hsc : ∀ q ∈ items, p q = true → Scalar (g q)) (hlen : items.length ≤ 100000)
    (hform : ∀ (cenv : Env) (acc : Value) (R : Result → Shared → Prop) (Iv : Nat → Shared → Prop) (k : Nat) (s : Shared), Iv k s →
      (∀ k s, Iv k s → wpAny (model X.prog X.w) A (pyNext (.ref I)) (fun r s₁ => match r with
        | Option.none => R (.ok .next) s₁
        | some v => wpAny (model X.prog X.w) A (letOwnedTupleGo t (.ref I) v) (fun _ s₁' => wpAny (model X.prog X.w) A (assign t cenv v) (fun _ s₂ =>
            wpAny (model X.prog X.w) A (forIn ifs true fun c r => if r = true then do let ok ← PySem.isTrue c cenv (eval c cenv); pure (ForInStep.yield ok) else pure (ForInStep.yield r)) (fun ok s₃ =>
              if ok = true then wpAny (model X.prog X.w) A (eval elt cenv) (fun x s₄ =>
                wpAny (model X.prog X.w) A (call (.builtin "list.append") [acc, x]) (fun _ s₅ => ∃ m, m < k ∧ Iv m s₅) (fun _ _ => False) s₄) (fun _ _ => False) s₃
              else ∃ m, m < k ∧ Iv m s₃) (fun _ _ => False) s₂) (fun _ _ => False) s₁') (fun _ _ => False) s₁) (fun _ _ => False) s) →
      codeAny (model X.prog X.w) A (.compLoop (.ListComp elt [⟨t, iter, ifs, 0⟩] scope pos) 0 (.ref I) acc cenv) R s)
    (hRR : ∀ D C h'' tk m ys, (∀ b o, hm.get? b = some o → h''.get? b = some o) → hm.get? D = Option.none → hm.get? C = Option.none → D ≠ C → h''.PlainList D (List.toArray ys) → Reps Option.none h'' ys ((items.filter p).map g) → h''.Ns C m → RR (.ref D) C (.ok .next) { s₂ with heap := h'', toks := tk }) :
    wpAny (model X.prog X.w) A (newList []) (fun acc s₃ => wpAny (model X.prog X.w) A (newFunctionEnv scope env.globals (closOf env.cells scope.names []) [] env.qual none .none (some env)) (fun cenv s₄ =>
      codeAny (model X.prog X.w) A (.compStart (.ListComp elt [⟨t, iter, ifs, 0⟩] scope pos) 0 (.ref I) acc { cenv with scope := relabel scope env }) (RR acc cenv.locals) s₄) E s₃) E s₂ := by
  have S2 : SS X c env σ z s₂.heap := S.stepN km
  refine wpAny_newObj_type (wpAny_newFunctionEnv (fun y hy => (blockOk.at hb y hy).1) (by intro y hy; simp at hy) (fun h₁ hns₁ hsb₁ => ?_) hk)
  dsimp only at hns₁ hsb₁ ⊢
  generalize hH2 : s₂.heap.push { cls := .type "list", dict := none, data := .seq ([] : List Value).toArray } = H2 at hns₁ hsb₁ ⊢
  have hC : H2.objs.size = s₂.heap.objs.size + 1 := by rw [← hH2, Heap.size_push]
  have hDC : s₂.heap.objs.size ≠ H2.objs.size := by rw [hC]; exact Nat.ne_of_lt (Nat.lt_succ_self _)
  have below : ∀ b, b < s₂.heap.objs.size → b ≠ H2.objs.size ∧ b ≠ s₂.heap.objs.size := fun b hb => ⟨by rw [hC]; exact Nat.ne_of_lt (Nat.lt_succ_of_lt hb), Nat.ne_of_lt hb⟩
  have old : ∀ b o, s₂.heap.get? b = some o → h₁.get? b = some o := fun b o e => hsb₁.extBut b o (below b (Heap.lt_size e)).1 (Heap.get?_push_of_some _ (hH2 ▸ Heap.get?_push_of_some _ e))
  have hacc : h₁.PlainList s₂.heap.objs.size #[] := ⟨_, hsb₁.extBut _ _ hDC (Heap.get?_push_of_some _ (hH2 ▸ Heap.get?_push_size _ rfl))⟩
  have hst₁ : St 0 h₁ := W.frame _ _ _ st fun b _ o e => old b o e
  have newm : ∀ a, s₂.heap.objs.size ≤ a → hm.get? a = Option.none := fun a ha => by
    cases e : hm.get? a with
    | none => rfl
    | some o => exact absurd (Heap.lt_size (km.all _ _ e)) (Nat.not_lt.mpr ha)
  have newD := newm _ (Nat.le_refl s₂.heap.objs.size)
  have newC := newm H2.objs.size (by rw [hC]; exact Nat.le_succ _)
  have hDf : ∀ b ∈ fp, b ≠ s₂.heap.objs.size ∧ b ≠ H2.objs.size := fun b hb => ⟨(below b (hfp b hb).2.2.2).2, (below b (hfp b hb).2.2.2).1⟩
  have hso : ∀ q ∈ (items.filter p).map g, Scalar q := fun q hq => by
    obtain ⟨a, ha, rfl⟩ := List.mem_map.mp hq
    have := List.mem_filter.mp ha
    exact hsc a this.1 this.2
  have hsoi : ∀ i, ∀ q ∈ outs items p g i, Scalar q := fun i q hq => by
    obtain ⟨a, ha, rfl⟩ := List.mem_map.mp hq
    have := List.mem_filter.mp ha
    exact hsc a (List.mem_of_mem_take this.1) this.2
  have en' := block_env (C := H2.objs.size) en hb hk
  have loop : ∀ s₃ : Shared, s₃ = { s₂ with heap := h₁, toks := s₂.toks + ([] : List (Str × Value)).length } →
      codeAny (model X.prog X.w) A (.compLoop (.ListComp elt [⟨t, iter, ifs, 0⟩] scope pos) 0 (.ref I) (.ref s₂.heap.objs.size) (compEnvC scope (closOf env.cells scope.names []) H2.objs.size env))
        (RR (.ref s₂.heap.objs.size) H2.objs.size) s₃ := by
    rintro s₃ rfl
    refine hform _ _ _ (CInv s₂ items p g hm St s₂.heap.objs.size H2.objs.size) (items.length + 1) _ ⟨0, h₁, _, _, [], rfl, hst₁, fun b o e => old b o (km.all b o e), hacc, by simp [outs]; exact .nil, hns₁, Nat.zero_le _, rfl⟩ ?_
    rintro k s' ⟨i, h2, tk2, m2, ys, rfl, st2, km2, pl2, rp2, ns2, hle, rfl⟩
    by_cases hlt : i < items.length
    · refine W.item i _ _ _ hlt st2 fun v h3 tk3 md hk3 => ?_
      refine W.go i v _ _ _ md fun h4 hp st4 hk4 => ?_
      have k4 : ∀ b o, b ∉ wr → h2.get? b = some o → h4.get? b = some o := fun b o hb e => hk4 b o hb (hk3 b o hb e)
      have km4 : ∀ b o, hm.get? b = some o → h4.get? b = some o := fun b o e => k4 b o (fun hb => by rw [hwr b hb] at e; cases e) (km2 b o e)
      have pl4 : h4.PlainList s₂.heap.objs.size ys.toArray := pl2.at fun o e => k4 _ o (not_fields (hF _ _ st2) pl2.isList) e
      have ns4 : h4.Ns H2.objs.size m2 := ns2.at' fun o e => k4 _ o (ns_not_fields (hF _ _ st2) ns2) e
      obtain ⟨q, hq, rq⟩ := hP i v h4 hlt hp (fun q x r => r.mono (.of _ km4)) (CellAt.isL (z := z) (by
        have := S.cell
        cases c with
        | none => exact this
        | some a => obtain ⟨vs, pp, rr, qq⟩ := this; exact ⟨vs, pp.at fun o e => km4 _ o e, rr.mono (.of _ km4), fun y => (qq y).at fun o e => km4 _ o e⟩))
      have hqm : q ∈ items := List.mem_of_getElem? hq
      obtain ⟨τ, haz, hifs, helt⟩ := hel q hqm
      have SB := block_SS (σc := σc) en S hb hcap km4 newC ns4
      refine haz A _ { s₂ with heap := h4, toks := tk3 } v _ _ rm en' SB (rq.toNone (hno q hqm)) fun h5 tk5 k5 S5 => ?_
      refine hifs A _ { s₂ with heap := h5, toks := tk5 } _ _ rm en' S5 fun h6 tk6 k6 => ?_
      have km6 : ∀ b o, hm.get? b = some o → h6.get? b = some o := fun b o e => k6.all b o (k5 b o (fun q => by rw [q, show (compEnvC scope (closOf env.cells scope.names []) H2.objs.size env).locals = H2.objs.size from rfl, newC] at e; cases e) (km4 b o e))
      have pl6 : h6.PlainList s₂.heap.objs.size ys.toArray := pl4.at fun o e => k6.all _ o (k5 _ o hDC e)
      have st6 : St (i + 1) h6 := W.frame _ _ _ st4 fun b hb o e => k6.all b o (k5 b o (hDf b hb).2 e)
      obtain ⟨m5, ns5, _⟩ := S5.loc.vals
      have ns6 : h6.Ns H2.objs.size m5 := ns5.keeps k6.all
      have htake : items.take (i + 1) = items.take i ++ [q] := by rw [List.take_add_one, hq]; rfl
      cases hpq : p q with
      | false =>
        rw [if_neg (by decide)]
        refine ⟨items.length + 1 - (i + 1), by omega, i + 1, h6, tk6, m5, ys, rfl, st6, km6, pl6, ?_, ns6, hlt, rfl⟩
        have : outs items p g (i + 1) = outs items p g i := by unfold outs; rw [htake, List.filter_append]; simp [hpq]
        rw [this]; exact rp2.scalar (hsoi i)
      | true =>
        rw [if_pos rfl]
        refine helt hpq A _ { s₂ with heap := h6, toks := tk6 } _ _ rm en' (S5.stepN k6) fun x h7 tk7 k7 _ rx => ?_
        have hys : (List.toArray ys).size ≤ sizeLine := by
          have h1 := rp2.length
          have h2 : (outs items p g i).length ≤ items.length := by
            unfold outs; rw [List.length_map]
            exact Nat.le_trans (List.length_filter_le _ _) (by rw [List.length_take]; exact Nat.min_le_right _ _)
          rw [sizeLine_eq]; simp; omega
        refine wpAny_list_append_plain (hsz := hys) (pl6.at fun o e => k7.all _ o e) fun h8 pl8 hs8 => ?_
        have k8 : ∀ b o, b ≠ s₂.heap.objs.size → h6.get? b = some o → h8.get? b = some o := fun b o n e => hs8.extBut b o n (k7.all b o e)
        refine ⟨items.length + 1 - (i + 1), by omega, i + 1, h8, tk7, m5, ys ++ [x], rfl, W.frame _ _ _ st6 fun b hb o e => k8 b o (hDf b hb).1 e, fun b o e => k8 b o (fun q => by rw [q, newD] at e; cases e) (km6 b o e), by simpa using pl8, ?_, ns6.at' fun o e => k8 _ o (Ne.symm hDC) e, hlt, rfl⟩
        have : outs items p g (i + 1) = outs items p g i ++ [g q] := by unfold outs; rw [htake, List.filter_append]; simp [hpq]
        rw [this]; exact (rp2.scalar (hsoi i)).snoc ((hsc q hqm hpq).rep rx)
    · have hin : i = items.length := by omega
      subst hin
      refine W.done _ _ _ st2 fun h3 tk3 hk3 => ?_
      have km3 : ∀ b o, hm.get? b = some o → h3.get? b = some o := fun b o e => hk3 b o (fun hb => by rw [hwr b hb] at e; cases e) (km2 b o e)
      refine hRR _ _ h3 tk3 m2 ys km3 newD newC hDC (pl2.at fun o e => hk3 _ o (not_fields (hF _ _ st2) pl2.isList) e) ?_ (ns2.at' fun o e => hk3 _ o (ns_not_fields (hF _ _ st2) ns2) e)
      have : outs items p g items.length = (items.filter p).map g := by unfold outs; rw [List.take_length]
      rw [this] at rp2; exact rp2.scalar hso
  exact codeAny_compStart_list (loop _ rfl) (self 0 _ _ _ hst₁ (loop _ rfl))
end
end Mine

namespace Mine
def Form (X : Cx) (t iter elt : Expr) (ifs : List Expr) (scope : Scope) (pos : Pos) : Prop :=
  ∀ (A : Around) (I : Addr) (cenv : Env) (acc : Value) (R : Result → Shared → Prop) (Iv : Nat → Shared → Prop) (k : Nat) (s : Shared), Iv k s →
      (∀ k s, Iv k s → wpAny (model X.prog X.w) A (pyNext (.ref I)) (fun r s₁ => match r with
        | Option.none => R (.ok .next) s₁
        | some v => wpAny (model X.prog X.w) A (letOwnedTupleGo t (.ref I) v) (fun _ s₁' => wpAny (model X.prog X.w) A (assign t cenv v) (fun _ s₂ =>
            wpAny (model X.prog X.w) A (forIn ifs true fun c r => if r = true then do let ok ← PySem.isTrue c cenv (eval c cenv); pure (ForInStep.yield ok) else pure (ForInStep.yield r)) (fun ok s₃ =>
              if ok = true then wpAny (model X.prog X.w) A (eval elt cenv) (fun x s₄ =>
                wpAny (model X.prog X.w) A (call (.builtin "list.append") [acc, x]) (fun _ s₅ => ∃ m, m < k ∧ Iv m s₅) (fun _ _ => False) s₄) (fun _ _ => False) s₃
              else ∃ m, m < k ∧ Iv m s₃) (fun _ _ => False) s₂) (fun _ _ => False) s₁') (fun _ _ => False) s₁) (fun _ _ => False) s) →
      codeAny (model X.prog X.w) A (.compLoop (.ListComp elt [⟨t, iter, ifs, 0⟩] scope pos) 0 (.ref I) acc cenv) R s
theorem noE {M : Model} {A : Around} {E : Value → Shared → Prop} {s : Shared} {α : Type} {t : Sem α} {Q : α → Shared → Prop} (h : wpAny M A t Q (fun _ _ => False) s) : wpAny M A t Q E s := wpAny_mono h (fun _ _ x => x) fun _ _ x => x.elim
theorem Form.name {X : Cx} {x : Str} {px : Pos} {iter elt : Expr} {ifs : List Expr} {scope : Scope} {pos : Pos} : Form X (.Name x px) iter elt ifs scope pos := fun A I cenv acc R Iv k s h0 turn =>
  codeAny_compLoop_tests Iv (fun k s hI => noE (wpAny_mono (turn k s hI) (fun r s₁ h => by
    cases r with
    | none => exact h
    | some v =>
      have h : wpAny (model X.prog X.w) A (assign (.Name x px) cenv v) _ _ s₁ := fun Γ p hΓ => h Γ p hΓ Γ p hΓ
      exact noE (wpAny_mono h (fun _ s₂ h => noE (wpAny_mono h (fun ok s₃ h => by
        cases ok with
        | true => exact noE (wpAny_mono h (fun x s₄ h => noE h) fun _ _ x => x)
        | false => exact h) fun _ _ x => x)) fun _ _ x => x)) fun _ _ x => x)) k h0
theorem Form.tuple {X : Cx} {elts : List Expr} {x1 : Nat} {tp : Pos} {iter elt : Expr} {scope : Scope} {pos : Pos} : Form X (.Tuple elts x1 tp) iter elt [] scope pos := fun A I cenv acc R Iv k s h0 turn => by
  refine LCp.codeAny_compLoop_pair Iv (fun k s hI => noE (wpAny_mono (turn k s hI) (fun r s₁ h => ?_) fun _ _ x => x)) k h0
  cases r with
  | none => exact h
  | some v =>
    refine noE (wpAny_mono h (fun _ s₁' h => noE (wpAny_mono h (fun _ s₂ h => ?_) fun _ _ x => x)) fun _ _ x => x)
    rw [List.forIn_nil] at h
    have h : wpAny (model X.prog X.w) A (eval elt cenv) _ _ s₂ := fun Γ p hΓ => h Γ p hΓ Γ p hΓ
    exact noE (wpAny_mono h (fun x s₄ h => noE h) fun _ _ x => x)
theorem Rep.monoC {c : Option Addr} {h h' : Heap} {C : Addr} {m : Str → Option Value} (hn : h.Ns C m) (k : ∀ b o, b ≠ C → h.get? b = some o → h'.get? b = some o) {v : Value} {p : PV} (r : Rep c h v p) : Rep c h' v p :=
  r.monoL (env := { (default : Env) with locals := C, cells := [] }) ⟨⟨m, hn⟩, fun p hp => nomatch hp⟩ fun b o _ n _ e => k b o n e
theorem Reps.monoC {c : Option Addr} {h h' : Heap} {C : Addr} {m : Str → Option Value} (hn : h.Ns C m) (k : ∀ b o, b ≠ C → h.get? b = some o → h'.get? b = some o) {v : List Value} {p : List PV} (r : Reps c h v p) : Reps c h' v p :=
  r.monoL (env := { (default : Env) with locals := C, cells := [] }) ⟨⟨m, hn⟩, fun p hp => nomatch hp⟩ fun b o _ n _ e => k b o n e
section
variable {X : Cx} {c : Option Addr} {n : Nat} {sc : Scope} {σ σ' τ : Sig} {z z' z₁ z₂ : List PV} {R : FV → Sig → List PV → Prop} {rest : List Stmt}
theorem Ez.comp {t iter elt : Expr} {ifs : List Expr} {scope : Scope} {pos : Pos} {items : List PV} {σc : Sig} (p : PV → Bool) (g : PV → PV) (hform : Form X t iter elt ifs scope pos) (hi : Itz X c n sc σ z iter t items z₁)
    (hb : blockOk scope sc = true) (hk : scope.kind = .function) (hcap : CapOk scope σ σc) (hel : ElOk X n (relS scope sc) σc t ifs elt items p g) (hno : ∀ q ∈ items, NoCell q) (hsc : ∀ q ∈ items, p q = true → Scalar (g q)) (hlen : items.length ≤ 100000)
    (hs : ∀ env x, foldedSetIterable iter env x = pure x) : Ez X c n sc σ z (.ListComp elt [⟨t, iter, ifs, 0⟩] scope pos) (.list ((items.filter p).map g)) z₁ := fun A env s Q E rm en S h => by
  rw [eval_ListComp]
  refine wpAny_comprehension_free (use := Option.none) rfl (hs env) (closure_ fun y hy e => en.held _ ((blockOk.at hb y hy).2.1 e).2) hk (fun y hy => (blockOk.at hb y hy).2.2) (hi A env s _ _ rm en S ?_)
  intro I fp wr P Md St hm h' tk k1 c1 km W st self hwr hfp hF hP
  refine comp_run (RR := fun acc C => compPost (model X.prog X.w) A E Option.none Q acc C) rm en (S.step k1 c1) km W st self hwr hfp hF hP hb hk hcap hel hno hsc hlen (fun cenv acc R Iv k s h0 turn => hform A I cenv acc R Iv k s h0 turn) ?_
  intro D C h2 tk2 m ys km2 hD hC hDC pl rp ns
  refine ⟨m, ns, fun h3 hs3 => ?_⟩
  have km3 : KeepB Option.none hm h3 := .of _ fun b o e => hs3.extBut b o (by rintro rfl; rw [hC] at e; cases e) (km2 b o e)
  refine h (.ref D) h3 tk2 (k1.trans (km3.up c)) (c1.stepN km3) (.list (pl.extBut hs3.extBut hDC) ?_ (rp.scalar ?_))
  · intro q; obtain ⟨o, ho⟩ := (S.step k1 c1).ws.2 D q; rw [hD] at ho; cases ho
  · intro q hq
    obtain ⟨a, ha, rfl⟩ := List.mem_map.mp hq
    have := List.mem_filter.mp ha
    exact hsc a this.1 this.2
set_option maxHeartbeats 1000000 in
theorem Sx.assignComp {y : Str} {py : Pos} {t iter elt : Expr} {ifs : List Expr} {scope : Scope} {pos spos : Pos} {items : List PV} {σc : Sig} (p : PV → Bool) (g : PV → PV) (hform : Form X t iter elt ifs scope pos) (hi : Itz X c n sc σ z iter t items z₁)
    (hb : blockOk scope sc = true) (hk : scope.kind = .function) (hcap : CapOk scope σ σc) (hel : ElOk X n (relS scope sc) σc t ifs elt items p g) (hno : ∀ q ∈ items, NoCell q) (hsc : ∀ q ∈ items, p q = true → Scalar (g q)) (hlen : items.length ≤ 100000)
    (hs : ∀ env x, foldedSetIterable iter env x = pure x) (hy : own sc y = true) (hsw : ∀ env, env.scope = sc → swapsWith (.ListComp elt [⟨t, iter, ifs, 0⟩] scope pos) (some (Expr.Name y py)) spos.line env = pure true)
    (h : Sx X c n sc ((y, .list ((items.filter p).map g)) :: σ) z₁ rest R) : Sx X c n sc σ z (Stmt.Assign [Expr.Name y py] (Expr.ListComp elt [⟨t, iter, ifs, 0⟩] scope pos) spos :: rest) R := fun A env s Q E rm en S pe hQ => by
  refine wpAny_execs_cons ?_
  rw [exec_Assign_Name_used _ _ _ _ (hsw env en.scope)]
  refine wpAny_bind (wpAny_standAt (wpAny_bind ?_))
  show wpAny _ A (do let _ ← comprehension (Expr.ListComp elt [⟨t, iter, ifs, 0⟩] scope pos) scope env _ (newList []) false (eval iter env) (some (PySem.assign (Expr.Name y py) env))) _ _ s
  refine wpAny_bind (wpAny_mono (wpAny_comprehension_free (use := some (PySem.assign (Expr.Name y py) env)) (Q := fun _ s' => wpAny (model X.prog X.w) A (execs rest env) Q E s') rfl (hs env) (closure_ fun y hy e => en.held _ ((blockOk.at hb y hy).2.1 e).2) hk (fun y hy => (blockOk.at hb y hy).2.2) (hi A env s _ _ rm en S ?_)) (fun _ s' hq => wpAny_pure (wpAny_pure hq)) fun _ _ e => e)
  intro I fp wr P Md St hm h' tk k1 c1 km W st self hwr hfp hF hP
  refine comp_run (RR := fun acc C => compPost (model X.prog X.w) A E (some (PySem.assign (Expr.Name y py) env)) (fun _ s' => wpAny (model X.prog X.w) A (execs rest env) Q E s') acc C) rm en (S.step k1 c1) km W st self hwr hfp hF hP hb hk hcap hel hno hsc hlen (fun cenv acc R Iv k s h0 turn => hform A I cenv acc R Iv k s h0 turn) ?_
  intro D C h2 tk2 m ys km2 hD hC hDC pl rp ns
  have S1 := S.step k1 c1
  have km2' : KeepB Option.none hm h2 := .of _ km2
  show wpAny _ A (PySem.assign (Expr.Name y py) env (.ref D)) _ _ _
  have rD : Rep c h2 (.ref D) (.list ((items.filter p).map g)) := .list pl (by intro q; obtain ⟨o, ho⟩ := S1.ws.2 D q; rw [hD] at ho; cases ho) (rp.scalar (by
    intro q hq
    obtain ⟨a, ha, rfl⟩ := List.mem_map.mp hq
    have := List.mem_filter.mp ha
    exact hsc a this.1 this.2))
  refine wpAny_assign_Name (store_ (s := { s with heap := h2, toks := tk2 }) en (S1.stepN km2') rD hy fun h3 tk3 k3 S3 => ?_)
  have hCn : C ≠ env.locals ∧ (∀ p ∈ env.cells, C ≠ p.2) ∧ c ≠ some C := by
    refine ⟨fun q => ?_, fun p hp q => ?_, fun q => ?_⟩
    · obtain ⟨m, ⟨o, _, _, ho, _⟩, _⟩ := S1.loc.vals; rw [q] at hC; rw [hC] at ho; cases ho
    · obtain ⟨v, o, ho, _⟩ := (S1.loc.cells p hp).2; rw [q] at hC; rw [hC] at ho; cases ho
    · obtain ⟨o, ho⟩ := S1.ws.2 C q; rw [hC] at ho; cases ho
  refine ⟨m, ns.at' fun o e => k3 _ o hCn.2.2 hCn.1 hCn.2.1 e, fun h4 hs4 => ?_⟩
  have k34 : ∀ b o, b ≠ C → h3.get? b = some o → h4.get? b = some o := fun b o n e => hs4.extBut b o n e
  have kall : ∀ b o, hm.get? b = some o → b ≠ C := fun b o e q => by rw [q, hC] at e; cases e
  have ns3 : h3.Ns C m := ns.at' fun o e => k3 _ o hCn.2.2 hCn.1 hCn.2.1 e
  have S4 : SS X c env ((y, .list ((items.filter p).map g)) :: σ) z₁ h4 := by
    refine ⟨?_, ⟨S3.loc.off, fun p hp => ⟨(S3.loc.cells p hp).1, let ⟨v, o, ho, hd⟩ := (S3.loc.cells p hp).2; ⟨v, o, k34 _ o (Ne.symm (hCn.2.1 p hp)) ho, hd⟩⟩, S3.loc.apart, ?_⟩, ?_⟩
    · obtain ⟨h₀, g₀, q₀⟩ := S1.base
      exact ⟨h₀, g₀, fun b o e => ⟨k34 b o (kall b o (q₀ b o e).1) (k3 b o (q₀ b o e).2.1 (q₀ b o e).2.2.1 (q₀ b o e).2.2.2 (km2 b o (q₀ b o e).1)), (q₀ b o e).2⟩⟩
    · obtain ⟨m3, hm3, hv3⟩ := S3.loc.vals
      refine ⟨m3, hm3.at' fun o e => k34 _ o (Ne.symm hCn.1) e, fun x v e => ?_⟩
      obtain ⟨val, r, ho⟩ := hv3 x v e
      exact ⟨val, r.monoC ns3 k34, ho.step fun p hp o e => k34 _ o (Ne.symm (hCn.2.1 p hp)) e⟩
    · have := S3.cell
      cases c with
      | none => exact this
      | some a => obtain ⟨vs, pp, rr, qq⟩ := this; exact ⟨vs, pp.at fun o e => k34 _ o (fun q => hCn.2.2 (by rw [q])) e, rr.monoC ns3 k34, fun y => (qq y).at fun o e => k34 _ o (fun q => hCn.2.2 (by rw [q])) e⟩
  exact h A env { s with heap := h4, toks := tk3 } Q E rm en S4 pe fun f fv σ' z' h5 tk5 k5 S5 fr hr => hQ f fv σ' z' h5 tk5 (fun b o n1 n2 n3 e => by
    have e1 := k1 b o n1 e
    exact k5 b o n1 n2 n3 (k34 b o (kall b o e1) (k3 b o n1 n2 n3 (km2 b o e1)))) S5 fr hr
end
end Mine

namespace Mine
theorem len1 {P : List Value → Prop} (h : ∀ a, P [a]) : ∀ xs : List Value, xs.length = 1 → P xs
  | [a], _ => h a
theorem len2 {P : List Value → Prop} (h : ∀ a b, P [a, b]) : ∀ xs : List Value, xs.length = 2 → P xs
  | [a, b], _ => h a b
theorem len3 {P : List Value → Prop} (h : ∀ a b c, P [a, b, c]) : ∀ xs : List Value, xs.length = 3 → P xs
  | [a, b, c], _ => h a b c
theorem len4 {P : List Value → Prop} (h : ∀ a b c d, P [a, b, c, d]) : ∀ xs : List Value, xs.length = 4 → P xs
  | [a, b, c, d], _ => h a b c d
def scopeOk (sc : Scope) : Bool := sc.names.all fun p => p.2 != .cell || sc.names.lookup p.1 == some .cell
theorem cellsFrom_in : ∀ {names : List (Str × NameKind)} {k : Nat} {acc : List (Str × Addr)} {p : Str × Addr}, p ∈ cellsFrom k names acc → p ∈ acc ∨ (p.1, NameKind.cell) ∈ names
  | [], k, acc, p, h => .inl h
  | (x, kd) :: r, k, acc, p, h => by
    unfold cellsFrom at h
    split at h
    · rename_i hk
      rcases cellsFrom_in h with h | h
      · rcases List.mem_cons.mp h with e | h
        · subst e; exact .inr (by rw [show kd = .cell by simpa using hk]; exact .head _)
        · exact .inl h
      · exact .inr (.tail _ h)
    · rcases cellsFrom_in h with h | h
      · exact .inl h
      · exact .inr (.tail _ h)
theorem lookup_nodup : ∀ {l : List (Str × Addr)} {p : Str × Addr}, (l.map (·.1)).Nodup → p ∈ l → l.lookup p.1 = some p.2
  | q :: r, p, hn, hp => by
    rw [List.map_cons, List.nodup_cons] at hn
    obtain ⟨y, b⟩ := q
    rw [List.lookup_cons]
    rcases List.mem_cons.mp hp with e | hp
    · subst e; simp
    · have : (p.1 == y) = false := by
        cases e : p.1 == y with
        | false => rfl
        | true => exact absurd (List.mem_map.mpr ⟨p, hp, eq_of_beq e⟩) hn.1
      rw [this]; exact lookup_nodup hn.2 hp
theorem cellsFrom_keys : ∀ {names : List (Str × NameKind)} {k k' : Nat} {acc acc' : List (Str × Addr)}, acc.map (·.1) = acc'.map (·.1) → (cellsFrom k names acc).map (·.1) = (cellsFrom k' names acc').map (·.1)
  | [], _, _, _, _, h => h
  | (x, kd) :: r, k, k', acc, acc', h => by
    unfold cellsFrom
    split
    · exact cellsFrom_keys (by rw [List.map_cons, List.map_cons, h])
    · exact cellsFrom_keys h
theorem keysNodup {names : List (Str × NameKind)} (k : Nat) (h : ((cellsFrom 0 names []).map (·.1)).Nodup) : ((cellsFrom k names []).map (·.1)).Nodup := by
  rw [cellsFrom_keys (k' := 0) (acc' := []) rfl]; exact h
section
variable {X : Cx} {c : Option Addr} {n : Nat} {sc : Scope} {σ σ' τ : Sig} {z z' z₁ z₂ : List PV} {rest : List Stmt}
theorem call_env {fd : FuncData} {L a : Addr} (hgl : fd.globals = mainGlobals) (hbi : fd.builtins = builtinsNs) (hs : scopeOk fd.scope = true) (hk : fd.scope.kind = .function) : EnvOk fd.scope (callEnvC fd L a) where
  scope := rfl
  gl := hgl
  bi := hbi
  kf := hk
  plain := fun x h => by
    cases e : (callEnvC fd L a).cells.lookup x with
    | none => rfl
    | some b =>
      rcases cellsFrom_in (mem_of_lookup e) with h' | h'
      · cases h'
      · have := List.all_eq_true.mp hs _ h'
        simp only [bne_self_eq_false, Bool.false_or, beq_iff_eq] at this
        rw [h] at this; cases this
  held := fun x h => Option.isSome_iff_exists.mp (cellsFrom_some fd.scope.names (L + 1) [] (.inl h))
def HoldC (cs : List (Str × Addr)) (m cm : Str → Option Value) (x : Str) (val : Value) : Prop := match cs.lookup x with
  | some _ => cm x = some val
  | Option.none => m x = some val
theorem bind_vals {h : Heap} {env : Env} (en : EnvOk sc env) : ∀ (names : List Str) (xs : List Value) (vs : List PV) (σ : Sig) (m cm : Str → Option Value), (∀ x ∈ names, own sc x = true) → Reps c h xs vs → names.length = xs.length →
    (∀ x v, σ.lookup x = some v → ∃ val, Rep c h val v ∧ HoldC env.cells m cm x val) →
    ∀ x v, (addAll σ names vs).lookup x = some v → ∃ val, Rep c h val v ∧ HoldC env.cells (bindL env.kindOf (names.zip xs) m) (bindC env.kindOf (names.zip xs) cm) x val
  | [], xs, vs, σ, m, cm, ho, r, hl, hσ => hσ
  | y :: ys, [], vs, σ, m, cm, ho, r, hl, hσ => by cases hl
  | y :: ys, u :: us, vs, σ, m, cm, ho, r, hl, hσ => by
    cases r with
    | cons r rs =>
      refine bind_vals en ys us _ ((y, _) :: σ) _ _ (fun x hx => ho x (.tail _ hx)) rs (by simpa using hl) fun x v e => ?_
      rw [List.lookup_cons] at e
      unfold HoldC
      rcases own_or (ho y (.head _)) with hk | hk
      · rw [en.of hk]; simp only [if_true]
        split at e
        · rename_i b
          have := eq_of_beq b
          subst this; cases e
          exact ⟨u, r, by rw [en.plain x hk]; simp⟩
        · rename_i b
          obtain ⟨val, r', h'⟩ := hσ x v e
          refine ⟨val, r', ?_⟩
          unfold HoldC at h'
          cases q : env.cells.lookup x with
          | none => rw [q] at h'; simp only; rw [if_neg (by intro q; subst q; simp at b)]; exact h'
          | some a => rw [q] at h'; exact h'
      · rw [en.of hk]; simp only [reduceCtorEq, if_false, Option.some.injEq]
        split at e
        · rename_i b
          have := eq_of_beq b
          subst this; cases e
          obtain ⟨a, ha⟩ := en.held x hk
          exact ⟨u, r, by rw [ha]; simp⟩
        · rename_i b
          obtain ⟨val, r', h'⟩ := hσ x v e
          refine ⟨val, r', ?_⟩
          unfold HoldC at h'
          cases q : env.cells.lookup x with
          | none => rw [q] at h'; exact h'
          | some a => rw [q] at h'; simp only; rw [if_neg (by intro q; subst q; simp at b)]; exact h'
theorem Reps.append1 {h : Heap} {v : Value} {p : PV} : ∀ {vs : List Value} {l : List PV}, Reps c h vs l → Rep c h v p → Reps c h (vs ++ [v]) (l ++ [p])
  | _, _, .nil, e => .cons e .nil
  | _, _, .cons a r, e => .cons a (Reps.append1 r e)
def RetIs (v : PV) (fv : FV) : Prop := match fv with
  | .ret u => u = v
  | .next => v = .none
theorem codeAny_call_cellsB {prog : Program} {w : World} {A : Around} {s : Shared} {R : Result → Shared → Prop} {a : Addr} {o : Obj} {fd : FuncData} {body : List Stmt} {vals : List Value} {binds : List (Str × Value)}
    (hroom : A.depth < recursionLimit) (ho : s.heap.get? a = some o) (hdata : o.data = .func fd) (hlim : s.heap.NoLimit) (hcd : s.heap.CodeRec fd.code fd.qualname)
    (hbody : fd.body = .stmts body) (hbind : BindsTo s fd ⟨vals, []⟩ binds) (hclo : fd.closure = [])
    (hkind : ∀ x ∈ binds, fd.scope.names.lookup x.1 = some .local ∨ (fd.scope.names.lookup x.1 = some .cell ∧ ((cellsFrom (s.heap.objs.size + 1) fd.scope.names []).lookup x.1).isSome = true))
    (h : ∀ s₁, InCallC s (callEnvC fd s.heap.objs.size a).locals (bindL (callEnvC fd s.heap.objs.size a).kindOf binds fun _ => none) (callEnvC fd s.heap.objs.size a).cells
        (bindC (callEnvC fd s.heap.objs.size a).kindOf binds fun _ => none) s₁ →
      wpAny (model prog w) (A.deeper (callEnvC fd s.heap.objs.size a)) (execs body (callEnvC fd s.heap.objs.size a)) (fun f s' => R (.ok (.ret (match f with | .ret v => v | _ => .none))) s')
        (fun e s' => wpAny (model prog w) (A.deeper (callEnvC fd s.heap.objs.size a)) (leaving (callEnvC fd s.heap.objs.size a) e) (fun _ s'' => R (.error e) s'') (fun e' s'' => R (.error e') s'') s') s₁)
    (hco : fd.scope.isCoroutine = false) (hgen : fd.scope.isGenerator = false) (hk : fd.scope.kind = .function) :
    codeAny (model prog w) A (.call (.ref a) ⟨vals, []⟩) R s := by
  refine codeAny_call_function hroom ho hdata hco hgen hbody hcd (hbind _ _ _ _ ?_)
  rw [hclo]
  refine wpAny_newFunctionEnv_cells hk hkind fun env he s' x => ?_
  subst he
  exact ⟨hlim.keeps x.toInCall.keep, codeAny_func (h s' x)⟩
theorem call_raw {A : Around} {s : Shared} {xs xs' : List Value} {Q : Value → Shared → Prop} {E : Value → Shared → Prop} {f : Addr} {o : Obj} {fd : FuncData} {body : List Stmt} {names : List Str} {args : List PV} (rm : Room (n + 1) A) (ws : WS X c s.heap) (hz : CellAt c z s.heap) (r : Reps c s.heap xs' args)
    (ho : X.K.lookup f = some o) (hd : o.data = .func fd) (hcd : codeIn X.K fd.code fd.qualname = true) (hbody : fd.body = .stmts body) (hclo : fd.closure = []) (hgl : fd.globals = mainGlobals) (hbi : fd.builtins = builtinsNs) (hs : scopeOk fd.scope = true) (hk : fd.scope.kind = .function) (hnd : ((cellsFrom 0 fd.scope.names []).map (·.1)).Nodup)
    (hco : fd.scope.isCoroutine = false) (hgen : fd.scope.isGenerator = false) (hnames : ∀ x ∈ names, own fd.scope x = true) (hbind : BindsTo s fd ⟨xs, []⟩ (names.zip xs')) (hlen : args.length = names.length)
    (h : ∀ env h₁ tk₁, EnvOk fd.scope env → SS X c env (addAll [] names args) z h₁ → (∀ b o, s.heap.get? b = some o → h₁.get? b = some o ∧ b ≠ env.locals ∧ ∀ p ∈ env.cells, b ≠ p.2) → wpAny (model X.prog X.w) (A.deeper env) (execs body env) (fun f s' => Q (match f with | .ret v => v | _ => .none) s') (fun _ _ => False) { s with heap := h₁, toks := tk₁ }) : wpAny (model X.prog X.w) A (call (.ref f) xs) Q E s := by
  have hxl : xs'.length = names.length := by rw [r.length, hlen]
  have en : EnvOk fd.scope (callEnvC fd s.heap.objs.size f) := call_env hgl hbi hs hk
  refine wpAny_call (codeAny_call_cellsB (fd := fd) rm.lim (ws.good.kin _ _ ho) hd ws.good.top.nolimit (codeRec_of ws.good.kin hcd) hbody hbind hclo ?_ ?_ hco hgen hk)
  · intro y hy
    have hm := (List.of_mem_zip hy).1
    rcases own_or (hnames _ hm) with q | q
    · exact .inl q
    · exact .inr ⟨q, cellsFrom_some fd.scope.names (s.heap.objs.size + 1) [] (.inl q)⟩
  · intro s₁ x
    obtain ⟨h₁, tk₁, rfl, hkeep⟩ := x.done
    have kN : KeepB Option.none s.heap h₁ := .of _ hkeep
    have lo : ∀ b o, s.heap.get? b = some o → b ≠ (callEnvC fd s.heap.objs.size f).locals ∧ ∀ p ∈ (callEnvC fd s.heap.objs.size f).cells, b ≠ p.2 := fun b o e => ⟨Nat.ne_of_lt (Heap.lt_size e), fun p hp => Nat.ne_of_lt (Nat.lt_trans (Heap.lt_size e) (x.above p.1 p.2 hp))⟩
    have S : SS X c (callEnvC fd s.heap.objs.size f) (addAll [] names args) z h₁ := by
      refine ⟨?_, ⟨?_, fun p hp => ⟨?_, ?_⟩, ?_, _, x.toInCall.ns, ?_⟩, hz.stepN kN⟩
      · obtain ⟨⟨h₀, g₀, q₀⟩, _⟩ := ws
        exact ⟨h₀, g₀, fun b o e => ⟨hkeep b o (q₀ b o e).1, (q₀ b o e).2, lo b o (q₀ b o e).1⟩⟩
      · intro q; obtain ⟨o, ho⟩ := ws.2 _ q; exact absurd (Heap.lt_size ho) (Nat.lt_irrefl _)
      · intro q; obtain ⟨o, ho⟩ := ws.2 _ q; exact absurd (Heap.lt_size ho) (Nat.not_lt.mpr (Nat.le_of_lt (x.above p.1 p.2 hp)))
      · exact ⟨_, x.cell _ _ (lookup_nodup (keysNodup (s.heap.objs.size + 1) hnd) hp)⟩
      · intro y y' a h1 h2
        exact name_of_addr x.apart (mem_of_lookup h1) (mem_of_lookup h2)
      · intro y u e
        obtain ⟨val, r', hc⟩ := bind_vals (c := c) (h := h₁) en names xs' args [] (fun _ => Option.none) (fun _ => Option.none) hnames (r.mono (kN.up c)) (by rw [hxl]) (by intro _ _ e; cases e) y u e
        refine ⟨val, r', ?_⟩
        unfold HoldC at hc
        unfold Holds1
        cases q : (callEnvC fd s.heap.objs.size f).cells.lookup y with
        | none => rw [q] at hc; exact hc
        | some a => rw [q] at hc; rw [← hc]; exact x.cell _ _ q
    exact wpAny_mono (h _ h₁ tk₁ en S fun b o e => ⟨hkeep b o e, lo b o e⟩) (fun _ _ x => x) fun _ _ x => x.elim
theorem call_of {A : Around} {s : Shared} {xs xs' : List Value} {Q : Value → Shared → Prop} {E : Value → Shared → Prop} {f : Addr} {o : Obj} {fd : FuncData} {body : List Stmt} {names : List Str} {args : List PV} {v : PV} (rm : Room (n + 1) A) (ws : WS X c s.heap) (hz : CellAt c z s.heap) (r : Reps c s.heap xs' args)
    (ho : X.K.lookup f = some o) (hd : o.data = .func fd) (hcd : codeIn X.K fd.code fd.qualname = true) (hbody : fd.body = .stmts body) (hclo : fd.closure = []) (hgl : fd.globals = mainGlobals) (hbi : fd.builtins = builtinsNs) (hs : scopeOk fd.scope = true) (hk : fd.scope.kind = .function) (hnd : ((cellsFrom 0 fd.scope.names []).map (·.1)).Nodup)
    (hco : fd.scope.isCoroutine = false) (hgen : fd.scope.isGenerator = false) (hnames : ∀ x ∈ names, own fd.scope x = true) (hbind : BindsTo s fd ⟨xs, []⟩ (names.zip xs')) (hlen : args.length = names.length)
    (h : Sx X c n fd.scope (addAll [] names args) z body (fun fv _ z₂ => RetIs v fv ∧ z₂ = z')) (hQ : ∀ x h' tk, KeepB c s.heap h' → CellAt c z' h' → Rep c h' x v → Q x { s with heap := h', toks := tk }) : wpAny (model X.prog X.w) A (call (.ref f) xs) Q E s := by
  refine call_raw rm ws hz r ho hd hcd hbody hclo hgl hbi hs hk hnd hco hgen hnames hbind hlen fun env h₁ tk₁ en S lo => ?_
  refine h _ _ { s with heap := h₁, toks := tk₁ } _ (fun _ _ => False) rm.deeper en S PassesOwn.never fun fl fv σ' z2 h2 tk2 k2 S2 fr hr => ?_
  have kk : KeepB c s.heap h2 := fun b o n e => k2 b o n (lo b o e).2.1 (lo b o e).2.2 (lo b o e).1
  obtain ⟨hr1, rfl⟩ := hr
  cases fr with
  | next => exact hQ _ h2 tk2 kk S2.cell (by rw [show v = .none from hr1]; exact .none)
  | ret rr => exact hQ _ h2 tk2 kk S2.cell (by rw [show v = _ from (show _ = v from hr1).symm]; exact rr)
theorem Fn.of {f : Addr} {o : Obj} {fd : FuncData} {body : List Stmt} {names : List Str} {args : List PV} {v : PV} (ho : X.K.lookup f = some o) (hd : o.data = .func fd) (hcd : codeIn X.K fd.code fd.qualname = true) (hbody : fd.body = .stmts body) (hclo : fd.closure = []) (hgl : fd.globals = mainGlobals) (hbi : fd.builtins = builtinsNs) (hs : scopeOk fd.scope = true) (hk : fd.scope.kind = .function) (hnd : ((cellsFrom 0 fd.scope.names []).map (·.1)).Nodup)
    (hco : fd.scope.isCoroutine = false) (hgen : fd.scope.isGenerator = false) (hnames : ∀ x ∈ names, own fd.scope x = true) (hbind : ∀ xs : List Value, xs.length = names.length → bindArgs fd ⟨xs, []⟩ = pure (names.zip xs)) (hlen : args.length = names.length)
    (hsc : fd.scope = sc) (h : Sx X Option.none n sc (addAll [] names args) [] body (fun fv _ z₂ => RetIs v fv ∧ z₂ = [])) : Fn X (n + 1) f args v :=
  ⟨⟨o, fd, ho, hd⟩, fun A s xs Q E rm ws r hQ => call_of rm ws rfl r ho hd hcd hbody hclo hgl hbi hs hk hnd hco hgen hnames (BindsTo.of_eq (hbind xs (r.length.trans hlen))) hlen (hsc ▸ h) fun x h' tk k _ rr => hQ x h' tk k rr⟩
theorem Fn.ofD {f T : Addr} {o oT : Obj} {fd : FuncData} {body : List Stmt} {names : List Str} {p q : PV} {x : Str} {t : Tok} {v : PV} {m : Nat} {k : Value → Value → Option (Array Value) → Sem (List (Str × Value))} (ho : X.K.lookup f = some o) (hd : o.data = .func fd) (hcd : codeIn X.K fd.code fd.qualname = true) (hbody : fd.body = .stmts body) (hclo : fd.closure = []) (hgl : fd.globals = mainGlobals) (hbi : fd.builtins = builtinsNs) (hs : scopeOk fd.scope = true) (hk : fd.scope.kind = .function) (hnd : ((cellsFrom 0 fd.scope.names []).map (·.1)).Nodup)
    (hco : fd.scope.isCoroutine = false) (hgen : fd.scope.isGenerator = false) (hnames : ∀ x ∈ names, own fd.scope x = true) (hdf : fd.defaults = .ref T) (hT : X.K.lookup T = some oT) (hoT : oT.data = .seq #[.str x t] m)
    (hb1 : ∀ a b : Value, bindArgs fd ⟨[a, b], []⟩ = seqItems? fd.defaults >>= k a b) (hb2 : ∀ a b : Value, k a b (some #[.str x t]) = pure (names.zip [a, b, .str x t])) (hlen : 3 = names.length)
    (hsc : fd.scope = sc) (h : Sx X Option.none n sc (addAll [] names [p, q, .str x]) [] body (fun fv _ z₂ => RetIs v fv ∧ z₂ = [])) : Fn X (n + 1) f [p, q] v :=
  ⟨⟨o, fd, ho, hd⟩, fun A s xs Q E rm ws r hQ => by
    obtain _ | ⟨r1, r2⟩ := r; obtain _ | ⟨r2, r3⟩ := r2; cases r3
    exact call_of (xs' := [_, _, .str x t]) rm ws rfl (.cons r1 (.cons r2 (.cons (.str x t) .nil))) ho hd hcd hbody hclo hgl hbi hs hk hnd hco hgen hnames (BindsTo.of_defaults hdf (ws.good.kin _ _ hT) hoT (hb1 _ _) (hb2 _ _)) hlen (hsc ▸ h) fun x h' tk k _ rr => hQ x h' tk k rr⟩
theorem Fn.ofD3 {f T : Addr} {o oT : Obj} {fd : FuncData} {body : List Stmt} {names : List Str} {p q r₃ : PV} {x : Str} {t : Tok} {v : PV} {m : Nat} {k : Value → Value → Value → Option (Array Value) → Sem (List (Str × Value))} (ho : X.K.lookup f = some o) (hd : o.data = .func fd) (hcd : codeIn X.K fd.code fd.qualname = true) (hbody : fd.body = .stmts body) (hclo : fd.closure = []) (hgl : fd.globals = mainGlobals) (hbi : fd.builtins = builtinsNs) (hs : scopeOk fd.scope = true) (hk : fd.scope.kind = .function) (hnd : ((cellsFrom 0 fd.scope.names []).map (·.1)).Nodup)
    (hco : fd.scope.isCoroutine = false) (hgen : fd.scope.isGenerator = false) (hnames : ∀ x ∈ names, own fd.scope x = true) (hdf : fd.defaults = .ref T) (hT : X.K.lookup T = some oT) (hoT : oT.data = .seq #[.str x t] m)
    (hb1 : ∀ a b d : Value, bindArgs fd ⟨[a, b, d], []⟩ = seqItems? fd.defaults >>= k a b d) (hb2 : ∀ a b d : Value, k a b d (some #[.str x t]) = pure (names.zip [a, b, d])) (hlen : 3 = names.length)
    (hsc : fd.scope = sc) (h : Sx X Option.none n sc (addAll [] names [p, q, r₃]) [] body (fun fv _ z₂ => RetIs v fv ∧ z₂ = [])) : Fn X (n + 1) f [p, q, r₃] v :=
  ⟨⟨o, fd, ho, hd⟩, fun A s xs Q E rm ws r hQ => by
    obtain _ | ⟨r1, r2⟩ := r; obtain _ | ⟨r2, r3⟩ := r2; obtain _ | ⟨r3, r4⟩ := r3; cases r4
    exact call_of (xs' := [_, _, _]) rm ws rfl (.cons r1 (.cons r2 (.cons r3 .nil))) ho hd hcd hbody hclo hgl hbi hs hk hnd hco hgen hnames (BindsTo.of_defaults hdf (ws.good.kin _ _ hT) hoT (hb1 _ _ _) (hb2 _ _ _)) hlen (hsc ▸ h) fun x h' tk k _ rr => hQ x h' tk k rr⟩
theorem Fz.of {f : Addr} {o : Obj} {fd : FuncData} {body : List Stmt} {names : List Str} {args : List PV} {v : PV} (ho : X.K.lookup f = some o) (hd : o.data = .func fd) (hcd : codeIn X.K fd.code fd.qualname = true) (hbody : fd.body = .stmts body) (hclo : fd.closure = []) (hgl : fd.globals = mainGlobals) (hbi : fd.builtins = builtinsNs) (hs : scopeOk fd.scope = true) (hk : fd.scope.kind = .function) (hnd : ((cellsFrom 0 fd.scope.names []).map (·.1)).Nodup)
    (hco : fd.scope.isCoroutine = false) (hgen : fd.scope.isGenerator = false) (hnames : ∀ x ∈ names, own fd.scope x = true) (hbind : ∀ xs : List Value, xs.length = names.length → bindArgs fd ⟨xs, []⟩ = pure (names.zip xs)) (hlen : args.length = names.length)
    (hsc : fd.scope = sc) (h : ∀ a, Sx X (some a) n sc (addAll [] names args) z body (fun fv _ z₂ => RetIs v fv ∧ z₂ = z')) : Fz X (n + 1) f z args v z' :=
  ⟨⟨o, fd, ho, hd⟩, fun a A s xs Q E rm ws hz r hQ => call_of rm ws hz r ho hd hcd hbody hclo hgl hbi hs hk hnd hco hgen hnames (BindsTo.of_eq (hbind xs (r.length.trans hlen))) hlen (hsc ▸ h a) fun x h' tk k cc rr => hQ x h' tk k cc rr⟩
end
end Mine

namespace Mine
section
variable {X : Cx} {c : Option Addr} {n : Nat} {sc : Scope} {σ σ' τ : Sig} {z z' z₁ z₂ : List PV} {R : FV → Sig → List PV → Prop} {rest : List Stmt}
theorem Reps.geti {h1 : Heap} : ∀ {vs : List Value} {l : List PV} {i : Nat} {p : PV}, Reps c h1 vs l → l[i]? = some p → ∃ v, vs[i]? = some v ∧ Rep c h1 v p
  | [], _, i, p, .nil, e => by simp at e
  | v :: vs, _, 0, p, .cons a r, e => by simp at e; subst e; exact ⟨v, rfl, a⟩
  | v :: vs, _, i + 1, p, .cons a r, e => by simpa using Reps.geti r (by simpa using e)
/-- an item by an index in bounds -/
def ItemOk (a : PV) (k : Int) (v : PV) : Prop := 0 ≤ k ∧ k < 2 ^ 40 ∧ match a with
  | .list l => l[k.toNat]? = some v
  | .tup l => l[k.toNat]? = some v
  | .str x => ∃ ch, x.cps[k.toNat]? = some ch ∧ v = .str ⟨#[ch]⟩
  | _ => False
theorem seqIdx {k : Int} {m : Nat} (h0 : 0 ≤ k) (h1 : k.toNat < m) : seqIndex? k m = some k.toNat := by
  unfold seqIndex?
  have a : ¬ k < 0 := by omega
  have b : k < m := by omega
  simp [a, b]
theorem Ez.item {value slice : Expr} {pos : Pos} {a : PV} {k : Int} {v : PV} (h1 : Ez X c n sc σ z value a z₁) (h2 : Ez X c n sc σ z₁ slice (.int k) z₂) (hi : ItemOk a k v) (hs : ∀ o i, subscripted slice false o i = operate [o, i] (getItem o i)) : Ez X c n sc σ z (.Subscript value slice pos) v z₂ := fun A env s Q E rm en S h =>
  Subscript_ (h1 A env s _ _ rm en S fun x h' tk k1 c1 r1 => h2 A env _ _ _ rm en (S.step k1 c1) fun y h'' tk' k2 c2 r2 => by
    cases r2
    obtain ⟨h0, hh, hv⟩ := hi
    have r1' := r1.mono k2
    cases r1' with
    | list p q r =>
      obtain ⟨u, hu, ru⟩ := Reps.geti r hv
      exact tail_any (s := { s with heap := h'', toks := tk' }) p.isList.typeIs slot_list_getitem.lookup (wpAny_getItem_list p.isList h0 (by omega) (by simpa using hu) (h u h'' tk' (k1.trans k2) c2 ru)) (hs _ _)
    | tup p q r =>
      obtain ⟨u, hu, ru⟩ := Reps.geti r hv
      refine tail_any (s := { s with heap := h'', toks := tk' }) (T := "tuple") (by obtain ⟨o, ho, hc, _⟩ := p; exact ⟨o, ho, hc⟩) F.slot_tuple_getitem.lookup (PyProof.Rows.getItem_tuple p (by omega) (by omega) (seqIdx h0 ?_) (by simpa using hu) (h u h'' tk' (k1.trans k2) c2 ru)) (hs _ _)
      have := (List.getElem?_eq_some_iff.mp hu).1; simpa using this
    | str x t =>
      obtain ⟨ch, hc, rfl⟩ := hv
      refine tail_any (s := { s with heap := h'', toks := tk' }) (typeIs_str _ _ _) F.slot_str_getitem.lookup (PyProof.Rows.getItem_str (c := ch) (by rw [Bool.or_eq_false_iff, decide_eq_false_iff_not, decide_eq_false_iff_not]; exact ⟨by omega, by omega⟩) ?_ (h _ h'' _ (k1.trans k2) c2 (.str ..))) (hs _ _)
      rw [seqIdx h0 (show k.toNat < x.length from (Array.getElem?_eq_some_iff.mp hc).1)]
      exact hc
    | _ => exact hv.elim)
/-- an item of the shared list -/
theorem Ez.itemC {a : Addr} {value slice : Expr} {pos : Pos} {k : Int} {v : PV} (h1 : Ez X (some a) n sc σ z value .cell z₁) (h2 : Ez X (some a) n sc σ z₁ slice (.int k) z₂) (h0 : 0 ≤ k) (hh : k < 2 ^ 40) (hv : z₂[k.toNat]? = some v) (hs : ∀ o i, subscripted slice false o i = operate [o, i] (getItem o i)) : Ez X (some a) n sc σ z (.Subscript value slice pos) v z₂ := fun A env s Q E rm en S h =>
  Subscript_ (h1 A env s _ _ rm en S fun x h' tk k1 c1 r1 => h2 A env _ _ _ rm en (S.step k1 c1) fun y h'' tk' k2 c2 r2 => by
    cases r2
    cases r1 with
    | cell e =>
      cases e
      obtain ⟨vs, p, r, _⟩ := id c2
      obtain ⟨u, hu, ru⟩ := Reps.geti r hv
      exact tail_any (s := { s with heap := h'', toks := tk' }) p.typeIs slot_list_getitem.lookup (wpAny_getItem_list p h0 (by omega) (by simpa using hu) (h u h'' tk' (k1.trans k2) c2 ru)) (hs _ _))

/-- the shared list is turned at a place -/
theorem Reps.set {h1 : Heap} : ∀ {vs : List Value} {l : List PV} {i : Nat} {u : Value} {p : PV}, Reps c h1 vs l → Rep c h1 u p → Reps c h1 (vs.set i u) (l.set i p)
  | [], _, i, u, p, .nil, e => .nil
  | v :: vs, _, 0, u, p, .cons a r, e => .cons e r
  | v :: vs, _, i + 1, u, p, .cons a r, e => .cons a (Reps.set r e)
theorem Reps.sca {c' : Option Addr} {h h' : Heap} {vs : List Value} {l : List PV} (hs : ∀ q ∈ l, Scalar q) (r : Reps c h vs l) : Reps c' h' vs l := r.scalar hs
theorem Sx.setCell {a : Addr} {o i e : Expr} {pp pos : Pos} {k : Int} {v : PV} (h1 : Ez X (some a) n sc σ z e v z₁) (h2 : Ez X (some a) n sc σ z₁ o .cell z₁) (h3 : Ez X (some a) n sc σ z₁ i (.int k) z₁) (h0 : 0 ≤ k) (hk : k.toNat < z₁.length) (hz : z₁.length < 1000) (hv : Scalar v) (hsz : ∀ q ∈ z₁, Scalar q) (hst : (z₁.set k.toNat v).all isStr = false)
    (hs : ∀ env, swapsWith e (some (.Subscript o i pp)) pos.line env = pure false) (h : Sx X (some a) n sc σ (z₁.set k.toNat v) rest R) : Sx X (some a) n sc σ z (.Assign [.Subscript o i pp] e pos :: rest) R := fun A env s Q E rm en S pe hQ =>
  wpAny_execs_cons (wpAny_Assign_Subscript (h1 A env s _ _ rm en S fun x h' tk k1 c1 r1 => h2 A env _ _ _ rm en (S.step k1 c1) fun y h'' tk' k2 c2 r2 => h3 A env _ _ _ rm en ((S.step k1 c1).step k2 c2) fun w h3 tk3 k3 c3 r3 => by
    cases r3
    cases r2 with
    | cell e =>
      cases e
      obtain ⟨vs, p, r, _⟩ := id c3
      have hl : vs.length = z₁.length := r.length
      refine wpAny_setItem_list p h0 (by omega) (by simp [hl]; omega) fun h4 p4 hs4 => ?_
      have k4 : KeepB (some a) h3 h4 := fun b o n e => (hs4.2 b (fun q => n (by rw [q]))).trans e
      have k14 := ((k1.trans k2).trans k3).trans k4
      have c4 : CellAt (some a) (z₁.set k.toNat v) h4 := ⟨vs.set k.toNat x, by simpa using p4, (r.sca (c' := some a) (h' := h4) hsz).set (hv.rep r1), fun y => by rw [hst] at y; cases y⟩
      exact h A env { s with heap := h4, toks := tk3 } Q E rm en (S.step k14 c4) pe fun f fv σ' z' h5 tk5 k5 S5 fr hr => hQ f fv σ' z' h5 tk5 (k14.toL.trans k5) S5 fr hr) (hs env))

/-- slices -/
inductive Ezo (X : Cx) (c : Option Addr) (n : Nat) (sc : Scope) (σ : Sig) (z : List PV) : Option Expr → Option Int → Prop
  | none : Ezo X c n sc σ z Option.none Option.none
  | some {e : Expr} {k : Int} : Ez X c n sc σ z e (.int k) z → Ezo X c n sc σ z (Option.some e) (Option.some k)
theorem Ezo.run {e : Option Expr} {k : Option Int} (h1 : Ezo X c n sc σ z e k) {A : Around} {env : Env} {s : Shared} {Q : Value → Shared → Prop} {E : Value → Shared → Prop} (rm : Room n A) (en : EnvOk sc env) (S : SS X c env σ z s.heap)
    (h : ∀ t h' tk, KeepB c s.heap h' → CellAt c z h' → Q (partValue (k.map (·, t))) { s with heap := h', toks := tk }) : wpAny (model X.prog X.w) A (evalPart e env) Q E s := by
  cases h1 with
  | none => rw [evalPart_none]; exact wpAny_pure (h 0 s.heap s.toks (KeepB.refl _ _) S.cell)
  | some h1 => rw [evalPart_some]; exact h1 A env s _ _ rm en S fun x h' tk k c r => by cases r; exact h _ h' tk k c
theorem isPart_of (k : Option Int) (t : Tok) : IsPart (partValue (k.map (·, t))) k := by
  cases k with
  | none => exact .none
  | some i => exact .int i t
def sl {α : Type} (l : List α) (lo hi : Option Int) : List α := (l.drop (lo.elim 0 (clipAt l.length))).take (hi.elim l.length (clipAt l.length) - lo.elim 0 (clipAt l.length))
theorem Reps.drop {h : Heap} : ∀ {vs : List Value} {l : List PV} (k : Nat), Reps c h vs l → Reps c h (vs.drop k) (l.drop k)
  | _, _, 0, r => r
  | _, _, k + 1, .nil => .nil
  | _, _, k + 1, .cons a r => Reps.drop k r
theorem Reps.take {h : Heap} : ∀ {vs : List Value} {l : List PV} (k : Nat), Reps c h vs l → Reps c h (vs.take k) (l.take k)
  | _, _, 0, r => .nil
  | _, _, k + 1, .nil => .nil
  | _, _, k + 1, .cons a r => .cons a (Reps.take k r)
theorem Ez.sliceL {value : Expr} {lo hi : Option Expr} {p pos : Pos} {l : List PV} {kl kh : Option Int} (h1 : Ez X c n sc σ z value (.list l) z) (h2 : Ezo X c n sc σ z lo kl) (h3 : Ezo X c n sc σ z hi kh) (hl : l.length ≤ 100000) (ht : ∀ o r, letTemporaryGo value o r = pure ()) :
    Ez X c n sc σ z (.Subscript value (.Slice lo hi Option.none p) pos) (.list (sl l kl kh)) z := fun A env s Q E rm en S h => by
  refine wpAny_Subscript_list_slice (h1 A env s _ _ rm en S fun x h' tk k1 c1 r1 => h2.run (s := { s with heap := h', toks := tk }) rm en (S.step k1 c1) fun t2 h2' tk2 k2 c2 => h3.run (s := { s with heap := h2', toks := tk2 }) rm en ((S.step k1 c1).step k2 c2) fun t3 h3' tk3 k3 c3 => ?_) ht
  have r1' := (r1.mono k2).mono k3
  cases r1' with
  | list pl q r =>
    rename_i a vs
    have hsz : vs.length = l.length := r.length
    refine ⟨a, vs.toArray, kl, kh, rfl, pl.isList, by rw [sizeLine_eq]; simp [hsz]; omega, isPart_of _ _, isPart_of _ _, ?_⟩
    dsimp only
    generalize hg : h3'.push { cls := .type "slice", data := .fields #[partValue (kl.map (·, t2)), partValue (kh.map (·, t3)), .none] } = g
    have ks : KeepB Option.none h3' g := .of _ fun b o e => by rw [← hg]; exact Heap.get?_push_of_some _ e
    have hgs : g.objs.size = h3'.objs.size + 1 := by rw [← hg, Heap.size_push]
    have kg : KeepB Option.none g (g.push { cls := .type "list", data := .seq (slicePick vs.toArray kl kh Option.none) }) := .of _ fun b o e => Heap.get?_push_of_some _ e
    have kk := ks.trans kg
    have S3 := ((S.step k1 c1).step k2 c2).step k3 c3
    rw [← hgs]
    refine h _ _ _ (((k1.trans k2).trans k3).trans (kk.up c)) (c3.stepN kk) (.list (vs := sl vs kl kh) ⟨0, ?_⟩ (S3.stepN ks).ws.ne ((by unfold sl; rw [← hsz]; exact (r.drop _).take _ : Reps c h3' (sl vs kl kh) (sl l kl kh)).mono (kk.up c)))
    have : slicePick vs.toArray kl kh Option.none = (sl vs kl kh).toArray := by rw [slicePick_plain]; unfold sl; simp
    rw [this]; exact Heap.get?_push_size _ rfl
theorem Ez.sliceS {value : Expr} {lo hi : Option Expr} {p pos : Pos} {x : Str} {kl kh : Option Int} (h1 : Ez X c n sc σ z value (.str x) z) (h2 : Ezo X c n sc σ z lo kl) (h3 : Ezo X c n sc σ z hi kh) (hl : x.length ≤ 100000) (ht : ∀ o r, letTemporaryGo value o r = pure ()) :
    Ez X c n sc σ z (.Subscript value (.Slice lo hi Option.none p) pos) (.str (Txt.slice x kl kh)) z := fun A env s Q E rm en S h => by
  refine wpAny_Subscript_str_slice (h1 A env s _ _ rm en S fun v h' tk k1 c1 r1 => h2.run (s := { s with heap := h', toks := tk }) rm en (S.step k1 c1) fun t2 h2' tk2 k2 c2 => h3.run (s := { s with heap := h2', toks := tk2 }) rm en ((S.step k1 c1).step k2 c2) fun t3 h3' tk3 k3 c3 => ?_) ht
  cases r1 with
  | str x t =>
    refine ⟨x, t, kl.map (·, t2), kh.map (·, t3), rfl, rfl, rfl, ?_⟩
    dsimp only
    have ks : KeepB Option.none h3' (h3'.push { cls := .type "slice", data := .fields #[partValue (kl.map (·, t2)), partValue (kh.map (·, t3)), .none] }) := .of _ fun b o e => Heap.get?_push_of_some _ e
    have fin : ∀ t' tk, Q (.str (Txt.slice x kl kh) t') { s with heap := h3'.push { cls := .type "slice", data := .fields #[partValue (kl.map (·, t2)), partValue (kh.map (·, t3)), .none] }, toks := tk } := fun t' tk => h _ _ tk (((k1.trans k2).trans k3).trans (ks.up c)) (c3.stepN ks) (.str ..)
    cases kl <;> cases kh <;> exact post_val_or_str ⟨Nat.le_trans (Txt.slice_le x _ _) (by rw [sizeLine_eq]; omega), fun t' k => fin t' k⟩

/-- the list from behind -/
theorem Ez.sliceR {value : Expr} {st : Expr} {p pos : Pos} {l : List PV} (h1 : Ez X c n sc σ z value .cell z) (h3 : Ez X c n sc σ z st (.int (-1)) z) (hz : z = l) (hl : l.length ≤ 100000) (hsc : ∀ q ∈ l, Scalar q) (ht : ∀ o r, letTemporaryGo value o r = pure ()) :
    Ez X c n sc σ z (.Subscript value (.Slice Option.none Option.none (some st) p) pos) (.list l.reverse) z := fun A env s Q E rm en S h => by
  subst hz
  refine wpAny_Subscript_Slice_step slot_list_getitem.lookup (h1 A env s _ _ rm en S fun x h' tk k1 c1 r1 => ?_) ht
  have S1 := S.step k1 c1
  cases r1 with
  | cell e =>
  rename_i a
  subst e
  refine wpAny_Slice ?_
  rw [evalPart_none]
  refine wpAny_pure (wpAny_pure ?_)
  rw [evalPart_some]
  refine h3 A env { s with heap := h', toks := tk } _ _ rm en S1 fun y h2 tk2 k2 c2 r2 => ?_
  have S2 := S1.step k2 c2
  cases r2 with
  | int _ tt =>
  obtain ⟨vs, pl, r, _⟩ := id c2
  have hsz : vs.length = z.length := r.length
  have ks : KeepB Option.none h2 (h2.push { cls := .type "slice", data := .fields #[.none, .none, .int (-1) tt] }) := .of _ fun b o e => Heap.get?_push_of_some _ e
  refine ⟨(pl.at fun o e => ks.all _ _ e).typeIs, ?_⟩
  refine wpAny_getItem_list_slice (lo := Option.none) (hi := Option.none) (st := some (-1)) (pl.at fun o e => ks.all _ _ e) (Heap.IsSliceOf.new ..) .none .none (.int ..) (by decide) ?_ (by rw [sizeLine_eq]; simp [hsz]; omega)
  dsimp only
  generalize hg : h2.push { cls := .type "slice", data := .fields #[.none, .none, .int (-1) tt] } = g at ks ⊢
  have kg : KeepB Option.none g (g.push { cls := .type "list", data := .seq (slicePick vs.toArray Option.none Option.none (some (-1))) }) := .of _ fun b o e => Heap.get?_push_of_some _ e
  have kk := ks.trans kg
  refine h _ _ _ ((k1.trans k2).trans (kk.up _)) (c2.stepN kk) (.list (vs := vs.reverse) ⟨0, ?_⟩ (S2.stepN ks).ws.ne (r.rev.sca fun q hq => hsc q (List.mem_reverse.mp hq)))
  have : slicePick vs.toArray Option.none Option.none (some (-1)) = vs.reverse.toArray := krv_pick _
  rw [this]; exact Heap.get?_push_size _ rfl

/-- methods -/
def Me (X : Cx) (id : String) (self : PV) (args : List PV) (v : PV) : Prop :=
  ∀ (c : Option Addr) (A : Around) (s : Shared) (x : Value) (xs : List Value) (Q : Value → Shared → Prop) (E : Value → Shared → Prop), Room 0 A → WS X c s.heap → Rep c s.heap x self → Reps c s.heap xs args →
    (∀ r h' tk, KeepB Option.none s.heap h' → Rep c h' r v → Q r { s with heap := h', toks := tk }) → wpAny (model X.prog X.w) A (call (.builtin id) (x :: xs)) Q E s
def TyOf (self : PV) (T : String) : Prop := (∀ (c : Option Addr) (s : Shared) (x : Value), Rep c s.heap x self → s.TypeIs x T) ∧ ∀ c h x, Rep c h x self → ∀ a, x ≠ .ref a
theorem TyOf.int {i : Int} : TyOf (.int i) "int" := ⟨fun c s x r => by cases r; exact typeIs_int _ _ _, fun c h x r a e => by cases r; cases e⟩
theorem TyOf.str {i : Str} : TyOf (.str i) "str" := ⟨fun c s x r => by cases r; exact typeIs_str _ _ _, fun c h x r a e => by cases r; cases e⟩
theorem Ez.meth0 {o : Expr} {name : Str} {apos pos : Pos} {T id : String} {self v : PV} (h1 : Ez X c n sc σ z o self z₁) (hT : TyOf self T) (hbase : ∀ env, attributeBase o name env (eval o env) = eval o env) (hline : (apos.endLine == pos.line) = true)
    (pa : PlainAttrs T) (slot : Slot T name id) (hty : typeOf (.builtin id) = pure (.type "method_descriptor")) (hm : Me X id self [] v) : Ez X c n sc σ z (.Call (.Attribute o name apos) [] [] pos) v z₁ := fun A env s Q E rm en S h => by
  refine wpAny_Call_method (hbase env) rfl hline pa slot hty (h1 A env s _ _ rm en S fun x h' tk k1 c1 r1 => ?_)
  refine ⟨hT.1 c { s with heap := h', toks := tk } x r1, fun a e => absurd e (hT.2 _ _ _ r1 a), ?_⟩
  refine callWith_builtin rfl (PySem.evalArgs_none ?_)
  exact hm c A { s with heap := h', toks := tk } x [] _ _ rm.zero (S.step k1 c1).ws r1 .nil fun r h2 tk2 k2 r2 => h r h2 tk2 (k1.trans (k2.up c)) (c1.stepN k2) r2
theorem Ez.meth1 {o e : Expr} {name : Str} {apos pos : Pos} {T id : String} {self u v : PV} (h1 : Ez X c n sc σ z o self z₁) (hT : TyOf self T) (hbase : ∀ env, attributeBase o name env (eval o env) = eval o env) (hst : plainE e = true) (hline : (apos.endLine == pos.line) = true)
    (pa : PlainAttrs T) (slot : Slot T name id) (hty : typeOf (.builtin id) = pure (.type "method_descriptor")) (h2 : Ez X c n sc σ z₁ e u z₂) (hm : Me X id self [u] v) : Ez X c n sc σ z (.Call (.Attribute o name apos) [e] [] pos) v z₂ := fun A env s Q E rm en S h => by
  have hst' : [e].all plainE = true := by simp [hst]
  refine wpAny_Call_method (hbase env) (by rw [star_cons hst]; rfl) hline pa slot hty (h1 A env s _ _ rm en S fun x h' tk k1 c1 r1 => ?_)
  refine ⟨hT.1 c { s with heap := h', toks := tk } x r1, fun a e => absurd e (hT.2 _ _ _ r1 a), ?_⟩
  refine callWith_builtin (star_any hst') (evalArgs_ hst ((Ezs.cons h2 .nil hst) A env { s with heap := h', toks := tk } pos _ _ rm en (S.step k1 c1) fun xs h2' tk2 k2 c2 r2 => ?_))
  exact hm c A { s with heap := h2', toks := tk2 } x xs _ _ rm.zero ((S.step k1 c1).step k2 c2).ws (r1.mono k2) r2 fun r h3 tk3 k3 r3 => h r h3 tk3 ((k1.trans k2).trans (k3.up c)) (c2.stepN k3) r3
theorem Me.bits {a : Int} : Me X "int.bit_length" (.int a) [] (.int (Builtin.Int.intBits a : Nat)) := fun c A s x xs Q E rm w r rs h => by
  cases r; cases rs; exact call_int_bit_length (h _ s.heap _ (KeepB.refl _ _) (.int ..))
theorem Me.index {x y : Str} {i : Nat} {r : List Nat} (ho : Builtin.Str.occurrences x y 0 x.length 1 = i :: r) : Me X "str.index" (.str x) [.str y] (.int i) := fun c A s u xs Q E rm w r rs h => by
  cases r; obtain _ | ⟨r1, r2⟩ := rs; cases r1; cases r2; exact SC.index ho (h _ s.heap _ (KeepB.refl _ _) (.int ..))
theorem strValues_of {h : Heap} : ∀ {vs : List Value} {l : List Str}, Reps c h vs (l.map PV.str) → ∃ ps : List (Str × Tok), vs = strValues ps ∧ ps.map (·.1) = l
  | [], l, r => by
    cases l with
    | nil => exact ⟨[], rfl, rfl⟩
    | cons a b => cases r
  | v :: vs, l, r => by
    cases l with
    | nil => cases r
    | cons a b =>
      cases r with
      | cons x y =>
        obtain ⟨ps, h1, h2⟩ := strValues_of y
        cases x with
        | str _ t => exact ⟨(a, t) :: ps, by rw [h1]; rfl, by rw [List.map_cons, h2]⟩
theorem Me.join {x : Str} {l : List Str} (ho : JoinOk x l = true) : Me X "str.join" (.str x) [.list (l.map PV.str)] (.str (Txt.join x l)) := fun c A s u xs Q E rm w r rs h => by
  cases r; obtain _ | ⟨r1, r2⟩ := rs; cases r2
  cases r1 with
  | list p q r =>
    obtain ⟨ps, h1, h2⟩ := strValues_of r
    subst h1
    exact SC.join p.isList h2 ho fun t' k => h _ s.heap k (KeepB.refl _ _) (.str ..)
/-- an own int's name turned in place -/
theorem Sx.augShr {x : Str} {px pos : Pos} {e : Expr} {a b : Int} (hv : σ.lookup x = some (.int a)) (hk : sc.names.lookup x = some .local) (h1 : Ez X c n sc σ z e (.int b) z) (hb : 0 ≤ b) (h : Sx X c n sc ((x, .int (a.fdiv (2 ^ b.toNat))) :: σ) z rest R) : Sx X c n sc σ z (.AugAssign (.Name x px) .RShift e pos :: rest) R := fun A env s Q E rm en S pe hQ => by
  obtain ⟨m, hn, hm⟩ := id S.loc.vals
  obtain ⟨val, r, ho⟩ := hm x _ hv
  unfold Holds1 at ho
  rw [en.plain x hk] at ho
  cases r with
  | int _ t =>
  refine wpAny_execs_cons (wpAny_AugAssign_Name (wpAny_loadName_local en.kind (en.of hk) hn ho (h1 A env s _ _ rm en S fun y h' tk k1 c1 r1 => ?_)))
  cases r1
  refine irshift_int hb ?_
  refine store_ (s := { s with heap := h', toks := tk + 1 }) (x := x) en (S.step k1 c1) (.int ..) (by unfold own; rw [hk]) fun h2 tk2 k2 S2 => ?_
  exact h A env { s with heap := h2, toks := tk2 } Q E rm en S2 pe fun f fv σ' z' h3 tk3 k3 S3 fr hr => hQ f fv σ' z' h3 tk3 ((k1.toL.trans k2).trans k3) S3 fr hr
-- more built-ins
theorem Bi.intBool {b : Bool} : Bi X (.type "int") [.bool b] (.int (if b then 1 else 0)) := fun c A s xs Q E rm w r h => by
  obtain _ | ⟨r1, r2⟩ := r; cases r1; cases r2; exact call_int_bool (h _ s.heap _ (KeepB.refl _ _) (.int ..))
theorem Bi.intText {x : Str} {k : Int} (hn : PySem.intText? x = some k) (hl : x.length ≤ 640) : Bi X (.type "int") [.str x] (.int k) := fun c A s xs Q E rm w r h => by
  obtain _ | ⟨r1, r2⟩ := r; cases r1; cases r2; exact KIN.call_text hn hl (h _ s.heap _ (KeepB.refl _ _) (.int ..))
theorem Bi.strInt {a : Int} (ha : a.natAbs.log2 < 1920) : Bi X (.type "str") [.int a] (.str (Str.ofString (toString a))) := fun c A s xs Q E rm w r h => by
  obtain _ | ⟨r1, r2⟩ := r; cases r1; cases r2; exact P.str_of_int ha (h _ s.heap _ (KeepB.refl _ _) (.str ..))
theorem intsAre_of {h : Heap} : ∀ {vs : List Value} {l : List Int}, Reps c h vs (l.map PV.int) → IntsAre vs l
  | [], l, r => by
    cases l with
    | nil => exact .nil
    | cons a b => cases r
  | v :: vs, l, r => by
    cases l with
    | nil => cases r
    | cons a b =>
      cases r with
      | cons x y => cases x with | int _ t => exact .cons a t (intsAre_of y)
theorem preSum_get (l : List Int) : ∀ j, PySem.preSum (fun i => l.getD i 0) j = (l.take j).sum := preSum_getD l
theorem Bi.sum {l : List Int} : Bi X (.builtin "sum") [.list (l.map PV.int)] (.int l.sum) := fun c A s xs Q E rm w r h => by
  obtain _ | ⟨r1, r2⟩ := r; cases r2
  cases r1 with
  | list p q r =>
    rename_i ax vs
    have hi := intsAre_of r
    have hax := Heap.lt_size p.isList.choose_spec.1
    refine call_sum_walkAnyS (wpAny_pyIter_list p.isList ?_)
    have kp : KeepB Option.none s.heap (s.heap.push { cls := .type "list_iterator", data := .fields #[.ref ax, .int 0 0] }) := .of _ fun b o e => Heap.get?_push_of_some _ e
    refine ⟨_, _, _, _, _, _, _, fun i => l.getD i 0, rfl, (Walks.list (prog := X.prog) (w := X.w) (A := A.in1) rm.1 s.heap.objs.size ax (Nat.ne_of_lt hax) vs.toArray).toS, ⟨⟨_, Heap.get?_push_size _ rfl, rfl, rfl⟩, p.isList.at fun o e => kp.all _ _ e⟩, ?_, ?_, ?_⟩
    · intro b hb
      dsimp only
      rw [Heap.size_push]
      rcases List.mem_cons.mp hb with e | e
      · rw [e]; exact Nat.lt_succ_self _
      · rw [List.mem_singleton.mp e]; exact Nat.lt_succ_of_lt hax
    · intro i v hv
      have hv' : vs[i]? = some v := by simpa using hv
      have hlt : i < l.length := by rw [← hi.length]; exact (List.getElem?_eq_some_iff.mp hv').1
      obtain ⟨t, ht⟩ := hi.get i l[i] (by simp [hlt])
      rw [hv'] at ht
      exact ⟨t, by rw [Option.some.inj ht]; simp [hlt]⟩
    · intro s' t' mv
      have e : PySem.preSum (fun i => l.getD i 0) vs.toArray.size = l.sum := by
        rw [preSum_get, List.take_of_length_le (by simp [hi.length])]
      rw [e]
      obtain ⟨sh, sg, sd, st, so⟩ := s'
      obtain ⟨m1, m2, m3, m4, m5⟩ := mv
      dsimp only at m1 m2 m3 m4 m5
      subst m2 m3 m4
      exact h _ sh st (.of _ fun b o e => m1 b o (fun hb => by rw [List.mem_singleton.mp hb] at e; rw [fresh_none] at e; cases e) (kp.all b o e)) (.int ..)
theorem Bin.addS {a b : Str} (hl : a.length + b.length ≤ 100000) : BinOk X .Add (.str a) (.str b) (.str (a ++ b)) := fun c A s x y Q E rm w ra rb h => by
  cases ra; cases rb; exact SB.add (fun t' k => h _ s.heap k (KeepB.refl _ _) (.str ..)) (by rw [sizeLine_eq]; omega)
theorem Bin.mulS {a : Str} {k : Int} (hl : MulOk a k) : BinOk X .Mult (.str a) (.int k) (.str (Txt.mul a k)) := fun c A s x y Q E rm w ra rb h => by
  cases ra; cases rb; exact SB.mul hl (fun t' k => h _ s.heap k (KeepB.refl _ _) (.str ..))
theorem Cmp.isNone {a : Int} : CmpOk X .Is (.int a) .none false := fun c A s x y Q E rm w ra rb h => by
  cases ra; cases rb; exact is_int_none (h s.heap _ (KeepB.refl _ _))
theorem Cmp.neB {a b : Bool} : CmpOk X .NotEq (.bool a) (.bool b) (a != b) := fun c A s x y Q E rm w ra rb h => by
  cases ra; cases rb; exact ne_bool (h s.heap _ (KeepB.refl _ _))
theorem Cmp.neS {a b : Str} : CmpOk X .NotEq (.str a) (.str b) (a != b) := fun c A s x y Q E rm w ra rb h => by
  cases ra; cases rb; exact ne_str (h s.heap _ (KeepB.refl _ _))
theorem Cmp.notIn {a b : Str} : CmpOk X .NotIn (.str a) (.str b) (!Txt.contains b a) := fun c A s x y Q E rm w ra rb h => by
  cases ra; cases rb; exact SB.notContains (h s.heap _ (KeepB.refl _ _))
theorem Cmp.neL {a b : List Int} : CmpOk X .NotEq (.list (a.map PV.int)) (.list (b.map PV.int)) (!decide (a = b)) := fun c A s x y Q E rm w ra rb h => by
  cases ra with
  | list p q r =>
    cases rb with
    | list p' q' r' =>
      exact ne_intsK p.isList (intsAre_of r) p'.isList (intsAre_of r') (by have := rm.2.2; simp only [cLine]; omega) (h s.heap _ (KeepB.refl _ _))
theorem Cmp.neNil : CmpOk X .NotEq (.list []) (.list []) false := Cmp.neL (a := []) (b := [])

theorem Reps.append {h : Heap} : ∀ {vs₁ vs₂ : List Value} {l₁ l₂ : List PV}, Reps c h vs₁ l₁ → Reps c h vs₂ l₂ → Reps c h (vs₁ ++ vs₂) (l₁ ++ l₂)
  | _, _, _, _, .nil, r => r
  | _, _, _, _, .cons a r, s => .cons a (Reps.append r s)
theorem Bin.mulL {l : List PV} {k : Int} (h0 : 0 ≤ k) (h1 : k ≤ 1000) (hl : l.length ≤ 1000) (hsc : ∀ q ∈ l, Scalar q) (hne : l ≠ []) : BinOk X .Mult (.list l) (.int k) (.list (List.replicate k.toNat l).flatten) := fun c A s x y Q E rm w ra rb h => by
  cases rb with | int _ u => ?_
  cases ra with
  | list p q r =>
    rename_i a vs
    obtain ⟨nn, hl'⟩ := id p
    have hvl : vs.length = l.length := r.length
    have hm : vs.length * k.toNat ≤ 1000 * 1000 := Nat.mul_le_mul (by omega) (by omega)
    have hm2 : vs.toArray.size * k.toNat ≤ 1000 * 1000 := by rw [List.size_toArray]; exact hm
    have hm3 : (vs.toArray.size : Int) * (k.toNat : Int) ≤ 1000000 := by rw [← Int.natCast_mul]; exact Int.ofNat_le.mpr hm2
    have kp : ∀ o : Obj, KeepB Option.none s.heap (s.heap.push o) := fun o => .of _ fun b o e => Heap.get?_push_of_some _ e
    refine wpAny_binaryOp_repeat_ref (T := "list") (U := "int") (by decide) ⟨_, hl', rfl⟩ (fun s' => typeIs_int s' k u) noFill_list_mul F.fills_int_mul F.slot_int_rmul repeat_list F.slot_int_index.lookup
      (call_meets F.slot_int_rmul (typeIs_int s k u) F.entry_int_rmul (F.args_int_rmul_2 _ _) (int___rmul___int_list k u a vs.toArray nn)
        ⟨hl', rfl, ⟨_, hl', rfl⟩, call_meets F.slot_list_mul ⟨_, hl', rfl⟩ F.entry_list_mul (F.args_list_mul_2 _ _)
          (AutoListH.list___mul___list_int_3 a vs.toArray nn k u (by simp [Builtin.List.listFitsIndex]; omega) (by omega) (by simp [Builtin.List.listTooLong, sizeLine]; omega)) ⟨hl', ?_⟩⟩)
    have he : vs.toArray.isEmpty = false := by
      cases r with
      | nil => exact absurd rfl hne
      | cons _ _ => rfl
    rw [he]
    simp only [Bool.false_eq_true, if_false, listMul_foldl]
    refine h _ _ _ (kp _) (.list (vs := (List.replicate k.toNat vs).flatten) ⟨0, by simpa using Heap.get?_push_size s.heap rfl⟩ w.ne ?_)
    have rr : ∀ m, Reps c s.heap (List.replicate m vs).flatten (List.replicate m l).flatten := by
      intro m
      induction m with
      | zero => exact .nil
      | succ m ih => rw [List.replicate_succ, List.replicate_succ, List.flatten_cons, List.flatten_cons]; exact r.append ih
    exact (rr _).mono ((kp _).up c)
end
end Mine

namespace Mine
def Bd (k : Nat) (a : Int) : Prop := a.natAbs < 2 ^ k
theorem Bd.mono {k m : Nat} {a : Int} (x : Bd k a) (h : k ≤ m) : Bd m a := Nat.lt_of_lt_of_le x (Nat.pow_le_pow_right (by decide) h)
theorem Bd.mul {k m : Nat} {a b : Int} (x : Bd k a) (y : Bd m b) : Bd (k + m) (a * b) := by
  unfold Bd at *
  rw [Int.natAbs_mul, Nat.pow_add]
  exact Nat.mul_lt_mul'' x y
theorem Bd.add {k : Nat} {a b : Int} (x : Bd k a) (y : Bd k b) : Bd (k + 1) (a + b) := by
  unfold Bd at *
  rw [Nat.pow_succ]
  have := Int.natAbs_add_le a b
  omega
theorem Bd.sub {k : Nat} {a b : Int} (x : Bd k a) (y : Bd k b) : Bd (k + 1) (a - b) := by
  unfold Bd at *
  rw [Nat.pow_succ]
  have := Int.natAbs_sub_le a b
  omega
theorem Bd.neg {k : Nat} {a : Int} (x : Bd k a) : Bd k (-a) := by unfold Bd at *; rwa [Int.natAbs_neg]
theorem Bd.le {k : Nat} {a b : Int} (x : Bd k a) (h : b.natAbs ≤ a.natAbs) : Bd k b := Nat.lt_of_le_of_lt h x
theorem Bd.lit {k : Nat} {a : Int} (h : decide (a.natAbs.log2 < k) = true) : Bd k a := by
  have h := of_decide_eq_true h
  unfold Bd
  by_cases e : a.natAbs = 0
  · rw [e]; exact Nat.two_pow_pos _
  · exact (Nat.log2_lt e).mp h
theorem Bd.log {k : Nat} {a : Int} (x : Bd k a) (hk : 0 < k) : a.natAbs.log2 < k := by
  unfold Bd at x
  by_cases e : a.natAbs = 0
  · rw [e]; simpa using hk
  · exact (Nat.log2_lt e).mpr x
theorem Bd.bits {k : Nat} {a : Int} (x : Bd k a) : Builtin.Int.intBits a ≤ k := by
  unfold Builtin.Int.intBits
  split
  · exact Nat.zero_le _
  · rename_i h
    have : a.natAbs ≠ 0 := by intro e; apply h; simpa using e
    exact (Nat.log2_lt this).mpr x
theorem Bd.mulOk {k m : Nat} {a b : Int} (x : Bd k a) (y : Bd m b) (h : decide (k + m ≤ 2 ^ 27) = true) : IntMulOk a b := by
  have h := of_decide_eq_true h
  unfold IntMulOk Builtin.Int.intTooBig
  have := x.bits
  have := y.bits
  have e : ¬ (((Builtin.Int.intBits a : Int) + (Builtin.Int.intBits b : Int)) > (bitsLine : Int)) := by unfold bitsLine; omega
  rw [decide_eq_false e]
  simp
theorem noPy_log {a b : Int} (h : b.natAbs.log2 < 8900) : Builtin.divisionGoesByPylong a b = false := by
  have hd : ∀ n : Int, n.natAbs.log2 < 8900 → ¬ (if n == 0 then 0 else n.natAbs.log2 / 30 + 1) > 300 := by
    intro n hn
    split <;> omega
  unfold Builtin.divisionGoesByPylong
  rw [Bool.and_eq_false_iff]
  exact .inl (decide_eq_false (hd b h))
theorem Bd.noPy {k : Nat} {a b : Int} (y : Bd k b) (h : decide (k ≤ 8000) = true) : Builtin.divisionGoesByPylong a b = false := by
  have h := of_decide_eq_true h
  exact noPy_log (Nat.lt_trans ((y.mono (Nat.le_succ k)).log (Nat.succ_pos k)) (by omega))
/-- what is left of a division, by what it fulfils -/
def InR (b r : Int) : Prop := (0 ≤ r ∧ r < b) ∨ (b < r ∧ r ≤ 0)
theorem InR.fmod {a b : Int} (hb : b ≠ 0) : InR b (a.fmod b) := by
  rcases Int.lt_or_gt_of_ne hb with h | h
  · right
    rw [Int.fmod_eq_emod]
    have h1 := Int.emod_nonneg a hb
    have h2 := Int.emod_lt_of_pos a (show 0 < -b by omega)
    rw [Int.emod_neg] at h2
    split
    · rename_i h3
      have h4 : b ∣ a := by rcases h3 with h3 | h3; omega; exact h3
      rw [Int.emod_eq_zero_of_dvd h4]; omega
    · rename_i h3
      have h4 : a % b ≠ 0 := fun e => h3 (.inr (Int.dvd_of_emod_eq_zero e))
      omega
  · exact .inl ⟨Int.fmod_nonneg_of_pos a h, Int.fmod_lt_of_pos a h⟩
theorem fmod_dvd (a b : Int) : b ∣ a - a.fmod b := ⟨a.fdiv b, by have := Int.fmod_add_mul_fdiv a b; omega⟩
theorem InR.uniq {b r s : Int} (x : InR b r) (y : InR b s) (h : b ∣ r - s) : r = s := by
  obtain ⟨k, hk⟩ := h
  have h1 : (r - s).natAbs < b.natAbs := by rcases x with ⟨a1, a2⟩ | ⟨a1, a2⟩ <;> rcases y with ⟨b1, b2⟩ | ⟨b1, b2⟩ <;> omega
  have h2 : (r - s).natAbs = b.natAbs * k.natAbs := by rw [hk, Int.natAbs_mul]
  rcases Nat.eq_zero_or_pos k.natAbs with e | e
  · rw [e] at h2; omega
  · have := Nat.mul_le_mul_left b.natAbs e; omega
theorem fmod_eq {a b r : Int} (x : InR b r) (h : b ∣ a - r) : a.fmod b = r := by
  have hb : b ≠ 0 := by rcases x with x | x <;> omega
  refine InR.uniq (InR.fmod hb) x ?_
  have := Int.dvd_sub h (fmod_dvd a b)
  rwa [show a - r - (a - a.fmod b) = a.fmod b - r by omega] at this
theorem fdiv_fmod (a b : Int) : a = b * a.fdiv b + a.fmod b := by have := Int.fmod_add_mul_fdiv a b; omega
theorem Bd.fmod {k : Nat} {a b : Int} (x : Bd k b) (hb : b ≠ 0) : Bd k (a.fmod b) := x.le (by rcases InR.fmod (a := a) hb with h | h <;> omega)
theorem Bd.fdiv {k : Nat} {a b : Int} (x : Bd k a) : Bd k (a.fdiv b) := by
  refine x.le ?_
  by_cases hb : b = 0
  · subst hb; simp
  have e := fdiv_fmod a b
  have r := InR.fmod (a := a) hb
  generalize a.fdiv b = q at *
  generalize a.fmod b = m at *
  have hq : (b * q).natAbs = b.natAbs * q.natAbs := Int.natAbs_mul ..
  rcases Nat.eq_zero_or_pos q.natAbs with h2 | h2
  · omega
  obtain ⟨b', hb'⟩ : ∃ k, b.natAbs = k + 1 := ⟨b.natAbs - 1, by omega⟩
  obtain ⟨q', hq'⟩ : ∃ k, q.natAbs = k + 1 := ⟨q.natAbs - 1, by omega⟩
  have hM : q' + b' + 1 ≤ (b' + 1) * (q' + 1) := by rw [Nat.add_mul, Nat.mul_add]; omega
  rw [hb', hq'] at hq
  rw [hq']
  generalize b * q = P at *
  have : m.natAbs ≤ b' := by rcases r with r | r <;> omega
  omega
theorem Bd.pow10 {m : Nat} (h : m ≤ 100) : Bd 400 ((10 : Int) ^ m) := by
  unfold Bd
  rw [Int.natAbs_pow]
  exact Nat.lt_of_le_of_lt (Nat.pow_le_pow_right (by decide) h) (by decide)
theorem pow10_ne (m : Nat) : (10 : Int) ^ m ≠ 0 := Int.ne_of_gt (Int.pow_pos (by decide))
theorem pow2_pos (m : Nat) : (0 : Int) < 2 ^ m := Int.pow_pos (by decide)
theorem fdiv_pow_big {a : Int} {m : Nat} (h : Bd m a) : a.fdiv (2 ^ m) = if a < 0 then -1 else 0 := by
  unfold Bd at h
  have e : ((2 ^ m : Nat) : Int) = 2 ^ m := by simp
  have h' : (a.natAbs : Int) < 2 ^ m := by rw [← e]; exact Int.ofNat_lt.mpr h
  have hp := pow2_pos m
  generalize (2 : Int) ^ m = P at *
  have e1 := fdiv_fmod a P
  have e2 := InR.fmod (a := a) (b := P) (by omega)
  generalize a.fmod P = r at *
  have hr : 0 ≤ r ∧ r < P := by rcases e2 with e2 | e2 <;> omega
  generalize a.fdiv P = q at *
  by_cases ha : a < 0
  · rw [if_pos ha]
    rcases Int.lt_trichotomy q (-1) with h | h | h
    · have := Int.mul_le_mul_of_nonneg_left (show q ≤ -2 by omega) (Int.le_of_lt hp); omega
    · exact h
    · have := Int.mul_le_mul_of_nonneg_left (show 0 ≤ q by omega) (Int.le_of_lt hp); omega
  · rw [if_neg ha]
    rcases Int.lt_trichotomy q 0 with h | h | h
    · have := Int.mul_le_mul_of_nonneg_left (show q ≤ -1 by omega) (Int.le_of_lt hp); omega
    · exact h
    · have := Int.mul_le_mul_of_nonneg_left (show 1 ≤ q by omega) (Int.le_of_lt hp); omega
theorem Bd.ofBits (a : Int) : Bd (Builtin.Int.intBits a) a := by
  unfold Bd Builtin.Int.intBits
  split
  · rename_i h; simp at h; subst h; decide
  · exact Nat.lt_log2_self
theorem fdiv_pow_cap {a k : Int} (hk : 0 ≤ k) {w : Int} (hw : w = if (Builtin.Int.intBits a : Int) + 1 < k then (Builtin.Int.intBits a : Int) + 1 else k) : a.fdiv (2 ^ w.toNat) = a.fdiv (2 ^ k.toNat) := by
  split at hw
  · rw [fdiv_pow_big ((Bd.ofBits a).mono (m := w.toNat) (by omega)), fdiv_pow_big ((Bd.ofBits a).mono (m := k.toNat) (by omega))]
  · rw [hw]
theorem bitAnd_mask (x : Int) (w : Nat) : Builtin.bitAnd x (2 ^ w - 1) = x.fmod (2 ^ w) := by
  have hp := pow2_pos w
  have ec : ((2 ^ w : Nat) : Int) = 2 ^ w := by simp
  have hpn : 0 < 2 ^ w := Nat.two_pow_pos w
  have ey : ((2 : Int) ^ w - 1).toNat = 2 ^ w - 1 := by omega
  refine (fmod_eq ?_ ?_).symm
  · unfold Builtin.bitAnd
    rw [decide_eq_true (show (0 : Int) ≤ 2 ^ w - 1 by omega)]
    by_cases hx : 0 ≤ x
    · rw [decide_eq_true hx]
      dsimp only
      rw [ey, Nat.and_two_pow_sub_one_eq_mod]
      have := Nat.mod_lt x.toNat hpn
      left; omega
    · rw [decide_eq_false hx]
      dsimp only
      rw [ey, Nat.and_comm, Nat.and_two_pow_sub_one_eq_mod]
      have := Nat.mod_lt (Builtin.bitNot x).toNat hpn
      left; omega
  · unfold Builtin.bitAnd
    rw [decide_eq_true (show (0 : Int) ≤ 2 ^ w - 1 by omega)]
    by_cases hx : 0 ≤ x
    · rw [decide_eq_true hx]
      dsimp only
      rw [ey, Nat.and_two_pow_sub_one_eq_mod]
      have := Nat.div_add_mod x.toNat (2 ^ w)
      refine ⟨((x.toNat / 2 ^ w : Nat) : Int), ?_⟩
      rw [← ec, ← Int.natCast_mul]; omega
    · rw [decide_eq_false hx]
      dsimp only
      rw [ey, Nat.and_comm, Nat.and_two_pow_sub_one_eq_mod]
      have e1 := Nat.div_add_mod (Builtin.bitNot x).toNat (2 ^ w)
      have e2 : ((Builtin.bitNot x).toNat : Int) = -x - 1 := by unfold Builtin.bitNot; omega
      generalize (Builtin.bitNot x).toNat = m at *
      refine ⟨-((m / 2 ^ w : Nat) : Int) - 1, ?_⟩
      rw [← ec, Int.mul_sub, Int.mul_neg, ← Int.natCast_mul]; omega
theorem bitAnd_one (x : Int) : Builtin.bitAnd x 1 = x.fmod 2 := bitAnd_mask x 1
/-- the power by squaring, one step -/
theorem fmod_congr {a b m : Int} (h : m ∣ a - b) : a.fmod m = b.fmod m := by
  by_cases hm : m = 0
  · subst hm; have := Int.zero_dvd.mp h; simp; omega
  refine fmod_eq (InR.fmod hm) ?_
  have := Int.dvd_add h (fmod_dvd b m)
  rwa [show a - b + (b - b.fmod m) = a - b.fmod m by omega] at this
theorem dvd_mul_sub {m a b c d : Int} (h : m ∣ a - b) (k : m ∣ c - d) : m ∣ a * c - b * d := by
  have := Int.dvd_add (Int.dvd_mul_of_dvd_left (c := c) h) (Int.dvd_mul_of_dvd_right (b := b) k)
  rwa [show (a - b) * c + b * (c - d) = a * c - b * d by rw [Int.sub_mul, Int.mul_sub]; omega] at this
theorem dvd_pow_sub {m a b : Int} (h : m ∣ a - b) : ∀ k : Nat, m ∣ a ^ k - b ^ k
  | 0 => by simp
  | k + 1 => by rw [Int.pow_succ, Int.pow_succ]; exact dvd_mul_sub (dvd_pow_sub h k) h
theorem fmod_dvd' (a b : Int) : b ∣ a.fmod b - a := by
  have := Int.dvd_neg.mpr (fmod_dvd a b)
  rwa [show -(a - a.fmod b) = a.fmod b - a by omega] at this
theorem pow_step_odd {f s size : Int} {y : Nat} : ((f * s).fmod size * ((s * s).fmod size) ^ y).fmod size = (f * s ^ (2 * y + 1)).fmod size := by
  refine fmod_congr ?_
  have := dvd_mul_sub (fmod_dvd' (f * s) size) (dvd_pow_sub (fmod_dvd' (s * s) size) y)
  rwa [show f * s * (s * s) ^ y = f * s ^ (2 * y + 1) by rw [Int.pow_succ, Int.pow_mul, show s ^ 2 = s * s from by rw [Int.pow_succ, Int.pow_succ, Int.pow_zero, Int.one_mul], Int.mul_assoc, Int.mul_comm s]] at this
theorem pow_step_even {f s size : Int} {y : Nat} : (f * ((s * s).fmod size) ^ y).fmod size = (f * s ^ (2 * y)).fmod size := by
  refine fmod_congr ?_
  have := dvd_mul_sub (m := size) (a := f) (b := f) (by simp) (dvd_pow_sub (fmod_dvd' (s * s) size) y)
  rwa [show (s * s) ^ y = s ^ (2 * y) by rw [Int.pow_mul, show s ^ 2 = s * s from by rw [Int.pow_succ, Int.pow_succ, Int.pow_zero, Int.one_mul]]] at this
theorem fmod_fmod' (a b : Int) : (a.fmod b).fmod b = a.fmod b := fmod_congr (fmod_dvd' a b)
end Mine

namespace Mine
section
variable {X : Cx} {c : Option Addr} {n : Nat} {sc : Scope} {σ σ' τ : Sig} {z z' z₁ z₂ : List PV} {R : FV → Sig → List PV → Prop} {rest : List Stmt}
theorem Sx.ifF {t : Expr} {body : List Stmt} {pos : Pos} {b : Bool} (h1 : Tz X c n sc σ z t b z₁) (hb : b = false) (h3 : Sx X c n sc σ z₁ rest R) : Sx X c n sc σ z (.If t body [] pos :: rest) R := by
  subst hb; exact .iff h1 h3
theorem Sx.ifT {t : Expr} {body orelse : List Stmt} {pos : Pos} {b : Bool} (h1 : Tz X c n sc σ z t b z₁) (hb : b = true) (h3 : Sx X c n sc σ z₁ body (thenR X c n sc rest R)) : Sx X c n sc σ z (.If t body orelse pos :: rest) R := by
  subst hb; exact .ift h1 h3
theorem Ez.ifexpF {t a b : Expr} {pos : Pos} {q : Bool} {v : PV} (h1 : Tz X c n sc σ z t q z₁) (hq : q = false) (h3 : Ez X c n sc σ z₁ b v z₂) : Ez X c n sc σ z (.IfExp t a b pos) v z₂ :=
  .ifexp h1 (fun h => by rw [hq] at h; cases h) fun _ => h3
theorem Ez.ifexpT {t a b : Expr} {pos : Pos} {q : Bool} {v : PV} (h1 : Tz X c n sc σ z t q z₁) (hq : q = true) (h3 : Ez X c n sc σ z₁ a v z₂) : Ez X c n sc σ z (.IfExp t a b pos) v z₂ :=
  .ifexp h1 (fun _ => h3) fun h => by rw [hq] at h; cases h
theorem Ez.ifexpV {t a b : Expr} {pos : Pos} {q : Bool} {v w : Int} (h1 : Tz X c n sc σ z t q z₁) (h2 : q = true → Ez X c n sc σ z₁ a (.int v) z₂) (h3 : q = false → Ez X c n sc σ z₁ b (.int w) z₂) : Ez X c n sc σ z (.IfExp t a b pos) (.int (if q then v else w)) z₂ :=
  .ifexp h1 (fun h => by rw [h]; exact h2 h) fun h => by rw [h]; exact h3 h
theorem Ez.ifexpS {t a b : Expr} {pos : Pos} {q : Bool} {v w : Str} (h1 : Tz X c n sc σ z t q z₁) (h2 : q = true → Ez X c n sc σ z₁ a (.str v) z₂) (h3 : q = false → Ez X c n sc σ z₁ b (.str w) z₂) : Ez X c n sc σ z (.IfExp t a b pos) (.str (if q then v else w)) z₂ :=
  .ifexp h1 (fun h => by rw [h]; exact h2 h) fun h => by rw [h]; exact h3 h
theorem Tz.andI {e e2 : Expr} {es : List Expr} {pos : Pos} {b v : Bool} (h1 : Tz X c n sc σ z e b z) (h2 : b = true → Tz X c n sc σ z (.BoolOp .And (e2 :: es) pos) v z) : Tz X c n sc σ z (.BoolOp .And (e :: e2 :: es) pos) (b && v) z := by
  cases b with
  | true => exact .boolGo h1 rfl (h2 rfl)
  | false => exact .boolStop h1 rfl
theorem Tz.orI {e e2 : Expr} {es : List Expr} {pos : Pos} {b v : Bool} (h1 : Tz X c n sc σ z e b z) (h2 : b = false → Tz X c n sc σ z (.BoolOp .Or (e2 :: es) pos) v z) : Tz X c n sc σ z (.BoolOp .Or (e :: e2 :: es) pos) (b || v) z := by
  cases b with
  | false => exact .boolGo h1 rfl (h2 rfl)
  | true => exact .boolStop h1 rfl
theorem Ez.andI {e e2 : Expr} {es : List Expr} {pos : Pos} {b v : Bool} (h1 : Ez X c n sc σ z e (.bool b) z) (h2 : b = true → Ez X c n sc σ z (.BoolOp .And (e2 :: es) pos) (.bool v) z) : Ez X c n sc σ z (.BoolOp .And (e :: e2 :: es) pos) (.bool (b && v)) z := by
  cases b with
  | true => exact .boolGo h1 rfl (h2 rfl)
  | false => exact .boolStop h1 rfl
theorem Ez.orI {e e2 : Expr} {es : List Expr} {pos : Pos} {b v : Bool} (h1 : Ez X c n sc σ z e (.bool b) z) (h2 : b = false → Ez X c n sc σ z (.BoolOp .Or (e2 :: es) pos) (.bool v) z) : Ez X c n sc σ z (.BoolOp .Or (e :: e2 :: es) pos) (.bool (b || v)) z := by
  cases b with
  | false => exact .boolGo h1 rfl (h2 rfl)
  | true => exact .boolStop h1 rfl
/-- a value seen as another that equals it -/
theorem Ez.cast {e : Expr} {v w : PV} (h : Ez X c n sc σ z e v z₁) (hv : v = w) : Ez X c n sc σ z e w z₁ := hv ▸ h
theorem Tz.cast {e : Expr} {v w : Bool} (h : Tz X c n sc σ z e v z₁) (hv : v = w) : Tz X c n sc σ z e w z₁ := hv ▸ h

theorem Reps.append_one {h1 : Heap} {v : Value} {p : PV} {vs : List Value} {l : List PV} (r : Reps c h1 vs l) (e : Rep c h1 v p) : Reps c h1 (vs ++ [v]) (l ++ [p]) := r.append1 e
/-- the shared list grows -/
theorem Ez.append {a : Addr} {o e : Expr} {apos pos : Pos} {x : Str} {l : List PV} (h1 : Ez X (some a) n sc σ z o .cell z) (h2 : Ez X (some a) n sc σ z e (.str x) z) (hz : z.all isStr = true) (hzl : z.length ≤ 1000) (hbase : ∀ env, attributeBase o "append" env (eval o env) = eval o env) (hp : plainE e = true)
    (hline : (apos.endLine == pos.line) = true) : Ez X (some a) n sc σ z (.Call (.Attribute o "append" apos) [e] [] pos) .none (z ++ [.str x]) := fun A env s Q E rm en S h => by
  refine wpAny_Call_append (hbase env) (by rw [star_cons hp]; rfl) hline (by rw [star_cons hp]; rfl) (h1 A env s _ _ rm en S fun u h' tk k1 c1 r1 => ?_)
  cases r1 with
  | cell q =>
  cases q
  obtain ⟨vs, il, r, pl⟩ := id c1
  obtain ⟨nn, ho⟩ := pl hz
  refine ⟨a, vs.toArray, rfl, ⟨_, nn, ho, rfl, rfl, rfl⟩, ?_⟩
  refine h2 A env { s with heap := h', toks := tk } _ _ rm en (S.step k1 c1) fun y h2' tk2 k2 c2 r2 => ?_
  cases r2 with
  | str _ t =>
  obtain ⟨vs2, il2, rr2, pl2⟩ := id c2
  have hl : vs2.length = z.length := rr2.length
  refine wpAny_list_append_plain (pl2 hz) (fun h3 p3 hs3 => ?_) (by rw [sizeLine_eq]; simp [hl]; omega)
  have k3 : KeepB (some a) h2' h3 := fun b o n e => (hs3.2 b (fun q => n (by rw [q]))).trans e
  have hsc : ∀ q ∈ z, Scalar q := fun q hq => by
    have := List.all_eq_true.mp hz q hq
    cases q <;> first | exact .str _ | cases this
  refine h _ h3 tk2 ((k1.trans k2).trans k3) ⟨vs2 ++ [.str x t], by simpa using p3.isList, ?_, fun _ => by simpa using p3⟩ .none
  exact (rr2.sca (c' := some a) (h' := h3) hsc).append1 (.str ..)

/-- a fresh list becomes the shared one -/
theorem SS.toCell {env : Env} {hp h' : Heap} {D : Addr} {vs : List Value} (S : SS X Option.none env σ [] hp) (k : KeepB Option.none hp h') (hD : hp.get? D = Option.none) (pl : h'.PlainList D vs.toArray) (r : Reps Option.none h' vs z) (hz : ∀ q ∈ z, Scalar q)
    (hσ : SubSig σ' σ) (hsc : ∀ x v, σ'.lookup x = some v → Scalar v) : SS X (some D) env σ' z h' := by
  have ne : ∀ b o, hp.get? b = some o → some D ≠ some b := fun b o e q => by cases q; rw [hD] at e; cases e
  have S' := S.stepN k
  refine ⟨?_, ⟨?_, ?_, S.loc.apart, ?_⟩, ⟨vs, pl.isList, r.sca hz, fun _ => pl⟩⟩
  · obtain ⟨h₀, g, q⟩ := S.base
    exact ⟨h₀, g, fun b o e => ⟨k.all b o (q b o e).1, ne b o (q b o e).1, (q b o e).2.2⟩⟩
  · obtain ⟨m, ⟨o, _, _, ho, _⟩, _⟩ := S.loc.vals; exact ne _ _ ho
  · intro p hp'; exact ⟨let ⟨_, o, ho, _⟩ := (S.loc.cells p hp').2; ne _ _ ho, (S'.loc.cells p hp').2⟩
  · obtain ⟨m, hm, hv⟩ := S'.loc.vals
    exact ⟨m, hm, fun x v e => let ⟨val, a, b⟩ := hv x v (hσ x v e); ⟨val, (hsc x v e).rep a, b⟩⟩
theorem SS.fromCell {env : Env} {h' : Heap} {D : Addr} (S : SS X (some D) env σ z h') : SS X Option.none env [] [] h' :=
  ⟨let ⟨h₀, g, q⟩ := S.base; ⟨h₀, g, fun b o e => ⟨(q b o e).1, (by intro x; cases x), (q b o e).2.2⟩⟩, ⟨(by intro x; cases x), fun p hp => ⟨(by intro x; cases x), (S.loc.cells p hp).2⟩, S.loc.apart, let ⟨m, hm, _⟩ := S.loc.vals; ⟨m, hm, fun _ _ e => by cases e⟩⟩, rfl⟩
def FnNew (X : Cx) (n : Nat) (f : Addr) (args : List PV) (z : List PV) : Prop := FnAt X f ∧
  ∀ (A : Around) (s : Shared) (xs : List Value) (Q : Value → Shared → Prop) (E : Value → Shared → Prop), Room n A → WS X Option.none s.heap → Reps Option.none s.heap xs args →
    (∀ D vs h' tk, KeepB Option.none s.heap h' → s.heap.get? D = Option.none → h'.PlainList D (List.toArray vs) → Reps Option.none h' vs z → Q (.ref D) { s with heap := h', toks := tk }) → wpAny (model X.prog X.w) A (call (.ref f) xs) Q E s
def retOnly (R : FV → Sig → List PV → Prop) : FV → Sig → List PV → Prop := fun fv _ _ => ∃ v, fv = .ret v ∧ Scalar v ∧ R (.ret v) [] []
theorem Sx.assignNew {x y : Str} {px py pos spos : Pos} {f : Addr} {e : Expr} {es : List Expr} {vs : List PV} {k : Nat} (hk : sc.names.lookup x = some .globalImplicit) (hg : nsIn X.K mainGlobals x = some (some (.ref f))) (hd : (x == ("__debug__" : Str)) = false)
    (hs : plainE e = true) (h1 : Ezs X Option.none n sc σ [] (e :: es) vs []) (hf : FnNew X k f vs z) (hle : k ≤ n) (hz : ∀ q ∈ z, Scalar q) (hy : own sc y = true) (hsw : ∀ env, swapsWith (.Call (.Name x px) (e :: es) [] pos) (some (.Name y py)) spos.line env = pure false)
    (hσ : SubSig σ' σ) (hsc : ∀ x v, σ'.lookup x = some v → Scalar v) (h : ∀ a, Sx X (some a) n sc ((y, .cell) :: σ') z rest (retOnly R)) : Sx X Option.none n sc σ [] (.Assign [.Name y py] (.Call (.Name x px) (e :: es) [] pos) spos :: rest) R := fun A env s Q E rm en S pe hQ => by
  refine wpAny_execs_cons (wpAny_Assign_Name ?_ (hsw env))
  refine wpAny_Call_NameR (glob_ en S.ws.good hk hg hd ?_)
  obtain ⟨⟨o, fd, ho, hfd⟩, hf⟩ := hf
  refine callWith_function (o := o) (fd := fd) (evalArgs_ hs (h1 A env s pos _ _ rm en S fun xs h' tk k1 c1 r1 => ?_))
  have S1 := S.step k1 c1
  refine ⟨⟨S1.ws.good.kin _ _ ho, hfd⟩, ?_⟩
  refine hf A { s with heap := h', toks := tk } xs _ _ (rm.le hle) S1.ws r1 fun D vs h2 tk2 k2 hD pl r => ?_
  have S2 := S1.toCell k2 hD pl r hz hσ hsc
  refine store_ (s := { s with heap := h2, toks := tk2 }) en S2 (.cell rfl) hy fun h3 tk3 k3 S3 => ?_
  refine h D A env { s with heap := h3, toks := tk3 } Q E rm en S3 pe fun f fv σ' z' h4 tk4 k4 S4 fr hr => ?_
  obtain ⟨v, rfl, hv, hr⟩ := hr
  cases fr with
  | ret rr =>
  refine hQ _ _ _ _ h4 tk4 (fun b o n m q e => ?_) S4.fromCell (.ret (hv.rep rr)) hr
  have e1 := k1 b o n e
  have ne : some D ≠ some b := fun q => by cases q; rw [hD] at e1; cases e1
  exact (k3.trans k4) b o ne m q (k2 b o n e1)
theorem execs_app {M : Model} {A : Around} {env : Env} {pre last : List Stmt} {s : Shared} {Q : Flow → Shared → Prop} {E : Value → Shared → Prop} (h : wpAny M A (execs pre env) (fun f s' => match f with | .next => wpAny M A (execs last env) Q E s' | f => Q f s') E s) : wpAny M A (execs (pre ++ last) env) Q E s := fun Γ p hΓ => by
  have g := h Γ p hΓ
  clear h
  induction pre generalizing s p with
  | nil => exact g Γ p hΓ
  | cons st pre ih =>
    rw [execs_cons, Sem.wp_bind'] at g
    rw [List.cons_append, execs_cons, Sem.wp_bind']
    refine Sem.wp_mono M Γ _ (fun f p' s' h' => ?_) (fun _ _ _ h' => h') _ _ g
    cases f with
    | next => exact ih p' h'
    | _ => exact h'
theorem Bd.abs {k : Nat} {a : Int} (x : Bd k a) : Bd k (ab a) := by unfold ab; split; exact x.neg; exact x
abbrev nv (x : Str) (v : PV) : Str × PV := (x, v)
def env0 (sc : Scope) : Env := { scope := sc, locals := 0, globals := 0, cells := [], qual := "", func := Option.none, code := .none, frame := Option.none, builtins := 0 }
theorem swap_env (t : List Expr) (v : Expr) (env : Env) : swappedStores t v env = swappedStores t v (env0 env.scope) := rfl
theorem Sx.tupS2 {e : Expr} {elts : List Expr} {kk : Nat} {tp pos : Pos} {xs : List Str} {vs : List PV} (h1 : Ez X c n sc σ z e (.tup vs) z₁) (hw : swappedStores [.Tuple elts kk tp] e (env0 sc) = pure (some xs)) (hl : vs.length = xs.length) (hx : ∀ x ∈ xs, own sc x = true)
    (hs : ∀ env, swapsWithSole [.Tuple elts kk tp] e pos.line env = pure false)
    (h : Sx X c n sc (addAll σ xs.reverse vs.reverse) z₁ rest R) : Sx X c n sc σ z (.Assign [.Tuple elts kk tp] e pos :: rest) R :=
  .tupS h1 hl hx hs (fun env he => by rw [swap_env, he]; exact hw) h
theorem Sx.tupP2 {e : Expr} {xs : List (Str × Pos)} {kk : Nat} {tp pos : Pos} {vs : List PV} (h1 : Ez X c n sc σ z e (.tup vs) z₁) (hl : vs.length = xs.length) (hx : ∀ x ∈ xs, own sc x.1 = true)
    (hs : ∀ env, swapsWithSole [.Tuple (xs.map fun p => Expr.Name p.1 p.2) kk tp] e pos.line env = pure false) (hw : swappedStores [.Tuple (xs.map fun p => Expr.Name p.1 p.2) kk tp] e (env0 sc) = pure Option.none)
    (h : Sx X c n sc (addAll σ (xs.map (·.1)) vs) z₁ rest R) : Sx X c n sc σ z (.Assign [.Tuple (xs.map fun p => Expr.Name p.1 p.2) kk tp] e pos :: rest) R :=
  .tupP h1 hl hx hs (fun env he => by rw [swap_env, he]; exact hw) h
def NextR (R : FV → Sig → List PV → Prop) (N : Sig → List PV → Prop) : FV → Sig → List PV → Prop := fun fv σ' z' => match fv with
  | .next => ∃ σ₂, SubSig σ₂ σ' ∧ N σ₂ z'
  | .ret v => R (.ret v) σ' z'
theorem Sx.forN {y : Str} {q : Pos} {e : Expr} {body : List Stmt} {pos : Pos} {items : List PV} (J : Nat → Sig → List PV → Prop) (hi : Itz X c n sc σ z e (.Name y q) items z₁) (hy : own sc y = true) (h0 : J 0 σ z₁)
    (turn : ∀ i p σ z, items[i]? = some p → J i σ z → Sx X c n sc ((y, p) :: σ) z body (NextR R (J (i + 1))))
    (done : ∀ σ z, J items.length σ z → Sx X c n sc σ z rest R) (hs : ∀ env x, foldedSetIterable e env x = pure x) : Sx X c n sc σ z (.For (.Name y q) e body [] pos :: rest) R :=
  .for J hi h0 (fun i p σ z hp hj => ⟨_, .name hy, (turn i p σ z hp hj).mono fun f σ z h => by cases f <;> exact h⟩) done hs
theorem Sx.forR {y : Str} {q : Pos} {e : Expr} {body : List Stmt} {pos : Pos} {k : Int} (J : Nat → Sig → List PV → Prop) (hi : Itz X c n sc σ z e (.Name y q) (rangeItems 0 1 k.toNat) z₁) (hy : own sc y = true) (h0 : J 0 σ z₁)
    (turn : ∀ (i : Nat) σ z, (i : Int) < k → J i σ z → Sx X c n sc ((y, .int (i : Int)) :: σ) z body (NextR R (J (i + 1))))
    (done : ∀ σ z, J k.toNat σ z → Sx X c n sc σ z rest R) (hs : ∀ env x, foldedSetIterable e env x = pure x) : Sx X c n sc σ z (.For (.Name y q) e body [] pos :: rest) R :=
  .forN J hi hy h0 (fun i p σ z hp hj => by
    simp only [rangeItems, List.getElem?_map, Option.map_eq_some_iff] at hp
    obtain ⟨j, hj1, rfl⟩ := hp
    have hlt : i < k.toNat := by
      have := (List.getElem?_eq_some_iff.mp hj1).1; simpa using this
    have hij : j = i := by rw [List.getElem?_range hlt] at hj1; exact (Option.some.inj hj1).symm
    subst hij
    have := turn j σ z (by omega) hj
    rwa [show (0 : Int) + (j : Int) * 1 = j by omega]) (fun σ z hj => done σ z (by simpa [rangeItems] using hj)) hs
/-- a slice of a list from outside -/
theorem Ez.sliceX {value : Expr} {lo hi : Option Expr} {p pos : Pos} {l : List PV} {kl kh : Option Int} (h1 : Ez X c n sc σ z value (.xl l) z) (h2 : Ezo X c n sc σ z lo kl) (h3 : Ezo X c n sc σ z hi kh) (hl : l.length ≤ 100000) (ht : ∀ o r, letTemporaryGo value o r = pure ()) :
    Ez X c n sc σ z (.Subscript value (.Slice lo hi Option.none p) pos) (.list (sl l kl kh)) z := fun A env s Q E rm en S h => by
  refine wpAny_Subscript_list_slice (h1 A env s _ _ rm en S fun x h' tk k1 c1 r1 => h2.run (s := { s with heap := h', toks := tk }) rm en (S.step k1 c1) fun t2 h2' tk2 k2 c2 => h3.run (s := { s with heap := h2', toks := tk2 }) rm en ((S.step k1 c1).step k2 c2) fun t3 h3' tk3 k3 c3 => ?_) ht
  have r1' := (r1.mono k2).mono k3
  cases r1' with
  | xl pl q r =>
    rename_i a vs
    have hsz : vs.length = l.length := r.length
    refine ⟨a, vs.toArray, kl, kh, rfl, pl, by rw [sizeLine_eq]; simp [hsz]; omega, isPart_of _ _, isPart_of _ _, ?_⟩
    dsimp only
    generalize hg : h3'.push { cls := .type "slice", data := .fields #[partValue (kl.map (·, t2)), partValue (kh.map (·, t3)), .none] } = g
    have ks : KeepB Option.none h3' g := .of _ fun b o e => by rw [← hg]; exact Heap.get?_push_of_some _ e
    have hgs : g.objs.size = h3'.objs.size + 1 := by rw [← hg, Heap.size_push]
    have kg : KeepB Option.none g (g.push { cls := .type "list", data := .seq (slicePick vs.toArray kl kh Option.none) }) := .of _ fun b o e => Heap.get?_push_of_some _ e
    have kk := ks.trans kg
    have S3 := ((S.step k1 c1).step k2 c2).step k3 c3
    rw [← hgs]
    refine h _ _ _ (((k1.trans k2).trans k3).trans (kk.up c)) (c3.stepN kk) (.list (vs := sl vs kl kh) ⟨0, ?_⟩ (S3.stepN ks).ws.ne ((by unfold sl; rw [← hsz]; exact (r.drop _).take _ : Reps c h3' (sl vs kl kh) (sl l kl kh)).mono (kk.up c)))
    have : slicePick vs.toArray kl kh Option.none = (sl vs kl kh).toArray := by rw [slicePick_plain]; unfold sl; simp
    rw [this]; exact Heap.get?_push_size _ rfl
def scB : PV → Bool
  | .none => true
  | .bool _ => true
  | .int _ => true
  | .str _ => true
  | _ => false
theorem scB_of : ∀ {q : PV}, scB q = true → Scalar q
  | .none, _ => .none
  | .bool b, _ => .bool b
  | .int b, _ => .int b
  | .str b, _ => .str b
theorem all_sc {l : List PV} (h : l.all scB = true) : ∀ q ∈ l, Scalar q := fun q hq => scB_of (List.all_eq_true.mp h q hq)
theorem Sx.tupA2 {e : Expr} {x1 x2 : Str} {p1 p2 : Pos} {kk : Nat} {tp pos : Pos} {v1 v2 : PV} (h1 : Ez X c n sc σ z e (.tup [v1, v2]) z₁) (hx : own sc x1 = true) (hx2 : own sc x2 = true)
    (hs : ∀ env, swapsWithSole [.Tuple [Expr.Name x1 p1, Expr.Name x2 p2] kk tp] e pos.line env = pure false) (hw : swappedStores [.Tuple [Expr.Name x1 p1, Expr.Name x2 p2] kk tp] e (env0 sc) = pure Option.none)
    (h : Sx X c n sc ((x2, v2) :: (x1, v1) :: σ) z₁ rest R) : Sx X c n sc σ z (.Assign [.Tuple [Expr.Name x1 p1, Expr.Name x2 p2] kk tp] e pos :: rest) R :=
  .tupP2 (xs := [(x1, p1), (x2, p2)]) h1 rfl (fun x hx' => by rcases List.mem_cons.mp hx' with rfl | hx'; exact hx; rw [List.mem_singleton.mp hx']; exact hx2) hs hw h
theorem Sx.tupA3 {e : Expr} {x1 x2 x3 : Str} {p1 p2 p3 : Pos} {kk : Nat} {tp pos : Pos} {v1 v2 v3 : PV} (h1 : Ez X c n sc σ z e (.tup [v1, v2, v3]) z₁) (hx : own sc x1 = true) (hx2 : own sc x2 = true) (hx3 : own sc x3 = true)
    (hs : ∀ env, swapsWithSole [.Tuple [Expr.Name x1 p1, Expr.Name x2 p2, Expr.Name x3 p3] kk tp] e pos.line env = pure false) (hw : swappedStores [.Tuple [Expr.Name x1 p1, Expr.Name x2 p2, Expr.Name x3 p3] kk tp] e (env0 sc) = pure Option.none)
    (h : Sx X c n sc ((x3, v3) :: (x2, v2) :: (x1, v1) :: σ) z₁ rest R) : Sx X c n sc σ z (.Assign [.Tuple [Expr.Name x1 p1, Expr.Name x2 p2, Expr.Name x3 p3] kk tp] e pos :: rest) R :=
  .tupP2 (xs := [(x1, p1), (x2, p2), (x3, p3)]) h1 rfl (fun x hx' => by
    rcases List.mem_cons.mp hx' with rfl | hx'
    · exact hx
    · rcases List.mem_cons.mp hx' with rfl | hx'
      · exact hx2
      · rw [List.mem_singleton.mp hx']; exact hx3) hs hw h
end
end Mine

namespace Mine
@[reducible] noncomputable def XK (Y : Cx) : Cx := { Y with K := KF Y.w.params }
section
variable {Y : Cx}
theorem ng_is_int : nsIn (XK Y).K mainGlobals "is_int" = some (some (.ref 217)) := by kernel_rfl
theorem ng_named : nsIn (XK Y).K mainGlobals "named" = some (some (.ref 318)) := by kernel_rfl
theorem ng_whole : nsIn (XK Y).K mainGlobals "whole" = some (some (.ref 325)) := by kernel_rfl
theorem ng_other : nsIn (XK Y).K mainGlobals "other" = some (some (.ref 332)) := by kernel_rfl
theorem ng_divisor : nsIn (XK Y).K mainGlobals "divisor" = some (some (.ref 339)) := by kernel_rfl
theorem ng_compared : nsIn (XK Y).K mainGlobals "compared" = some (some (.ref 346)) := by kernel_rfl
theorem ng_need_room : nsIn (XK Y).K mainGlobals "need_room" = some (some (.ref 354)) := by kernel_rfl
theorem ng_quotient : nsIn (XK Y).K mainGlobals "quotient" = some (some (.ref 361)) := by kernel_rfl
theorem ng_modulo : nsIn (XK Y).K mainGlobals "modulo" = some (some (.ref 368)) := by kernel_rfl
theorem ng_remainder : nsIn (XK Y).K mainGlobals "remainder" = some (some (.ref 375)) := by kernel_rfl
theorem ng_quotient_up : nsIn (XK Y).K mainGlobals "quotient_up" = some (some (.ref 382)) := by kernel_rfl
theorem ng_power : nsIn (XK Y).K mainGlobals "power" = some (some (.ref 389)) := by kernel_rfl
theorem ng_power_modulo : nsIn (XK Y).K mainGlobals "power_modulo" = some (some (.ref 396)) := by kernel_rfl
theorem ng_divisor_of : nsIn (XK Y).K mainGlobals "divisor_of" = some (some (.ref 403)) := by kernel_rfl
theorem ng_common : nsIn (XK Y).K mainGlobals "common" = some (some (.ref 410)) := by kernel_rfl
theorem ng_greatest_divisor : nsIn (XK Y).K mainGlobals "greatest_divisor" = some (some (.ref 417)) := by kernel_rfl
theorem ng_least_multiple : nsIn (XK Y).K mainGlobals "least_multiple" = some (some (.ref 424)) := by kernel_rfl
theorem ng_at_most : nsIn (XK Y).K mainGlobals "at_most" = some (some (.ref 431)) := by kernel_rfl
theorem ng_at_least : nsIn (XK Y).K mainGlobals "at_least" = some (some (.ref 438)) := by kernel_rfl
theorem ng_bits_and : nsIn (XK Y).K mainGlobals "bits_and" = some (some (.ref 445)) := by kernel_rfl
theorem ng_bits_or : nsIn (XK Y).K mainGlobals "bits_or" = some (some (.ref 452)) := by kernel_rfl
theorem ng_bits_unlike : nsIn (XK Y).K mainGlobals "bits_unlike" = some (some (.ref 459)) := by kernel_rfl
theorem ng_shifted : nsIn (XK Y).K mainGlobals "shifted" = some (some (.ref 466)) := by kernel_rfl
theorem ng_shift_left : nsIn (XK Y).K mainGlobals "shift_left" = some (some (.ref 473)) := by kernel_rfl
theorem ng_shift_right : nsIn (XK Y).K mainGlobals "shift_right" = some (some (.ref 480)) := by kernel_rfl
theorem ng_bit_at : nsIn (XK Y).K mainGlobals "bit_at" = some (some (.ref 487)) := by kernel_rfl
theorem ng_bit_count : nsIn (XK Y).K mainGlobals "bit_count" = some (some (.ref 494)) := by kernel_rfl
theorem ng_has_all_bits : nsIn (XK Y).K mainGlobals "has_all_bits" = some (some (.ref 501)) := by kernel_rfl
theorem ng_grain : nsIn (XK Y).K mainGlobals "grain" = some (some (.ref 508)) := by kernel_rfl
theorem ng_rounded_down : nsIn (XK Y).K mainGlobals "rounded_down" = some (some (.ref 515)) := by kernel_rfl
theorem ng_rounded_up : nsIn (XK Y).K mainGlobals "rounded_up" = some (some (.ref 522)) := by kernel_rfl
theorem ng_rounded : nsIn (XK Y).K mainGlobals "rounded" = some (some (.ref 529)) := by kernel_rfl
theorem ng_cut : nsIn (XK Y).K mainGlobals "cut" = some (some (.ref 536)) := by kernel_rfl
theorem ng_figures : nsIn (XK Y).K mainGlobals "figures" = some (some (.ref 543)) := by kernel_rfl
theorem ng_law_box : nsIn (XK Y).K mainGlobals "_law_box" = some (some (.ref 550)) := by kernel_rfl
theorem ng_law_take : nsIn (XK Y).K mainGlobals "_law_take" = some (some (.ref 557)) := by kernel_rfl
theorem ng_law_drawn : nsIn (XK Y).K mainGlobals "_law_drawn" = some (some (.ref 564)) := by kernel_rfl
theorem ng_law_rest : nsIn (XK Y).K mainGlobals "_law_rest" = some (some (.ref 571)) := by kernel_rfl
theorem ng_law_power : nsIn (XK Y).K mainGlobals "_law_power" = some (some (.ref 578)) := by kernel_rfl
theorem ng_law_powers_right : nsIn (XK Y).K mainGlobals "_law_powers_right" = some (some (.ref 583)) := by kernel_rfl
theorem ng_law_parts_right : nsIn (XK Y).K mainGlobals "_law_parts_right" = some (some (.ref 590)) := by kernel_rfl
theorem ng_law_common_right : nsIn (XK Y).K mainGlobals "_law_common_right" = some (some (.ref 597)) := by kernel_rfl
theorem ng_law_figures_right : nsIn (XK Y).K mainGlobals "_law_figures_right" = some (some (.ref 602)) := by kernel_rfl
theorem ng_law_bits_right : nsIn (XK Y).K mainGlobals "_law_bits_right" = some (some (.ref 607)) := by kernel_rfl
theorem ng_law : nsIn (XK Y).K mainGlobals "law" = some (some (.ref 614)) := by kernel_rfl
theorem nb_isinstance : nsIn (XK Y).K mainGlobals "isinstance" = some none := by kernel_rfl
theorem bb_isinstance : bootBuiltins "isinstance" = some (.builtin "isinstance") := by decide +kernel
theorem nb_abs : nsIn (XK Y).K mainGlobals "abs" = some none := by kernel_rfl
theorem bb_abs : bootBuiltins "abs" = some (.builtin "abs") := by decide +kernel
theorem nb_len : nsIn (XK Y).K mainGlobals "len" = some none := by kernel_rfl
theorem bb_len : bootBuiltins "len" = some (.builtin "len") := by decide +kernel
theorem nb_min : nsIn (XK Y).K mainGlobals "min" = some none := by kernel_rfl
theorem bb_min : bootBuiltins "min" = some (.builtin "min") := by decide +kernel
theorem nb_max : nsIn (XK Y).K mainGlobals "max" = some none := by kernel_rfl
theorem bb_max : bootBuiltins "max" = some (.builtin "max") := by decide +kernel
theorem nb_sum : nsIn (XK Y).K mainGlobals "sum" = some none := by kernel_rfl
theorem bb_sum : bootBuiltins "sum" = some (.builtin "sum") := by decide +kernel
theorem nb_int : nsIn (XK Y).K mainGlobals "int" = some none := by kernel_rfl
theorem bb_int : bootBuiltins "int" = some (.type "int") := by decide +kernel
theorem nb_bool : nsIn (XK Y).K mainGlobals "bool" = some none := by kernel_rfl
theorem bb_bool : bootBuiltins "bool" = some (.type "bool") := by decide +kernel
theorem nb_str : nsIn (XK Y).K mainGlobals "str" = some none := by kernel_rfl
theorem bb_str : bootBuiltins "str" = some (.type "str") := by decide +kernel
theorem nb_range : nsIn (XK Y).K mainGlobals "range" = some none := by kernel_rfl
theorem bb_range : bootBuiltins "range" = some (.type "range") := by decide +kernel
theorem nb_enumerate : nsIn (XK Y).K mainGlobals "enumerate" = some none := by kernel_rfl
theorem bb_enumerate : bootBuiltins "enumerate" = some (.type "enumerate") := by decide +kernel
theorem ng_MOST_BITS : nsIn (XK Y).K mainGlobals "MOST_BITS" = some (some (.int 14000 669)) := by kernel_rfl
theorem ng_FIGURES : nsIn (XK Y).K mainGlobals "FIGURES" = some (some (.str (Str.ofString "0123456789abcdefghijklmnopqrstuvwxyz") 671)) := by kernel_rfl
theorem noPy_lit {a b : Int} (h : b.natAbs.log2 < 8900) : Builtin.divisionGoesByPylong a b = false := by
  have hd : ∀ n : Int, n.natAbs.log2 < 8900 → ¬ (if n == 0 then 0 else n.natAbs.log2 / 30 + 1) > 300 := by
    intro n hn
    split <;> omega
  unfold Builtin.divisionGoesByPylong
  rw [Bool.and_eq_false_iff]
  exact .inl (decide_eq_false (hd b h))
end
end Mine

namespace Mine
def bt (k : Nat) (x : Int) : Int := (x.fdiv (2 ^ k)).fmod 2
theorem bt_eq (k : Nat) (x : Int) : bt k x = (x / 2 ^ k) % 2 := by
  unfold bt
  rw [Int.fdiv_eq_ediv_of_nonneg _ (Int.le_of_lt (pow2_pos k)), Int.fmod_eq_emod_of_nonneg _ (by decide)]
theorem bt_01 (k : Nat) (x : Int) : bt k x = 0 ∨ bt k x = 1 := by rw [bt_eq]; omega
theorem bt_zero (x : Int) : bt 0 x = x % 2 := by rw [bt_eq]; simp
theorem bt_succ (k : Nat) (x : Int) : bt (k + 1) x = bt k (x / 2) := by
  rw [bt_eq, bt_eq, Int.ediv_ediv_of_nonneg (by decide), Int.pow_succ, Int.mul_comm]
theorem nat_and (a b : Nat) : a &&& b = 2 * ((a / 2) &&& (b / 2)) + (a % 2) * (b % 2) := by
  have h1 : (a &&& b) / 2 = (a / 2) &&& (b / 2) := Nat.and_div_two
  have h2 : (a &&& b) % 2 = (a % 2) * (b % 2) := by
    have := @Nat.testBit_and a b 0
    rw [Nat.testBit_zero, Nat.testBit_zero, Nat.testBit_zero] at this
    rcases Nat.mod_two_eq_zero_or_one a with ha | ha <;> rcases Nat.mod_two_eq_zero_or_one b with hb | hb <;> rcases Nat.mod_two_eq_zero_or_one (a &&& b) with hc | hc <;> simp_all
  omega
theorem nat_or (a b : Nat) : a ||| b = 2 * ((a / 2) ||| (b / 2)) + (a % 2 + b % 2 - (a % 2) * (b % 2)) := by
  have h1 : (a ||| b) / 2 = (a / 2) ||| (b / 2) := Nat.or_div_two
  have h2 : (a ||| b) % 2 = a % 2 + b % 2 - (a % 2) * (b % 2) := by
    have := @Nat.testBit_or a b 0
    rw [Nat.testBit_zero, Nat.testBit_zero, Nat.testBit_zero] at this
    rcases Nat.mod_two_eq_zero_or_one a with ha | ha <;> rcases Nat.mod_two_eq_zero_or_one b with hb | hb <;> rcases Nat.mod_two_eq_zero_or_one (a ||| b) with hc | hc <;> simp_all
  omega
theorem and_TT {x y : Int} (hx : 0 ≤ x) (hy : 0 ≤ y) : Builtin.bitAnd x y = (x.toNat &&& y.toNat : Nat) := by
  unfold Builtin.bitAnd; rw [decide_eq_true hx, decide_eq_true hy]
theorem and_TF {x y : Int} (hx : 0 ≤ x) (hy : y < 0) : Builtin.bitAnd x y = x - (x.toNat &&& (-y - 1).toNat : Nat) := by
  unfold Builtin.bitAnd; rw [decide_eq_true hx, decide_eq_false (show ¬ 0 ≤ y by omega)]; rfl
theorem and_FT {x y : Int} (hx : x < 0) (hy : 0 ≤ y) : Builtin.bitAnd x y = y - (y.toNat &&& (-x - 1).toNat : Nat) := by
  unfold Builtin.bitAnd; rw [decide_eq_true hy, decide_eq_false (show ¬ 0 ≤ x by omega)]; rfl
theorem and_FF {x y : Int} (hx : x < 0) (hy : y < 0) : Builtin.bitAnd x y = -((-x - 1).toNat ||| (-y - 1).toNat : Nat) - 1 := by
  unfold Builtin.bitAnd; rw [decide_eq_false (show ¬ 0 ≤ x by omega), decide_eq_false (show ¬ 0 ≤ y by omega)]; rfl
theorem and_rec (x y : Int) : Builtin.bitAnd x y = 2 * Builtin.bitAnd (x / 2) (y / 2) + (x % 2) * (y % 2) := by
  rcases Int.lt_or_le x 0 with hx | hx <;> rcases Int.lt_or_le y 0 with hy | hy
  · rw [and_FF hx hy, and_FF (by omega) (by omega), nat_or, show (-(x / 2) - 1).toNat = (-x - 1).toNat / 2 by omega, show (-(y / 2) - 1).toNat = (-y - 1).toNat / 2 by omega]
    generalize (-x - 1).toNat / 2 ||| (-y - 1).toNat / 2 = m
    rcases Int.emod_two_eq x with h1 | h1 <;> rcases Int.emod_two_eq y with h2 | h2 <;> rw [h1, h2] <;> (have e1 : (-x - 1).toNat % 2 = (1 - x % 2).toNat := by omega) <;> (have e2 : (-y - 1).toNat % 2 = (1 - y % 2).toNat := by omega) <;> rw [e1, e2, h1, h2] <;> simp <;> omega
  · rw [and_FT hx hy, and_FT (by omega) (by omega), nat_and, show (-(x / 2) - 1).toNat = (-x - 1).toNat / 2 by omega, show (y / 2).toNat = y.toNat / 2 by omega]
    generalize y.toNat / 2 &&& (-x - 1).toNat / 2 = m
    rcases Int.emod_two_eq x with h1 | h1 <;> rcases Int.emod_two_eq y with h2 | h2 <;> rw [h1, h2] <;> (have e1 : (-x - 1).toNat % 2 = (1 - x % 2).toNat := by omega) <;> (have e2 : y.toNat % 2 = (y % 2).toNat := by omega) <;> rw [e1, e2, h1, h2] <;> simp <;> omega
  · rw [and_TF hx hy, and_TF (by omega) (by omega), nat_and, show (-(y / 2) - 1).toNat = (-y - 1).toNat / 2 by omega, show (x / 2).toNat = x.toNat / 2 by omega]
    generalize x.toNat / 2 &&& (-y - 1).toNat / 2 = m
    rcases Int.emod_two_eq x with h1 | h1 <;> rcases Int.emod_two_eq y with h2 | h2 <;> rw [h1, h2] <;> (have e1 : (-y - 1).toNat % 2 = (1 - y % 2).toNat := by omega) <;> (have e2 : x.toNat % 2 = (x % 2).toNat := by omega) <;> rw [e1, e2, h1, h2] <;> simp <;> omega
  · rw [and_TT hx hy, and_TT (by omega) (by omega), nat_and, show (y / 2).toNat = y.toNat / 2 by omega, show (x / 2).toNat = x.toNat / 2 by omega]
    generalize x.toNat / 2 &&& y.toNat / 2 = m
    rcases Int.emod_two_eq x with h1 | h1 <;> rcases Int.emod_two_eq y with h2 | h2 <;> rw [h1, h2] <;> (have e1 : y.toNat % 2 = (y % 2).toNat := by omega) <;> (have e2 : x.toNat % 2 = (x % 2).toNat := by omega) <;> rw [e1, e2, h1, h2] <;> simp
theorem or_rec (x y : Int) : Builtin.bitOr x y = 2 * Builtin.bitOr (x / 2) (y / 2) + (x % 2 + y % 2 - (x % 2) * (y % 2)) := by
  unfold Builtin.bitOr Builtin.bitNot
  rw [and_rec (-x - 1) (-y - 1), show (-x - 1) / 2 = -(x / 2) - 1 by omega, show (-y - 1) / 2 = -(y / 2) - 1 by omega]
  generalize Builtin.bitAnd (-(x / 2) - 1) (-(y / 2) - 1) = m
  rcases Int.emod_two_eq x with h1 | h1 <;> rcases Int.emod_two_eq y with h2 | h2 <;> rw [h1, h2] <;> (have e1 : (-y - 1) % 2 = 1 - y % 2 := by omega) <;> (have e2 : (-x - 1) % 2 = 1 - x % 2 := by omega) <;> rw [e1, e2, h1, h2] <;> simp <;> omega
theorem int_ind2 {P : Int → Int → Prop} (base : ∀ x y, (x = 0 ∨ x = -1) → (y = 0 ∨ y = -1) → P x y) (step : ∀ x y, P (x / 2) (y / 2) → P x y) (x y : Int) : P x y := by
  have h : ∀ n : Nat, ∀ x y : Int, -(2 ^ n) ≤ x → x < 2 ^ n → -(2 ^ n) ≤ y → y < 2 ^ n → P x y := by
    intro n
    induction n with
    | zero => intro x y a b c d; exact base x y (by simp at a b; omega) (by simp at c d; omega)
    | succ n ih => intro x y a b c d; rw [Int.pow_succ] at a b c d; exact step x y (ih _ _ (by omega) (by omega) (by omega) (by omega))
  have hx := (Bd.ofBits x).mono (Nat.le_max_left _ (Builtin.Int.intBits y))
  have hy := (Bd.ofBits y).mono (Nat.le_max_right (Builtin.Int.intBits x) _)
  unfold Bd at hx hy
  have e : ((2 ^ (max (Builtin.Int.intBits x) (Builtin.Int.intBits y)) : Nat) : Int) = 2 ^ (max (Builtin.Int.intBits x) (Builtin.Int.intBits y)) := by simp
  exact h (max (Builtin.Int.intBits x) (Builtin.Int.intBits y)) x y (by omega) (by omega) (by omega) (by omega)
theorem bit_gen {f : Int → Int → Int} {g : Int → Int → Int} (hf : ∀ x y, f x y = 2 * f (x / 2) (y / 2) + g (x % 2) (y % 2)) (hg : ∀ a b : Int, (a = 0 ∨ a = 1) → (b = 0 ∨ b = 1) → (g a b = 0 ∨ g a b = 1)) : ∀ (k : Nat) (x y : Int), bt k (f x y) = g (bt k x) (bt k y)
  | 0, x, y => by
    rw [bt_zero, bt_zero, bt_zero, hf]
    have := hg (x % 2) (y % 2) (by omega) (by omega)
    omega
  | k + 1, x, y => by
    rw [bt_succ, bt_succ, bt_succ, ← bit_gen hf hg k]
    have := hg (x % 2) (y % 2) (by omega) (by omega)
    rw [hf x y]
    congr 1
    omega
theorem bt_and (k : Nat) (x y : Int) : bt k (Builtin.bitAnd x y) = bt k x * bt k y :=
  bit_gen (g := fun a b => a * b) and_rec (fun a b ha hb => by rcases ha with rfl | rfl <;> rcases hb with rfl | rfl <;> simp) k x y
theorem bt_or (k : Nat) (x y : Int) : bt k (Builtin.bitOr x y) = bt k x + bt k y - bt k x * bt k y :=
  bit_gen (g := fun a b => a + b - a * b) or_rec (fun a b ha hb => by rcases ha with rfl | rfl <;> rcases hb with rfl | rfl <;> simp) k x y
theorem bt_xor (k : Nat) (x y : Int) : bt k (Builtin.bitXor x y) = bt k x + bt k y - 2 * (bt k x * bt k y) :=
  bit_gen (f := Builtin.bitXor) (g := fun a b => a + b - 2 * (a * b)) (fun x y => by unfold Builtin.bitXor; rw [or_rec, and_rec]; omega) (fun a b ha hb => by rcases ha with rfl | rfl <;> rcases hb with rfl | rfl <;> simp) k x y
theorem and_or_sum (x y : Int) : Builtin.bitAnd x y + Builtin.bitOr x y = x + y :=
  int_ind2 (P := fun x y => Builtin.bitAnd x y + Builtin.bitOr x y = x + y) (fun x y hx hy => by rcases hx with rfl | rfl <;> rcases hy with rfl | rfl <;> decide) (fun x y h => by rw [and_rec, or_rec]; omega) x y
theorem and_and (x y : Int) : Builtin.bitAnd x (Builtin.bitAnd x y) = Builtin.bitAnd x y :=
  int_ind2 (P := fun x y => Builtin.bitAnd x (Builtin.bitAnd x y) = Builtin.bitAnd x y) (fun x y hx hy => by rcases hx with rfl | rfl <;> rcases hy with rfl | rfl <;> decide) (fun x y h => by
    rw [and_rec x (Builtin.bitAnd x y)]
    have e := and_rec x y
    have p : ((x % 2) * (y % 2) = 0 ∨ (x % 2) * (y % 2) = 1) := by rcases Int.emod_two_eq x with h1 | h1 <;> rcases Int.emod_two_eq y with h2 | h2 <;> rw [h1, h2] <;> simp
    have e1 : Builtin.bitAnd x y / 2 = Builtin.bitAnd (x / 2) (y / 2) := by omega
    have e2 : Builtin.bitAnd x y % 2 = (x % 2) * (y % 2) := by omega
    rw [e1, h, e2, ← Int.mul_assoc, show (x % 2) * (x % 2) = x % 2 by rcases Int.emod_two_eq x with h1 | h1 <;> rw [h1] <;> rfl, ← e]) x y
theorem and_le {x y : Int} (hx : 0 ≤ x) (hy : 0 ≤ y) : Builtin.bitAnd x y ≤ x := by
  rw [and_TT hx hy]
  have := @Nat.and_le_left x.toNat y.toNat
  omega
/-- the number of the lowest m bits -/
theorem fmod_succ (x : Int) (m : Nat) : x.fmod (2 ^ (m + 1)) = x.fmod (2 ^ m) + bt m x * 2 ^ m := by
  have hp := pow2_pos m
  refine fmod_eq ?_ ?_
  · have h1 := InR.fmod (a := x) (b := 2 ^ m) (by omega)
    have h2 := bt_01 m x
    rw [Int.pow_succ]
    unfold InR at *
    generalize x.fmod (2 ^ m) = r at *
    generalize (2 : Int) ^ m = P at *
    rcases h2 with h2 | h2 <;> rw [h2] <;> omega
  · refine ⟨(x / 2 ^ m) / 2, ?_⟩
    have e1 := fdiv_fmod x (2 ^ m)
    rw [Int.fdiv_eq_ediv_of_nonneg _ (by omega)] at e1
    rw [bt_eq, Int.pow_succ]
    generalize x.fmod (2 ^ m) = r at *
    generalize x / 2 ^ m = q at *
    generalize (2 : Int) ^ m = P at *
    have e2 : q = 2 * (q / 2) + q % 2 := by omega
    have e3 : P * q = P * 2 * (q / 2) + q % 2 * P := by
      have := congrArg (fun t => P * t) e2
      simp only [Int.mul_add] at this
      rw [this, Int.mul_assoc, Int.mul_comm P (q % 2)]
    omega
theorem sum_bits (x : Int) : ∀ m : Nat, ((List.range m).map fun k => bt k x * 2 ^ k).sum = x.fmod (2 ^ m)
  | 0 => by simp
  | m + 1 => by rw [List.range_succ, List.map_append, List.sum_append, sum_bits x m, fmod_succ]; simp
end Mine

namespace Mine
section
variable {Y : Cx}
local macro_rules | `(tactic| o_reads) => `(tactic| first
  | with_reducible assumption
  | ((with_reducible refine' Bd.mul ?e1 ?e2); (case e1 => o_reads); (case e2 => o_reads))
  | ((with_reducible refine' Bd.abs ?e1); (case e1 => o_reads))
  | ((with_reducible refine' Bd.neg ?e1); (case e1 => o_reads))
  | ((with_reducible refine' Bd.fmod ?e1 ?e2); (case e1 => o_reads); (case e2 => first | with_reducible assumption | decide))
  | ((with_reducible refine' Bd.fdiv ?e1); (case e1 => o_reads)))
local macro_rules | `(tactic| o_shape) => `(tactic| repeat (first | exact SubSig.nil _ | refine SubSig.cons rfl ?_))
local macro_rules | `(tactic| kba_ints) => `(tactic| (with_reducible first | exact ng_is_int | exact ng_named | exact ng_whole | exact ng_other | exact ng_divisor | exact ng_compared | exact ng_need_room | exact ng_quotient | exact ng_modulo | exact ng_remainder | exact ng_quotient_up | exact ng_power | exact ng_power_modulo | exact ng_divisor_of | exact ng_common | exact ng_greatest_divisor | exact ng_least_multiple | exact ng_at_most | exact ng_at_least | exact ng_bits_and | exact ng_bits_or | exact ng_bits_unlike | exact ng_shifted | exact ng_shift_left | exact ng_shift_right | exact ng_bit_at | exact ng_bit_count | exact ng_has_all_bits | exact ng_grain | exact ng_rounded_down | exact ng_rounded_up | exact ng_rounded | exact ng_cut | exact ng_figures | exact ng_law_box | exact ng_law_take | exact ng_law_drawn | exact ng_law_rest | exact ng_law_power | exact ng_law_powers_right | exact ng_law_parts_right | exact ng_law_common_right | exact ng_law_figures_right | exact ng_law_bits_right | exact nb_isinstance | exact bb_isinstance | exact nb_abs | exact bb_abs | exact nb_len | exact bb_len | exact nb_min | exact bb_min | exact nb_max | exact bb_max | exact nb_sum | exact bb_sum | exact nb_int | exact bb_int | exact nb_bool | exact bb_bool | exact nb_str | exact bb_str | exact nb_range | exact bb_range | exact nb_enumerate | exact bb_enumerate))
local macro_rules | `(tactic| k_places) => `(tactic| first
  | with_reducible exact Ez.int | with_reducible exact Ez.str | with_reducible exact Ez.bool | with_reducible exact Ez.none
  | ((with_reducible refine' Ez.name ?k1 ?k2 ?k3); (case k1 => rfl); (case k2 => rfl); (case k3 => rfl))
  | ((with_reducible refine' Ez.bname ?k1 ?k2 ?k3 ?k4 ?k5); (case k2 => kba_ints); (case k3 => kba_ints); (case k1 => rfl); (case k4 => decide); (case k5 => rfl))
  | ((with_reducible refine' Ez.gname ?k1 ?k2 ?k3 ?k4); (case k2 => first | with_reducible exact ng_MOST_BITS | with_reducible exact ng_FIGURES); (case k1 => rfl); (case k3 => rfl); (case k4 => (intro _ _; constructor)))
  | with_reducible exact Ezs.nil
  | ((with_reducible refine' Ezs.cons ?e1 ?e2 ?e3); (case e1 => k_places); (case e2 => k_places); (case e3 => rfl))
  | ((with_reducible refine' Ez.bin ?e1 ?e2 ?e3); (case e1 => k_places); (case e2 => k_places); (case e3 => kbo_bools))
  | ((with_reducible refine' Ez.cmp ?e1 ?e2 ?e3 ?e4); (case e1 => k_places); (case e2 => k_places); (case e3 => kbo_bools); (case e4 => rfl))
  | ((with_reducible refine' Ez.un ?e1 ?e2); (case e1 => k_places); (case e2 => kbo_bools))
  | ((with_reducible refine' Ez.call ?k1 ?k2 ?k3 ?k4 ?e1 ?e2 ?e3 ?e4 ?e5); (case k2 => kba_ints); (case k1 => rfl); (case k3 => rfl); (case k4 => rfl); (case e1 => k_places); (case e2 => k_subL); (case e3 => decide); (case e4 => repeat constructor); (case e5 => constructor))
  | ((with_reducible refine' Ez.callB ?k1 ?k2 ?k3 ?k4 ?k5 ?k6 ?e1 ?e2); (case k2 => kba_ints); (case k3 => kba_ints); (case k1 => rfl); (case k4 => decide); (case k5 => rfl); (case k6 => rfl); (case e1 => k_places); (case e2 => kbo_bools))
  | ((with_reducible refine' Ez.callT ?k1 ?k2 ?k3 ?k4 ?k5 ?k6 ?e1 ?e2); (case k2 => kba_ints); (case k3 => kba_ints); (case k1 => rfl); (case k4 => decide); (case k5 => rfl); (case k6 => rfl); (case e1 => k_places); (case e2 => kbo_bools))
  | ((with_reducible refine' Ez.callz ?k1 ?k2 ?k3 ?k4 ?e1 ?e2 ?e3); (case k2 => kba_ints); (case k1 => rfl); (case k3 => rfl); (case k4 => rfl); (case e1 => k_places); (case e2 => k_subL); (case e3 => decide))
  | ((with_reducible refine' Ez.item ?e1 ?e2 ?e3 ?e4); (case e1 => k_places); (case e2 => k_places); (case e3 => kas_types); (case e4 => exact fun _ _ => rfl))
  | ((with_reducible refine' Ez.itemC ?e1 ?e2 ?e5 ?e6 ?e3 ?e4); (case e1 => k_places); (case e2 => k_places); (case e5 => decide); (case e6 => decide); (case e3 => rfl); (case e4 => exact fun _ _ => rfl))
  | ((with_reducible refine' Ez.meth0 ?e1 ?e2 ?e3 ?e4 ?e5 ?e6 ?e7 ?e8); (case e1 => k_places); (case e2 => exact TyOf.int); (case e3 => exact fun _ => rfl); (case e4 => rfl); (case e5 => exact F.plainAttrs_int); (case e6 => exact slot_int_bit_length); (case e7 => exact type_int_bit_length); (case e8 => exact Me.bits))
  | ((with_reducible refine' Ez.list ?e1 ?e2); (case e1 => k_places); (case e2 => exact Nat.le_of_ble_eq_true rfl))
  | ((with_reducible refine' Ez.tup ?e1 ?e2); (case e1 => k_places); (case e2 => exact Nat.le_of_ble_eq_true rfl))
  | ((with_reducible refine' Ez.andI ?e1 ?e2); (case e1 => k_places); (case e2 => (intro hand; k_places)))
  | ((with_reducible refine' Ez.orI ?e1 ?e2); (case e1 => k_places); (case e2 => (intro hor; k_places)))
  | ((with_reducible refine' Ez.bool1 ?e1); (case e1 => k_places))
  | ((with_reducible refine' Ez.boolGo ?e1 ?e2 ?e3); (case e1 => k_places); (case e2 => rfl); (case e3 => k_places))
  | ((with_reducible refine' Ez.boolStop ?e1 ?e2); (case e1 => k_places); (case e2 => rfl))
  | ((with_reducible refine' Ez.ifexpF ?e1 ?e2 ?e3); (case e1 => k_clsL); (case e2 => lcg_src); (case e3 => k_places))
  | ((with_reducible refine' Ez.ifexpT ?e1 ?e2 ?e3); (case e1 => k_clsL); (case e2 => lcg_src); (case e3 => k_places))
  | ((with_reducible refine' Ez.ifexpV ?e1 ?e2 ?e3); (case e1 => k_clsL); (case e2 => (intro hif; k_places)); (case e3 => (intro hif; k_places))))
local macro_rules | `(tactic| k_clsL) => `(tactic| first
  | ((with_reducible refine' Tz.cmp ?e1 ?e2 ?e3 ?e4); (case e1 => k_places); (case e2 => k_places); (case e3 => kbo_bools); (case e4 => rfl))
  | ((with_reducible refine' Tz.chain ?e1 ?e2 ?e3 ?e4 ?e5 ?e6); (case e1 => k_places); (case e2 => k_places); (case e3 => kbo_bools); (case e4 => k_places); (case e5 => kbo_bools); (case e6 => rfl))
  | ((with_reducible refine' Tz.not ?e1); (case e1 => k_clsL))
  | ((with_reducible refine' Tz.andI ?e1 ?e2); (case e1 => k_clsL); (case e2 => (intro hand; k_clsL)))
  | ((with_reducible refine' Tz.orI ?e1 ?e2); (case e1 => k_clsL); (case e2 => (intro hor; k_clsL)))
  | ((with_reducible refine' Tz.bool1 ?e1); (case e1 => k_clsL))
  | ((with_reducible refine' Tz.plain ?e1 ?e2); (case e1 => k_places); (case e2 => exact fun _ _ => rfl)))
local macro_rules | `(tactic| kbo_bools) => `(tactic| first
  | (with_reducible first | exact Bin.add | exact Bin.sub | exact Un.neg | exact Un.not | exact Un.inv | exact Cmp.lt | exact Cmp.le | exact Cmp.gt | exact Cmp.ge | exact Cmp.eq | exact Cmp.ne | exact Bin.and | exact Bin.or | exact Bin.xor | exact Bi.isIntInt | exact Bi.isIntBool | exact Bi.abs | exact Bi.max | exact Bi.min | exact Bi.intBool | exact Cmp.isNone | exact Cmp.neB | exact Cmp.eqS | exact Cmp.neS | exact Cmp.notIn | exact Cmp.neNil)
  | ((with_reducible refine' Bi.lenL ?e1); (case e1 => first | with_reducible assumption | (simp only [List.length_cons, List.length_nil]; decide)))
  | ((with_reducible refine' Bi.lenS ?e1); (case e1 => first | with_reducible assumption | decide))
  | ((with_reducible refine' Bi.strInt ?e1); (case e1 => with_reducible assumption))
  | ((with_reducible refine' Bi.intText ?e1 ?e2); (case e1 => with_reducible assumption); (case e2 => with_reducible assumption))
  | ((with_reducible refine' Bin.mul ?e1); (case e1 => first | with_reducible assumption | exact IntMulOk.of_left (by decide) | exact IntMulOk.of_right (by decide) | ((refine' Bd.mulOk ?f1 ?f2 ?f3); (case f1 => o_reads); (case f2 => o_reads); (case f3 => rfl))))
  | ((with_reducible refine' Bin.mod ?e1); (case e1 => first | with_reducible assumption | omega | decide))
  | ((with_reducible refine' Bin.div ?e1 ?e2); (case e1 => first | with_reducible assumption | omega | decide); (case e2 => first | with_reducible assumption | exact noPy_lit (by decide) | ((refine' Bd.noPy ?f1 ?f2); (case f1 => o_reads); (case f2 => rfl))))
  | ((with_reducible refine' Bin.pow ?e1 ?e2); (case e1 => first | with_reducible assumption | omega | decide); (case e2 => first | with_reducible assumption | decide))
  | ((with_reducible refine' Bin.shr ?e1); (case e1 => first | with_reducible assumption | omega | decide))
  | ((with_reducible refine' Bin.shl ?e1 ?e2); (case e1 => first | with_reducible assumption | omega | decide); (case e2 => first | with_reducible assumption | omega | decide)))
local macro_rules | `(tactic| kas_types) => `(tactic| first | with_reducible assumption | exact ⟨by decide, by decide, rfl⟩)
local macro_rules | `(tactic| lcg_src) => `(tactic| first | rfl | assumption | (simp only [decide_eq_true_eq, decide_eq_false_iff_not, Bool.not_eq_true', Bool.not_eq_false', Bool.and_eq_true, Bool.or_eq_true, Bool.and_eq_false_iff, Bool.or_eq_false_iff] ; omega))
local macro_rules | `(tactic| lcg_sub) => `(tactic| first
  | ((with_reducible refine' Sx.assign ?e ?k ?s ?r); (case e => k_places); (case k => rfl); (case s => exact fun _ => rfl))
  | ((with_reducible refine' Sx.tupS2 (xs := [_, _]) ?e ?w ?l ?x ?s ?r); (case w => rfl); (case e => k_places); (case l => rfl); (case x => decide); (case s => exact fun _ => rfl); (dsimp only [addAll, List.reverse, List.reverseAux]))
  | ((with_reducible refine' Sx.tupS2 (xs := [_, _, _]) ?e ?w ?l ?x ?s ?r); (case w => rfl); (case e => k_places); (case l => rfl); (case x => decide); (case s => exact fun _ => rfl); (dsimp only [addAll, List.reverse, List.reverseAux]))
  | ((with_reducible refine' Sx.tupA2 ?e ?x1 ?x2 ?s ?w ?r); (case w => rfl); (case e => k_places); (case x1 => rfl); (case x2 => rfl); (case s => exact fun _ => rfl))
  | ((with_reducible refine' Sx.tupA3 ?e ?x1 ?x2 ?x3 ?s ?w ?r); (case w => rfl); (case e => k_places); (case x1 => rfl); (case x2 => rfl); (case x3 => rfl); (case s => exact fun _ => rfl))
  | ((with_reducible refine' Sx.augShr ?e1 ?e2 ?e3 ?e4 ?r); (case e1 => rfl); (case e2 => rfl); (case e3 => k_places); (case e4 => decide))
  | ((with_reducible refine' Sx.setCell ?e1 ?e2 ?e3 ?e4 ?e5 ?e6 ?e7 ?e8 ?e9 ?e10 ?r); (case e1 => k_places); (case e2 => k_places); (case e3 => k_places); (case e4 => decide); (case e5 => exact Nat.le_of_ble_eq_true rfl); (case e6 => exact Nat.le_of_ble_eq_true rfl); (case e7 => constructor); (case e8 => exact all_sc rfl); (case e9 => rfl); (case e10 => exact fun _ => rfl); (show Sx _ _ _ _ _ [_, _, _, _] _ _))
  | ((with_reducible refine' Sx.expr ?e ?s ?r); (case e => k_places); (case s => exact fun _ => rfl))
  | ((with_reducible refine' Sx.ifF ?e ?b ?r); (case e => k_clsL); (case b => lcg_src))
  | ((with_reducible refine' Sx.ifT ?e ?b ?r); (case e => k_clsL); (case b => lcg_src))
  | ((refine' Sx.ret ?vr1 ⟨?vr2, rfl⟩); (case vr1 => k_places); (case vr2 => rfl)))
local macro_rules | `(tactic| o_fieldsN) => `(tactic| first
  | ((with_reducible refine' Itz.range1 ?k1 ?k2 ?k3 ?k4 ?k5 ?k6 ?e1 ?e2 ?e3); (case k2 => kba_ints); (case k3 => kba_ints); (case k1 => rfl); (case k4 => decide); (case k5 => rfl); (case k6 => rfl); (case e1 => k_places); (case e2 => first | with_reducible assumption | omega | decide); (case e3 => first | with_reducible assumption | omega | decide))
  | ((with_reducible refine' Itz.str ?e1); (case e1 => k_places))
  | ((with_reducible refine' Itz.list ?e1); (case e1 => k_places)))
local macro_rules | `(tactic| wrow_raised) => `(tactic| ((refine' Sx.ifF ?e ?b ?r); (case e => k_clsL)))

theorem f_is_int (a : Int) : Fn (XK Y) 1 217 [.int a] (.bool true) := by
  refine Fn.of (names := ["value"]) (n := 0) (by rfl) (by rfl) (by rfl) (by rfl) (by rfl) (by rfl) (by rfl) (by decide) (by rfl) (by decide) (by rfl) (by rfl) (by decide) (len1 fun a0 => by rfl) (by rfl) (by rfl) ?_
  dsimp only [addAll]
  lcg_sub
local macro_rules | `(tactic| k_subL) => `(tactic| with_reducible exact f_is_int _)
theorem f_whole (a : Int) : Fn (XK Y) 2 325 [.none, .int a] (.int a) := by
  refine Fn.of (names := ["world", "value"]) (n := 1) (by rfl) (by rfl) (by rfl) (by rfl) (by rfl) (by rfl) (by rfl) (by decide) (by rfl) (by decide) (by rfl) (by rfl) (by decide) (len2 fun a0 a1 => by rfl) (by rfl) (by rfl) ?_
  dsimp only [addAll]
  lcg_sub
  lcg_sub
local macro_rules | `(tactic| k_subL) => `(tactic| with_reducible exact f_whole _)
theorem f_other (a : Int) : Fn (XK Y) 2 332 [.none, .list [.int a]] (.int a) := by
  refine Fn.of (names := ["world", "args"]) (n := 1) (by rfl) (by rfl) (by rfl) (by rfl) (by rfl) (by rfl) (by rfl) (by decide) (by rfl) (by decide) (by rfl) (by rfl) (by decide) (len2 fun a0 a1 => by rfl) (by rfl) (by rfl) ?_
  dsimp only [addAll]
  lcg_sub
  lcg_sub
local macro_rules | `(tactic| k_subL) => `(tactic| with_reducible exact f_other _)
theorem f_divisor (a : Int) (ha : a ≠ 0) : Fn (XK Y) 3 339 [.none, .list [.int a]] (.int a) := by
  refine Fn.of (names := ["world", "args"]) (n := 2) (by rfl) (by rfl) (by rfl) (by rfl) (by rfl) (by rfl) (by rfl) (by decide) (by rfl) (by decide) (by rfl) (by rfl) (by decide) (len2 fun a0 a1 => by rfl) (by rfl) (by rfl) ?_
  dsimp only [addAll]
  lcg_sub
  lcg_sub
local macro_rules | `(tactic| k_subL) => `(tactic| with_reducible exact f_divisor _ ‹_›)
theorem f_compared (a : Int) : Fn (XK Y) 2 346 [.none, .list [.int a]] (.int a) := by
  refine Fn.of (names := ["world", "args"]) (n := 1) (by rfl) (by rfl) (by rfl) (by rfl) (by rfl) (by rfl) (by rfl) (by decide) (by rfl) (by decide) (by rfl) (by rfl) (by decide) (len2 fun a0 a1 => by rfl) (by rfl) (by rfl) ?_
  dsimp only [addAll]
  lcg_sub
  lcg_sub
local macro_rules | `(tactic| k_subL) => `(tactic| with_reducible exact f_compared _)
theorem f_quotient (one two : Int) (h : two ≠ 0) (hp : Builtin.divisionGoesByPylong one two = false) : Fn (XK Y) 4 361 [.none, .int one, .list [.int two]] (.int (one.fdiv two)) := by
  refine Fn.of (names := ["world", "one", "args"]) (n := 3) (by rfl) (by rfl) (by rfl) (by rfl) (by rfl) (by rfl) (by rfl) (by decide) (by rfl) (by decide) (by rfl) (by rfl) (by decide) (len3 fun a0 a1 a2 => by rfl) (by rfl) (by rfl) ?_
  dsimp only [addAll]
  lcg_sub
local macro_rules | `(tactic| k_subL) => `(tactic| with_reducible exact f_quotient _ _ ‹_› ‹_›)
theorem f_modulo (one two : Int) (h : two ≠ 0) : Fn (XK Y) 4 368 [.none, .int one, .list [.int two]] (.int (one.fmod two)) := by
  refine Fn.of (names := ["world", "one", "args"]) (n := 3) (by rfl) (by rfl) (by rfl) (by rfl) (by rfl) (by rfl) (by rfl) (by decide) (by rfl) (by decide) (by rfl) (by rfl) (by decide) (len3 fun a0 a1 a2 => by rfl) (by rfl) (by rfl) ?_
  dsimp only [addAll]
  lcg_sub
local macro_rules | `(tactic| k_subL) => `(tactic| with_reducible exact f_modulo _ _ ‹_›)

theorem f_remainder (one two : Int) (h : two ≠ 0) (h' : ab two ≠ 0) : Fn (XK Y) 4 375 [.none, .int one, .list [.int two]] (.int (if decide (one < 0) then -((ab one).fmod (ab two)) else (ab one).fmod (ab two))) := by
  refine Fn.of (names := ["world", "one", "args"]) (n := 3) (by rfl) (by rfl) (by rfl) (by rfl) (by rfl) (by rfl) (by rfl) (by decide) (by rfl) (by decide) (by rfl) (by rfl) (by decide) (len3 fun a0 a1 a2 => by rfl) (by rfl) (by rfl) ?_
  dsimp only [addAll]
  lcg_sub
  lcg_sub
  lcg_sub
local macro_rules | `(tactic| k_subL) => `(tactic| with_reducible exact f_remainder _ _ ‹_› ‹_›)
theorem f_quotient_up (one two : Int) (h : two ≠ 0) (hp : Builtin.divisionGoesByPylong (-one) two = false) : Fn (XK Y) 4 382 [.none, .int one, .list [.int two]] (.int (-(-one).fdiv two)) := by
  refine Fn.of (names := ["world", "one", "args"]) (n := 3) (by rfl) (by rfl) (by rfl) (by rfl) (by rfl) (by rfl) (by rfl) (by decide) (by rfl) (by decide) (by rfl) (by rfl) (by decide) (len3 fun a0 a1 a2 => by rfl) (by rfl) (by rfl) ?_
  dsimp only [addAll]
  lcg_sub
local macro_rules | `(tactic| k_subL) => `(tactic| with_reducible exact f_quotient_up _ _ ‹_› ‹_›)
theorem f_need_room3 (b : Int) (r : Str) (h : b ≤ 14000) : Fn (XK Y) 1 354 [.none, .int b, .str r] .none := by
  refine Fn.ofD3 (names := ["world", "bits", "reason"]) (n := 0) (by rfl) (by rfl) (by rfl) (by rfl) (by rfl) (by rfl) (by rfl) (by decide) (by rfl) (by decide) (by rfl) (by rfl) (by decide) (by rfl) (by rfl) (by rfl) (fun a b d => by rfl) (fun a b d => by rfl) (by rfl) (by rfl) ?_
  dsimp only [addAll]
  lcg_sub
  exact Sx.nil ⟨rfl, rfl⟩
local macro_rules | `(tactic| k_subL) => `(tactic| with_reducible exact f_need_room3 _ _ ‹_›)
theorem f_need_room2 (b : Int) (h : b ≤ 14000) : Fn (XK Y) 1 354 [.none, .int b] .none := by
  refine Fn.ofD (names := ["world", "bits", "reason"]) (n := 0) (by rfl) (by rfl) (by rfl) (by rfl) (by rfl) (by rfl) (by rfl) (by decide) (by rfl) (by decide) (by rfl) (by rfl) (by decide) (by rfl) (by rfl) (by rfl) (fun a b => by rfl) (fun a b => by rfl) (by rfl) (by rfl) ?_
  dsimp only [addAll]
  lcg_sub
  exact Sx.nil ⟨rfl, rfl⟩
local macro_rules | `(tactic| k_subL) => `(tactic| with_reducible exact f_need_room2 _ ‹_›)
theorem f_at_most (a b : Int) : Fn (XK Y) 3 431 [.none, .int a, .list [.int b]] (.bool (decide (a ≤ b))) := by
  refine Fn.of (names := ["world", "one", "args"]) (n := 2) (by rfl) (by rfl) (by rfl) (by rfl) (by rfl) (by rfl) (by rfl) (by decide) (by rfl) (by decide) (by rfl) (by rfl) (by decide) (len3 fun a0 a1 a2 => by rfl) (by rfl) (by rfl) ?_
  dsimp only [addAll]
  lcg_sub
local macro_rules | `(tactic| k_subL) => `(tactic| with_reducible exact f_at_most _ _)
theorem f_at_least (a b : Int) : Fn (XK Y) 3 438 [.none, .int a, .list [.int b]] (.bool (decide (b ≤ a))) := by
  refine Fn.of (names := ["world", "one", "args"]) (n := 2) (by rfl) (by rfl) (by rfl) (by rfl) (by rfl) (by rfl) (by rfl) (by decide) (by rfl) (by decide) (by rfl) (by rfl) (by decide) (len3 fun a0 a1 a2 => by rfl) (by rfl) (by rfl) ?_
  dsimp only [addAll]
  lcg_sub
local macro_rules | `(tactic| k_subL) => `(tactic| with_reducible exact f_at_least _ _)
theorem f_bits_and (a b : Int) : Fn (XK Y) 3 445 [.none, .int a, .list [.int b]] (.int (Builtin.bitAnd a b)) := by
  refine Fn.of (names := ["world", "one", "args"]) (n := 2) (by rfl) (by rfl) (by rfl) (by rfl) (by rfl) (by rfl) (by rfl) (by decide) (by rfl) (by decide) (by rfl) (by rfl) (by decide) (len3 fun a0 a1 a2 => by rfl) (by rfl) (by rfl) ?_
  dsimp only [addAll]
  lcg_sub
local macro_rules | `(tactic| k_subL) => `(tactic| with_reducible exact f_bits_and _ _)
theorem f_bits_or (a b : Int) : Fn (XK Y) 3 452 [.none, .int a, .list [.int b]] (.int (Builtin.bitOr a b)) := by
  refine Fn.of (names := ["world", "one", "args"]) (n := 2) (by rfl) (by rfl) (by rfl) (by rfl) (by rfl) (by rfl) (by rfl) (by decide) (by rfl) (by decide) (by rfl) (by rfl) (by decide) (len3 fun a0 a1 a2 => by rfl) (by rfl) (by rfl) ?_
  dsimp only [addAll]
  lcg_sub
local macro_rules | `(tactic| k_subL) => `(tactic| with_reducible exact f_bits_or _ _)
theorem f_bits_unlike (a b : Int) : Fn (XK Y) 3 459 [.none, .int a, .list [.int b]] (.int (Builtin.bitXor a b)) := by
  refine Fn.of (names := ["world", "one", "args"]) (n := 2) (by rfl) (by rfl) (by rfl) (by rfl) (by rfl) (by rfl) (by rfl) (by decide) (by rfl) (by decide) (by rfl) (by rfl) (by decide) (len3 fun a0 a1 a2 => by rfl) (by rfl) (by rfl) ?_
  dsimp only [addAll]
  lcg_sub
local macro_rules | `(tactic| k_subL) => `(tactic| with_reducible exact f_bits_unlike _ _)
theorem f_has_all_bits (a b : Int) : Fn (XK Y) 3 501 [.none, .int a, .list [.int b]] (.bool (decide (Builtin.bitAnd a b = b))) := by
  refine Fn.of (names := ["world", "one", "args"]) (n := 2) (by rfl) (by rfl) (by rfl) (by rfl) (by rfl) (by rfl) (by rfl) (by decide) (by rfl) (by decide) (by rfl) (by rfl) (by decide) (len3 fun a0 a1 a2 => by rfl) (by rfl) (by rfl) ?_
  dsimp only [addAll]
  lcg_sub
  lcg_sub
local macro_rules | `(tactic| k_subL) => `(tactic| with_reducible exact f_has_all_bits _ _)
theorem f_bit_count (a : Int) : Fn (XK Y) 1 494 [.none, .int a, .list []] (.int (Builtin.Int.intBits (if decide (a < 0) then Builtin.bitNot a else a) : Nat)) := by
  refine Fn.of (names := ["world", "one", "args"]) (n := 0) (by rfl) (by rfl) (by rfl) (by rfl) (by rfl) (by rfl) (by rfl) (by decide) (by rfl) (by decide) (by rfl) (by rfl) (by decide) (len3 fun a0 a1 a2 => by rfl) (by rfl) (by rfl) ?_
  dsimp only [addAll]
  lcg_sub
local macro_rules | `(tactic| k_subL) => `(tactic| with_reducible exact f_bit_count _)

def sh (one w : Int) : Int := if w < 0 then one.fdiv (2 ^ (-w).toNat) else one * 2 ^ w.toNat
theorem f_shifted (one w : Int) (hb : Bd 8000 one) (hw : w ≤ 2000) : Fn (XK Y) 2 466 [.none, .int one, .int w] (.int (sh one w)) := by
  refine Fn.of (names := ["world", "one", "width"]) (n := 1) (by rfl) (by rfl) (by rfl) (by rfl) (by rfl) (by rfl) (by rfl) (by decide) (by rfl) (by decide) (by rfl) (by rfl) (by decide) (len3 fun a0 a1 a2 => by rfl) (by rfl) (by rfl) ?_
  dsimp only [addAll]
  by_cases h0 : w < 0
  · have h1 : 0 ≤ mn (-w) (↑(Builtin.Int.intBits one) + 1) := by rw [mn_eq]; omega
    lcg_sub
    refine' Sx.ret ?vr1 ⟨?vr2, rfl⟩
    case vr1 => k_places
    case vr2 =>
      unfold sh
      rw [if_pos h0]
      exact congrArg PV.int (fdiv_pow_cap (by omega) (by unfold mn; rfl))
  · have h1 : 0 ≤ w := by omega
    lcg_sub
    unfold sh
    rw [if_neg h0]
    by_cases h2 : one = 0
    · lcg_sub
      refine' Sx.ret ?vr1 ⟨?vr2, rfl⟩
      case vr1 => k_places
      case vr2 => subst h2; rw [Int.zero_mul]; rfl
    · lcg_sub
      have hb' := hb.bits
      have h3 : (↑(Builtin.Int.intBits one) + w : Int) ≤ 14000 := by omega
      have h4 : (↑(Builtin.Int.intBits one) + w : Int) ≤ 2 ^ 27 := by omega
      lcg_sub
      lcg_sub
local macro_rules | `(tactic| k_subL) => `(tactic| with_reducible exact f_shifted _ _ ‹_› (by first | assumption | omega))
theorem f_shift_left (one w : Int) (hb : Bd 8000 one) (hw : w ≤ 2000) : Fn (XK Y) 3 473 [.none, .int one, .list [.int w]] (.int (sh one w)) := by
  refine Fn.of (names := ["world", "one", "args"]) (n := 2) (by rfl) (by rfl) (by rfl) (by rfl) (by rfl) (by rfl) (by rfl) (by decide) (by rfl) (by decide) (by rfl) (by rfl) (by decide) (len3 fun a0 a1 a2 => by rfl) (by rfl) (by rfl) ?_
  dsimp only [addAll]
  lcg_sub
local macro_rules | `(tactic| k_subL) => `(tactic| with_reducible exact f_shift_left _ _ ‹_› (by first | assumption | omega))
theorem f_shift_right (one w : Int) (hb : Bd 8000 one) (hw : -w ≤ 2000) : Fn (XK Y) 3 480 [.none, .int one, .list [.int w]] (.int (sh one (-w))) := by
  refine Fn.of (names := ["world", "one", "args"]) (n := 2) (by rfl) (by rfl) (by rfl) (by rfl) (by rfl) (by rfl) (by rfl) (by decide) (by rfl) (by decide) (by rfl) (by rfl) (by decide) (len3 fun a0 a1 a2 => by rfl) (by rfl) (by rfl) ?_
  dsimp only [addAll]
  lcg_sub
local macro_rules | `(tactic| k_subL) => `(tactic| with_reducible exact f_shift_right _ _ ‹_› (by first | assumption | omega))
theorem sh_neg {one w : Int} (h : 0 ≤ w) : sh one (-w) = one.fdiv (2 ^ w.toNat) := by
  unfold sh
  by_cases h0 : w = 0
  · subst h0; simp
  · rw [if_pos (by omega), Int.neg_neg]
theorem f_bit_at1 (one k : Int) (hb : Bd 8000 one) (hk : 0 ≤ k) : Fn (XK Y) 3 487 [.none, .int one, .list [.int k]] (.int ((one.fdiv (2 ^ k.toNat)).fmod 2)) := by
  refine Fn.of (names := ["world", "one", "args"]) (n := 2) (by rfl) (by rfl) (by rfl) (by rfl) (by rfl) (by rfl) (by rfl) (by decide) (by rfl) (by decide) (by rfl) (by rfl) (by decide) (len3 fun a0 a1 a2 => by rfl) (by rfl) (by rfl) ?_
  dsimp only [addAll]
  lcg_sub
  lcg_sub
  refine' Sx.ret ?vr1 ⟨?vr2, rfl⟩
  case vr1 => k_places
  case vr2 => exact congrArg PV.int (by rw [bitAnd_one, sh_neg hk])
local macro_rules | `(tactic| k_subL) => `(tactic| with_reducible exact f_bit_at1 _ _ ‹_› (by first | assumption | omega))
theorem f_bit_at1n (one k : Int) (hk : k < 0) : Fn (XK Y) 3 487 [.none, .int one, .list [.int k]] (.int 0) := by
  refine Fn.of (names := ["world", "one", "args"]) (n := 2) (by rfl) (by rfl) (by rfl) (by rfl) (by rfl) (by rfl) (by rfl) (by decide) (by rfl) (by decide) (by rfl) (by rfl) (by decide) (len3 fun a0 a1 a2 => by rfl) (by rfl) (by rfl) ?_
  dsimp only [addAll]
  lcg_sub
  lcg_sub
  lcg_sub
local macro_rules | `(tactic| k_subL) => `(tactic| with_reducible exact f_bit_at1n _ _ (by first | assumption | decide))
theorem f_bit_at2 (one k w : Int) (hb : Bd 8000 one) (hk : 0 ≤ k) (hw : 0 ≤ w) (hw' : w ≤ 2000) : Fn (XK Y) 3 487 [.none, .int one, .list [.int k, .int w]] (.int ((one.fdiv (2 ^ k.toNat)).fmod (2 ^ w.toNat))) := by
  refine Fn.of (names := ["world", "one", "args"]) (n := 2) (by rfl) (by rfl) (by rfl) (by rfl) (by rfl) (by rfl) (by rfl) (by decide) (by rfl) (by decide) (by rfl) (by rfl) (by decide) (len3 fun a0 a1 a2 => by rfl) (by rfl) (by rfl) ?_
  dsimp only [addAll]
  lcg_sub
  lcg_sub
  lcg_sub
  lcg_sub
  lcg_sub
  have h1 : w ≤ 14000 := by omega
  lcg_sub
  have h2 : (↑(Builtin.Int.intBits 1) + w : Int) ≤ 2 ^ 27 := by have : Builtin.Int.intBits 1 = 1 := by decide
                                                                omega
  refine' Sx.ret ?vr1 ⟨?vr2, rfl⟩
  case vr1 => k_places
  case vr2 => exact congrArg PV.int (by rw [Int.one_mul, bitAnd_mask, sh_neg hk])
local macro_rules | `(tactic| k_subL) => `(tactic| with_reducible exact f_bit_at2 _ _ _ ‹_› (by first | assumption | omega) (by first | assumption | omega) (by first | assumption | omega))
theorem f_grain (p : Int) (hp : p < 0) (hp2 : -100 ≤ p) : Fn (XK Y) 3 508 [.none, .list [.int p]] (.int (10 ^ (-p).toNat)) := by
  refine Fn.of (names := ["world", "args"]) (n := 2) (by rfl) (by rfl) (by rfl) (by rfl) (by rfl) (by rfl) (by rfl) (by decide) (by rfl) (by decide) (by rfl) (by rfl) (by decide) (len2 fun a0 a1 => by rfl) (by rfl) (by rfl) ?_
  dsimp only [addAll]
  lcg_sub
  lcg_sub
  have h1 : -4 * p ≤ 14000 := by omega
  lcg_sub
  have h2 : 0 ≤ -p := by omega
  have h3 : (↑(Builtin.Int.intBits 10) * -p : Int) ≤ 2 ^ 27 := by rw [show Builtin.Int.intBits 10 = 4 by decide]; omega
  lcg_sub
local macro_rules | `(tactic| k_subL) => `(tactic| with_reducible exact f_grain _ (by first | assumption | omega) (by first | assumption | omega))
theorem f_rounded_down (one p : Int) (hb : Bd 8000 one) (hp : p < 0) (hp2 : -100 ≤ p) : Fn (XK Y) 4 515 [.none, .int one, .list [.int p]] (.int (one.fdiv (10 ^ (-p).toNat) * 10 ^ (-p).toNat)) := by
  refine Fn.of (names := ["world", "one", "args"]) (n := 3) (by rfl) (by rfl) (by rfl) (by rfl) (by rfl) (by rfl) (by rfl) (by decide) (by rfl) (by decide) (by rfl) (by rfl) (by decide) (len3 fun a0 a1 a2 => by rfl) (by rfl) (by rfl) ?_
  dsimp only [addAll]
  have h1 := pow10_ne (-p).toNat
  have h2 := Bd.pow10 (m := (-p).toNat) (by omega)
  lcg_sub
  lcg_sub
local macro_rules | `(tactic| k_subL) => `(tactic| with_reducible exact f_rounded_down _ _ ‹_› (by first | assumption | omega) (by first | assumption | omega))
theorem f_rounded_up (one p : Int) (hb : Bd 8000 one) (hp : p < 0) (hp2 : -100 ≤ p) : Fn (XK Y) 4 522 [.none, .int one, .list [.int p]] (.int (-(-one).fdiv (10 ^ (-p).toNat) * 10 ^ (-p).toNat)) := by
  refine Fn.of (names := ["world", "one", "args"]) (n := 3) (by rfl) (by rfl) (by rfl) (by rfl) (by rfl) (by rfl) (by rfl) (by decide) (by rfl) (by decide) (by rfl) (by rfl) (by decide) (len3 fun a0 a1 a2 => by rfl) (by rfl) (by rfl) ?_
  dsimp only [addAll]
  have h1 := pow10_ne (-p).toNat
  have h2 := Bd.pow10 (m := (-p).toNat) (by omega)
  lcg_sub
  lcg_sub
local macro_rules | `(tactic| k_subL) => `(tactic| with_reducible exact f_rounded_up _ _ ‹_› (by first | assumption | omega) (by first | assumption | omega))
theorem f_rounded (one p : Int) (hb : Bd 8000 one) (hp : p < 0) (hp2 : -100 ≤ p) : Fn (XK Y) 4 529 [.none, .int one, .list [.int p]] (.int (if decide (one < 0) then -((ab one + (10 ^ (-p).toNat : Int).fdiv 2).fdiv (10 ^ (-p).toNat) * 10 ^ (-p).toNat) else (ab one + (10 ^ (-p).toNat : Int).fdiv 2).fdiv (10 ^ (-p).toNat) * 10 ^ (-p).toNat)) := by
  refine Fn.of (names := ["world", "one", "args"]) (n := 3) (by rfl) (by rfl) (by rfl) (by rfl) (by rfl) (by rfl) (by rfl) (by decide) (by rfl) (by decide) (by rfl) (by rfl) (by decide) (len3 fun a0 a1 a2 => by rfl) (by rfl) (by rfl) ?_
  dsimp only [addAll]
  have h1 := pow10_ne (-p).toNat
  have h2 := Bd.pow10 (m := (-p).toNat) (by omega)
  have h3 : Bd 8001 (ab one + (10 ^ (-p).toNat : Int).fdiv 2) := hb.abs.add (h2.fdiv.mono (by decide))
  lcg_sub
  lcg_sub
  lcg_sub
local macro_rules | `(tactic| k_subL) => `(tactic| with_reducible exact f_rounded _ _ ‹_› (by first | assumption | omega) (by first | assumption | omega))
theorem f_cut (one p : Int) (hb : Bd 8000 one) (hp : p < 0) (hp2 : -100 ≤ p) : Fn (XK Y) 4 536 [.none, .int one, .list [.int p]] (.int (if decide (one < 0) then -((ab one).fdiv (10 ^ (-p).toNat) * 10 ^ (-p).toNat) else (ab one).fdiv (10 ^ (-p).toNat) * 10 ^ (-p).toNat)) := by
  refine Fn.of (names := ["world", "one", "args"]) (n := 3) (by rfl) (by rfl) (by rfl) (by rfl) (by rfl) (by rfl) (by rfl) (by decide) (by rfl) (by decide) (by rfl) (by rfl) (by decide) (len3 fun a0 a1 a2 => by rfl) (by rfl) (by rfl) ?_
  dsimp only [addAll]
  have h1 := pow10_ne (-p).toNat
  have h2 := Bd.pow10 (m := (-p).toNat) (by omega)
  lcg_sub
  lcg_sub
  lcg_sub
local macro_rules | `(tactic| k_subL) => `(tactic| with_reducible exact f_cut _ _ ‹_› (by first | assumption | omega) (by first | assumption | omega))

theorem f_power_modulo (one e size : Int) (he : 0 ≤ e) (hs : size ≠ 0) (hbe : Bd 2000 e) (hbs : Bd 4000 size) : Fn (XK Y) 3 396 [.none, .int one, .list [.int e, .int size]] (.int ((one ^ e.toNat).fmod size)) := by
  refine Fn.of (names := ["world", "one", "args"]) (n := 2) (by rfl) (by rfl) (by rfl) (by rfl) (by rfl) (by rfl) (by rfl) (by decide) (by rfl) (by decide) (by rfl) (by rfl) (by decide) (len3 fun a0 a1 a2 => by rfl) (by rfl) (by rfl) ?_
  dsimp only [addAll]
  have hr : (↑(Builtin.Int.intBits e) + ↑(Builtin.Int.intBits size) : Int) ≤ 14000 := by have := hbe.bits; have := hbs.bits; omega
  lcg_sub
  lcg_sub
  lcg_sub
  lcg_sub
  lcg_sub
  refine Sx.sub (σ := [nv "exponent" (.int e), nv "size" (.int size), nv "found" (.int ((1 : Int).fmod size)), nv "square" (.int (one.fmod size))]) (by o_shape) ?_
  refine Sx.while (fun m σ z => ∃ f s x : Int, σ = [nv "exponent" (.int x), nv "size" (.int size), nv "found" (.int f), nv "square" (.int s)] ∧ z = [] ∧ 0 ≤ x ∧ m = x.toNat ∧ Bd 4000 f ∧ Bd 4000 s ∧ (f * s ^ x.toNat).fmod size = (one ^ e.toNat).fmod size ∧ f.fmod size = f) e.toNat ⟨_, _, _, rfl, rfl, he, rfl, hbs.fmod hs, hbs.fmod hs, ?_, fmod_fmod' _ _⟩ ?_
  · have := dvd_mul_sub (fmod_dvd' 1 size) (dvd_pow_sub (fmod_dvd' one size) e.toNat)
    rw [Int.one_mul] at this
    exact fmod_congr this
  rintro m _ _ ⟨f, s, x, rfl, rfl, hx, rfl, hf, hq, hi, hff⟩
  refine ⟨_, [], by k_clsL, fun hb => ?_, fun hb => ?_⟩
  · have hx0 : 0 < x := of_decide_eq_true hb
    have hbit := bitAnd_one x
    rw [Int.fmod_eq_emod_of_nonneg _ (by decide)] at hbit
    have hd : x.fdiv (2 ^ (1 : Int).toNat) = x / 2 := Int.fdiv_eq_ediv_of_nonneg _ (by decide)
    by_cases h1 : Builtin.bitAnd x 1 = 1
    · have hb1 : decide (Builtin.bitAnd x 1 = 1) = true := decide_eq_true h1
      lcg_sub
      lcg_sub
      refine Sx.nil ?_
      show Sx _ _ _ _ _ _ _ _
      lcg_sub
      lcg_sub
      refine Sx.nil ⟨(x / 2).toNat, [nv "exponent" (.int (x / 2)), nv "size" (.int size), nv "found" (.int ((f * s).fmod size)), nv "square" (.int ((s * s).fmod size))], by omega, ?_, _, _, _, rfl, rfl, by omega, rfl, hbs.fmod hs, hbs.fmod hs, ?_, fmod_fmod' _ _⟩
      · rw [hd]; o_shape
      · rw [pow_step_odd, ← hi, show 2 * (x / 2).toNat + 1 = x.toNat by omega]
    · have hb1 : decide (Builtin.bitAnd x 1 = 1) = false := decide_eq_false h1
      lcg_sub
      lcg_sub
      lcg_sub
      refine Sx.nil ⟨(x / 2).toNat, [nv "exponent" (.int (x / 2)), nv "size" (.int size), nv "found" (.int f), nv "square" (.int ((s * s).fmod size))], by omega, ?_, _, _, _, rfl, rfl, by omega, rfl, hf, hbs.fmod hs, ?_, hff⟩
      · rw [hd]; o_shape
      · rw [pow_step_even, ← hi, show 2 * (x / 2).toNat = x.toNat by omega]
  · have hx0 : ¬ 0 < x := of_decide_eq_false hb
    refine' Sx.ret ?vr1 ⟨?vr2, rfl⟩
    case vr1 => k_places
    case vr2 =>
      rw [show x.toNat = 0 by omega, Int.pow_zero, Int.mul_one, hff] at hi
      exact congrArg PV.int hi
local macro_rules | `(tactic| k_subL) => `(tactic| with_reducible exact f_power_modulo _ _ _ ‹_› ‹_› ‹_› ‹_›)
theorem f_divisor_of (one two : Int) : Fn (XK Y) 1 403 [.int one, .int two] (.int (Int.gcd one two : Nat)) := by
  refine Fn.of (names := ["one", "two"]) (n := 0) (by rfl) (by rfl) (by rfl) (by rfl) (by rfl) (by rfl) (by rfl) (by decide) (by rfl) (by decide) (by rfl) (by rfl) (by decide) (len2 fun a0 a1 => by rfl) (by rfl) (by rfl) ?_
  dsimp only [addAll]
  lcg_sub
  refine Sx.sub (σ := [nv "one" (.int (ab one)), nv "two" (.int (ab two))]) (by o_shape) ?_
  rw [ab_eq, ab_eq]
  refine Sx.while (fun m σ z => ∃ a b : Nat, σ = [nv "one" (.int (a : Int)), nv "two" (.int (b : Int))] ∧ z = [] ∧ m = b ∧ Nat.gcd a b = Int.gcd one two) two.natAbs ⟨_, _, rfl, rfl, rfl, rfl⟩ ?_
  rintro m _ _ ⟨a, b, rfl, rfl, rfl, hg⟩
  refine ⟨_, [], by k_clsL, fun hb => ?_, fun hb => ?_⟩
  · have h0 : (0 : Int) < m := of_decide_eq_true hb
    have h1 : (m : Int) ≠ 0 := by omega
    lcg_sub
    have he : (a : Int).fmod (m : Int) = ((a % m : Nat) : Int) := by rw [Int.fmod_eq_emod_of_nonneg _ (by omega)]; simp
    refine Sx.nil ⟨a % m, [nv "one" (.int (m : Int)), nv "two" (.int ((a % m : Nat) : Int))], Nat.mod_lt _ (by omega), ?_, _, _, rfl, rfl, rfl, ?_⟩
    · rw [← he]; o_shape
    · rw [← hg, Nat.gcd_comm a m, Nat.gcd_rec m a, Nat.gcd_comm]
  · have h0 : ¬ (0 : Int) < m := of_decide_eq_false hb
    refine' Sx.ret ?vr1 ⟨?vr2, rfl⟩
    case vr1 => k_places
    case vr2 =>
      rw [show m = 0 by omega, Nat.gcd_zero_right] at hg
      exact congrArg (fun k : Nat => PV.int (k : Int)) hg
local macro_rules | `(tactic| k_subL) => `(tactic| with_reducible exact f_divisor_of _ _)
theorem f_common (a : Int) : Fn (XK Y) 2 410 [.none, .list [.int a]] (.int a) := by
  refine Fn.of (names := ["world", "args"]) (n := 1) (by rfl) (by rfl) (by rfl) (by rfl) (by rfl) (by rfl) (by rfl) (by decide) (by rfl) (by decide) (by rfl) (by rfl) (by decide) (len2 fun a0 a1 => by rfl) (by rfl) (by rfl) ?_
  dsimp only [addAll]
  lcg_sub
local macro_rules | `(tactic| k_subL) => `(tactic| with_reducible exact f_common _)
theorem f_greatest_divisor (one two : Int) : Fn (XK Y) 3 417 [.none, .int one, .list [.int two]] (.int (Int.gcd one two : Nat)) := by
  refine Fn.of (names := ["world", "one", "args"]) (n := 2) (by rfl) (by rfl) (by rfl) (by rfl) (by rfl) (by rfl) (by rfl) (by decide) (by rfl) (by decide) (by rfl) (by rfl) (by decide) (len3 fun a0 a1 a2 => by rfl) (by rfl) (by rfl) ?_
  dsimp only [addAll]
  lcg_sub
local macro_rules | `(tactic| k_subL) => `(tactic| with_reducible exact f_greatest_divisor _ _)
theorem f_least_multiple (one two : Int) (h1 : Bd 4000 one) (h2 : Bd 4000 two) : Fn (XK Y) 3 424 [.none, .int one, .list [.int two]] (.int (if one = 0 ∨ two = 0 then 0 else (ab (one * two)).fdiv (Int.gcd one two : Nat))) := by
  refine Fn.of (names := ["world", "one", "args"]) (n := 2) (by rfl) (by rfl) (by rfl) (by rfl) (by rfl) (by rfl) (by rfl) (by decide) (by rfl) (by decide) (by rfl) (by rfl) (by decide) (len3 fun a0 a1 a2 => by rfl) (by rfl) (by rfl) ?_
  dsimp only [addAll]
  have hr : (↑(Builtin.Int.intBits one) + ↑(Builtin.Int.intBits two) : Int) ≤ 14000 := by have := h1.bits; have := h2.bits; omega
  lcg_sub
  lcg_sub
  by_cases a1 : one = 0
  · rw [if_pos (.inl a1)]
    have e1 : decide (one = 0) = true := decide_eq_true a1
    refine' Sx.ret (Ez.ifexpT (Tz.boolStop ?vt1 ?vt2) ?vt5 ?vt3) ⟨rfl, rfl⟩
    case vt1 => k_clsL
    case vt2 => exact e1
    case vt5 => exact e1
    case vt3 => k_places
  · have e1 : decide (one = 0) = false := decide_eq_false a1
    by_cases a2 : two = 0
    · rw [if_pos (.inr a2)]
      have e2 : decide (two = 0) = true := decide_eq_true a2
      refine' Sx.ret (Ez.ifexpT (Tz.boolGo ?vt1 ?vt2 (Tz.bool1 ?vt4)) ?vt5 ?vt3) ⟨rfl, rfl⟩
      case vt1 => k_clsL
      case vt2 => show (!decide (one = 0)) = true; rw [e1]; rfl
      case vt4 => k_clsL
      case vt5 => exact e2
      case vt3 => k_places
    · rw [if_neg (by omega)]
      have e2 : decide (two = 0) = false := decide_eq_false a2
      have h3 : ((Int.gcd one two : Nat) : Int) ≠ 0 := by have := Int.gcd_eq_zero_iff (a := one) (b := two); omega
      have h4 : Bd 4000 ((Int.gcd one two : Nat) : Int) := h1.le (by rw [Int.natAbs_natCast]; exact Nat.le_of_dvd (by omega) (Int.gcd_dvd_natAbs_left ..))
      refine' Sx.ret (Ez.ifexpF (Tz.boolGo ?vt1 ?vt2 (Tz.bool1 ?vt4)) ?vt5 ?vt3) ⟨rfl, rfl⟩
      case vt1 => k_clsL
      case vt2 => show (!decide (one = 0)) = true; rw [e1]; rfl
      case vt4 => k_clsL
      case vt5 => exact e2
      case vt3 => k_places
local macro_rules | `(tactic| k_subL) => `(tactic| with_reducible exact f_least_multiple _ _ ‹_› ‹_›)

theorem small_pow {a e : Int} (ha : ab a < 2) (he : 0 ≤ e) : (if (decide (e.fmod 2 = 0) && !decide (a = 0)) || decide (e = 0) then (1 : Int) else a) = a ^ e.toNat := by
  obtain ⟨k, rfl⟩ := Int.eq_ofNat_of_zero_le he
  have hm : (k : Int).fmod 2 = ((k % 2 : Nat) : Int) := by rw [Int.fmod_eq_emod_of_nonneg _ (by decide)]; simp
  rw [hm, show (k : Int).toNat = k from rfl]
  have h3 : a = 0 ∨ a = 1 ∨ a = -1 := by unfold ab at ha; split at ha <;> omega
  rcases Nat.eq_zero_or_pos k with h0 | h0
  · subst h0; simp
  · obtain ⟨j, rfl⟩ : ∃ j, k = j + 1 := ⟨k - 1, by omega⟩
    rcases h3 with h | h | h
    · subst h; simp; omega
    · subst h; rw [Int.one_pow]; split <;> rfl
    · subst h
      have h1 : ∀ j : Nat, ((-1 : Int)) ^ (2 * j) = 1 := fun j => by rw [Int.pow_mul, show (-1 : Int) ^ 2 = 1 from rfl, Int.one_pow]
      rcases Nat.mod_two_eq_zero_or_one (j + 1) with h2 | h2
      · rw [h2, show j + 1 = 2 * ((j + 1) / 2) by omega, h1]; simp
      · rw [h2, show j + 1 = 2 * ((j + 1) / 2) + 1 by omega, Int.pow_succ, h1]; simp; omega
theorem f_power1 (one e : Int) (he : 0 ≤ e) (hb : (↑(Builtin.Int.intBits one) * e : Int) ≤ 14000) : Fn (XK Y) 3 389 [.none, .int one, .list [.int e]] (.int (one ^ e.toNat)) := by
  refine Fn.of (names := ["world", "one", "args"]) (n := 2) (by rfl) (by rfl) (by rfl) (by rfl) (by rfl) (by rfl) (by rfl) (by decide) (by rfl) (by decide) (by rfl) (by rfl) (by decide) (len3 fun a0 a1 a2 => by rfl) (by rfl) (by rfl) ?_
  dsimp only [addAll]
  lcg_sub
  lcg_sub
  by_cases h : ab one < 2
  · have h' : decide (ab one < 2) = true := decide_eq_true h
    lcg_sub
    have h2 : decide (e < 0) = false := decide_eq_false (by omega)
    refine' Sx.ifF ?va1 ?va2 ?va3
    case va1 => k_clsL
    case va2 => rw [h2, Bool.and_false]
    refine' Sx.ret ?vr1 ⟨?vr2, rfl⟩
    case vr1 => k_places
    case vr2 => exact congrArg PV.int (small_pow h he)
  · have h' : decide (ab one < 2) = false := decide_eq_false h
    have hbn : 1 ≤ Builtin.Int.intBits one := by
      unfold Builtin.Int.intBits
      split
      · rename_i h1; exact absurd (show ab one < 2 by rw [eq_of_beq h1]; decide) h
      · omega
    have hle : 1 * e ≤ ↑(Builtin.Int.intBits one) * e := Int.mul_le_mul_of_nonneg_right (by omega) he
    have hm : IntMulOk ↑(Builtin.Int.intBits one) e := IntMulOk.of_right (intBits_le_64 (by omega) (by omega))
    lcg_sub
    lcg_sub
    lcg_sub
    have h3 : (↑(Builtin.Int.intBits one) * e : Int) ≤ 2 ^ 27 := by omega
    lcg_sub
local macro_rules | `(tactic| k_subL) => `(tactic| with_reducible exact f_power1 _ _ ‹_› ‹_›)
theorem f_power2 (one e size : Int) (he : 0 ≤ e) (hs : size ≠ 0) (hbe : Bd 2000 e) (hbs : Bd 4000 size) : Fn (XK Y) 4 389 [.none, .int one, .list [.int e, .int size]] (.int ((one ^ e.toNat).fmod size)) := by
  refine Fn.of (names := ["world", "one", "args"]) (n := 3) (by rfl) (by rfl) (by rfl) (by rfl) (by rfl) (by rfl) (by rfl) (by decide) (by rfl) (by decide) (by rfl) (by rfl) (by decide) (len3 fun a0 a1 a2 => by rfl) (by rfl) (by rfl) ?_
  dsimp only [addAll]
  lcg_sub
  lcg_sub
local macro_rules | `(tactic| k_subL) => `(tactic| with_reducible exact f_power2 _ _ _ ‹_› ‹_› ‹_› ‹_›)
theorem rest_value {one two S L l : Int} (h : two ≠ 0) (hS : ab two = S) (hL : ab one = L) (hd : S ∣ L - l) (hl0 : 0 ≤ l) (hlS : l < S) :
    (if decide (0 < two) || decide ((if decide (0 ≤ one) || decide (l = 0) then l else S - l) = 0) then (if decide (0 ≤ one) || decide (l = 0) then l else S - l) else (if decide (0 ≤ one) || decide (l = 0) then l else S - l) - S) = one.fmod two := by
  symm
  have h1 : two ∣ S := by rw [← hS, ab_eq]; exact Int.dvd_natAbs_self
  obtain ⟨q, hq⟩ := Int.dvd_trans h1 hd
  obtain ⟨p, hp⟩ := h1
  rw [ab_eq] at hS hL
  by_cases a1 : 0 ≤ one
  · simp only [decide_eq_true a1, Bool.true_or, if_true]
    by_cases a2 : 0 < two ∨ l = 0
    · rw [if_pos (by simpa using a2)]
      exact fmod_eq (by unfold InR; omega) ⟨q, by omega⟩
    · rw [if_neg (by simpa using a2)]
      exact fmod_eq (by unfold InR; omega) ⟨q + p, by rw [Int.mul_add]; omega⟩
  · simp only [decide_eq_false a1, Bool.false_or, decide_eq_true_eq]
    by_cases a3 : l = 0
    · subst a3
      simp only [if_true, decide_true, Bool.or_true]
      exact fmod_eq (by unfold InR; omega) ⟨-q, by rw [Int.mul_neg]; omega⟩
    · simp only [if_neg a3]
      by_cases a2 : 0 < two ∨ S - l = 0
      · rw [if_pos (by simpa using a2)]
        exact fmod_eq (by unfold InR; omega) ⟨-q - p, by rw [Int.mul_sub, Int.mul_neg]; omega⟩
      · rw [if_neg (by simpa using a2)]
        exact fmod_eq (by unfold InR; omega) ⟨-q, by rw [Int.mul_neg]; omega⟩
theorem f_law_rest (one two : Int) (h : two ≠ 0) : Fn (XK Y) 1 571 [.int one, .int two] (.int (one.fmod two)) := by
  refine Fn.of (names := ["one", "two"]) (n := 0) (by rfl) (by rfl) (by rfl) (by rfl) (by rfl) (by rfl) (by rfl) (by decide) (by rfl) (by decide) (by rfl) (by rfl) (by decide) (len2 fun a0 a1 => by rfl) (by rfl) (by rfl) ?_
  dsimp only [addAll]
  have hs : 0 < ab two := by have := ab_ne h; have := ab_nn two; omega
  have hl := ab_nn one
  have es := ab_eq two
  have el := ab_eq one
  lcg_sub
  lcg_sub
  generalize hS : ab two = S at *
  generalize hL : ab one = L at *
  refine Sx.sub (σ := [nv "one" (.int one), nv "two" (.int two), nv "size" (.int S), nv "left" (.int L), nv "step" (.int S)]) (by o_shape) ?_
  refine Sx.while (fun m σ z => ∃ st : Int, σ = [nv "one" (.int one), nv "two" (.int two), nv "size" (.int S), nv "left" (.int L), nv "step" (.int st)] ∧ z = [] ∧ m = (L - st).toNat ∧ ∃ k : Nat, st = S * 2 ^ k) (L - S).toNat ⟨_, rfl, rfl, rfl, 0, by simp⟩ ?_
  rintro m _ _ ⟨st, rfl, rfl, rfl, k, hk⟩
  have hst : 0 < st := by rw [hk]; exact Int.mul_pos hs (pow2_pos k)
  refine ⟨_, [], by k_clsL, fun hb => ?_, fun hb => ?_⟩
  · have hb' : st + st ≤ L := of_decide_eq_true hb
    lcg_sub
    refine Sx.nil ⟨(L - (st + st)).toNat, [nv "one" (.int one), nv "two" (.int two), nv "size" (.int S), nv "left" (.int L), nv "step" (.int (st + st))], by omega, by o_shape, _, rfl, rfl, rfl, k + 1, ?_⟩
    rw [Int.pow_succ, ← Int.mul_assoc, ← hk]; omega
  · have hb' : ¬ st + st ≤ L := of_decide_eq_false hb
    refine Sx.while (fun m σ z => ∃ l st : Int, σ = [nv "one" (.int one), nv "two" (.int two), nv "size" (.int S), nv "left" (.int l), nv "step" (.int st)] ∧ z = [] ∧ m = st.toNat ∧ 0 ≤ l ∧ S ∣ L - l ∧ ((∃ k : Nat, st = S * 2 ^ k ∧ l < 2 * st) ∨ (st < S ∧ l < S))) st.toNat ⟨_, _, rfl, rfl, rfl, hl, by simp, .inl ⟨k, hk, by omega⟩⟩ ?_
    clear hb hb' hst hk k st
    rintro m _ _ ⟨l, st, rfl, rfl, rfl, hl0, hd, hc⟩
    refine ⟨_, [], by k_clsL, fun hb => ?_, fun hb => ?_⟩
    · have hb' : S ≤ st := of_decide_eq_true hb
      obtain ⟨k, hk, hlt⟩ : ∃ k : Nat, st = S * 2 ^ k ∧ l < 2 * st := by
        rcases hc with hc | hc
        · exact hc
        · omega
      have e2 : st.fdiv 2 = st / 2 := Int.fdiv_eq_ediv_of_nonneg _ (by decide)
      lcg_sub
      refine Sx.nil ⟨(st / 2).toNat, [nv "one" (.int one), nv "two" (.int two), nv "size" (.int S), nv "left" (.int (if decide (st ≤ l) then l - st else l)), nv "step" (.int (st / 2))], by omega, ?_, _, _, rfl, rfl, rfl, ?_, ?_, ?_⟩
      · rw [e2]; o_shape
      · by_cases hc2 : st ≤ l
        · rw [decide_eq_true hc2, if_pos rfl]; omega
        · rw [decide_eq_false hc2, if_neg (by decide)]; exact hl0
      · by_cases hc2 : st ≤ l
        · rw [decide_eq_true hc2, if_pos rfl]
          have : S ∣ st := ⟨_, hk⟩
          have := Int.dvd_add hd this
          rwa [show L - l + st = L - (l - st) by omega] at this
        · rw [decide_eq_false hc2, if_neg (by decide)]; exact hd
      · have hlt' : (if decide (st ≤ l) = true then l - st else l) < st := by
          by_cases hc2 : st ≤ l
          · rw [decide_eq_true hc2, if_pos rfl]; omega
          · rw [decide_eq_false hc2, if_neg (by decide)]; omega
        cases k with
        | zero => right; rw [Int.pow_zero, Int.mul_one] at hk; omega
        | succ k =>
          left
          rw [Int.pow_succ, ← Int.mul_assoc] at hk
          exact ⟨k, by omega, by omega⟩
    · have hb' : ¬ S ≤ st := of_decide_eq_false hb
      have hlS : l < S := by
        rcases hc with ⟨k, hk, hlt⟩ | hc
        · have : S * 1 ≤ S * 2 ^ k := Int.mul_le_mul_of_nonneg_left (by have := pow2_pos k; omega) (by omega)
          omega
        · exact hc.2
      lcg_sub
      refine' Sx.ret ?vr1 ⟨?vr2, rfl⟩
      case vr1 => k_places
      case vr2 =>
        refine congrArg PV.int (rest_value h hS hL hd hl0 hlS)
local macro_rules | `(tactic| k_subL) => `(tactic| with_reducible exact f_law_rest _ _ ‹_›)

theorem text_digits {e : Int} (he : 0 ≤ e) : ∃ cs : List Nat, signs (Str.ofString (toString e)) = cs.map (fun c => PV.str ⟨#[c]⟩) ∧ NumText.AllDigits cs ∧ NumText.digitsVal cs = e.toNat := by
  obtain ⟨m, rfl⟩ := Int.eq_ofNat_of_zero_le he
  refine ⟨(Nat.toDigits 10 m).map Char.toNat, ?_, ?_, KIN.val_back m⟩
  · unfold signs; rw [KIN.signs_num]
  · intro c hc
    obtain ⟨ch, hch, e⟩ := List.mem_map.mp hc
    have r := digit_range (Nat.isDigit_of_mem_toDigits (by decide) (by decide) hch)
    rw [← e]
    exact r
theorem digit_text {c : Nat} (h : 48 ≤ c ∧ c ≤ 57) : PySem.intText? ⟨#[c]⟩ = some (((c - 48 : Nat) : Int)) := by
  have := intText_digits (x := ⟨#[c]⟩) (by intro d hd; simp at hd; subst hd; exact h) (by simp) (by show 1 ≤ 4300; decide)
  rw [this]; simp [NumText.digitsVal]
theorem digitsVal_take {cs : List Nat} {i c : Nat} (h : cs[i]? = some c) : NumText.digitsVal (cs.take (i + 1)) = NumText.digitsVal (cs.take i) * 10 + (c - 48) := by
  rw [List.take_add_one, h]
  simp [NumText.digitsVal, List.foldl_append]
theorem dvd_step {m a b c d : Int} (h : m ∣ a - b) (k : b * c = d) : m ∣ (a * c).fmod m - d := by
  have := Int.dvd_add (fmod_dvd' (a * c) m) (Int.dvd_mul_of_dvd_left (c := c) h)
  rwa [show (a * c).fmod m - a * c + (a - b) * c = (a * c).fmod m - d by rw [Int.sub_mul, k]; omega] at this
theorem f_law_power (one e size : Int) (he : 0 ≤ e) (hs : size ≠ 0) (hbe : Bd 1900 e) (hbs : Bd 4000 size) (hb1 : Bd 4000 one) : Fn (XK Y) 1 578 [.int one, .int e, .int size] (.int ((one ^ e.toNat).fmod size)) := by
  refine Fn.of (names := ["one", "exponent", "size"]) (n := 0) (by rfl) (by rfl) (by rfl) (by rfl) (by rfl) (by rfl) (by rfl) (by decide) (by rfl) (by decide) (by rfl) (by rfl) (by decide) (len3 fun a0 a1 a2 => by rfl) (by rfl) (by rfl) ?_
  dsimp only [addAll]
  obtain ⟨cs, hcs, hds, hv⟩ := text_digits he
  have hlog : e.natAbs.log2 < 1920 := Nat.lt_trans (hbe.log (by decide)) (by decide)
  lcg_sub
  refine Sx.sub (σ := [nv "one" (.int one), nv "exponent" (.int e), nv "size" (.int size), nv "found" (.int ((1 : Int).fmod size))]) (by o_shape) ?_
  refine' Sx.forN (J := fun i σ z => ∃ f : Int, σ = [nv "one" (.int one), nv "exponent" (.int e), nv "size" (.int size), nv "found" (.int f)] ∧ z = [] ∧ Bd 4000 f ∧ size ∣ f - one ^ NumText.digitsVal (cs.take i)) ?vi ?vy ?v0 ?vt ?vd ?vs
  case vi =>
    o_fieldsN
  case vy => rfl
  case vs => exact fun _ _ => rfl
  case v0 => exact ⟨_, rfl, rfl, hbs.fmod hs, by simpa [NumText.digitsVal] using fmod_dvd' 1 size⟩
  case vd =>
    rintro _ _ ⟨f, rfl, rfl, hf, hd⟩
    refine' Sx.ret ?vr1 ⟨?vr2, rfl⟩
    case vr1 => k_places
    case vr2 =>
      rw [hcs, List.length_map, List.take_length, hv] at hd
      exact congrArg PV.int (fmod_congr hd)
  case vt =>
    rintro i p _ _ hp ⟨f, rfl, rfl, hf, hd⟩
    rw [hcs, List.getElem?_map, Option.map_eq_some_iff] at hp
    obtain ⟨c, hc, rfl⟩ := hp
    have hcd := hds c (List.mem_of_getElem? hc)
    have hct := digit_text hcd
    have hcl : (Str.mk #[c]).length ≤ 640 := by show 1 ≤ 640; decide
    lcg_sub
    refine Sx.sub (σ := [nv "one" (.int one), nv "exponent" (.int e), nv "size" (.int size), nv "found" (.int f), nv "sign" (.str ⟨#[c]⟩), nv "tens" (.int 1)]) (by o_shape) ?_
    refine' Sx.forR (J := fun j σ z => ∃ t : Int, σ = [nv "one" (.int one), nv "exponent" (.int e), nv "size" (.int size), nv "found" (.int f), nv "sign" (.str ⟨#[c]⟩), nv "tens" (.int t)] ∧ z = [] ∧ Bd 4000 t ∧ size ∣ t - f ^ j) ?wi ?wy ?w0 ?wt ?wd ?ws
    case wi => o_fieldsN
    case wy => rfl
    case ws => exact fun _ _ => rfl
    case w0 => exact ⟨_, rfl, rfl, Bd.lit (by decide), by simp⟩
    case wt =>
      rintro j _ _ hj ⟨t, rfl, rfl, ht, hd2⟩
      lcg_sub
      exact Sx.nil ⟨[nv "one" (.int one), nv "exponent" (.int e), nv "size" (.int size), nv "found" (.int f), nv "sign" (.str ⟨#[c]⟩), nv "tens" (.int ((t * f).fmod size))], by o_shape, _, rfl, rfl, hbs.fmod hs, dvd_step hd2 (by rw [Int.pow_succ])⟩
    case wd =>
      rintro _ _ ⟨t, rfl, rfl, ht, hd2⟩
      lcg_sub
      refine Sx.sub (σ := [nv "one" (.int one), nv "exponent" (.int e), nv "size" (.int size), nv "found" (.int t), nv "sign" (.str ⟨#[c]⟩)]) (by o_shape) ?_
      refine' Sx.forR (J := fun j σ z => ∃ u : Int, σ = [nv "one" (.int one), nv "exponent" (.int e), nv "size" (.int size), nv "found" (.int u), nv "sign" (.str ⟨#[c]⟩)] ∧ z = [] ∧ Bd 4000 u ∧ size ∣ u - t * one ^ j) ?xi ?xy ?x0 ?xt ?xd ?xs
      case xi => o_fieldsN
      case xy => rfl
      case xs => exact fun _ _ => rfl
      case x0 => exact ⟨_, rfl, rfl, ht, by simp⟩
      case xt =>
        rintro j _ _ hj ⟨u, rfl, rfl, hu, hd3⟩
        lcg_sub
        exact Sx.nil ⟨[nv "one" (.int one), nv "exponent" (.int e), nv "size" (.int size), nv "found" (.int ((u * one).fmod size)), nv "sign" (.str ⟨#[c]⟩)], by o_shape, _, rfl, rfl, hbs.fmod hs, dvd_step hd3 (by rw [Int.pow_succ, Int.mul_assoc])⟩
      case xd =>
        rintro _ _ ⟨u, rfl, rfl, hu, hd3⟩
        refine Sx.nil ⟨[nv "one" (.int one), nv "exponent" (.int e), nv "size" (.int size), nv "found" (.int u)], by o_shape, _, rfl, rfl, hu, ?_⟩
        rw [digitsVal_take hc, Int.pow_add, Int.pow_mul]
        have h1 := dvd_pow_sub hd 10
        have h2 := Int.dvd_add hd2 h1
        rw [show (10 : Int).toNat = 10 from rfl, show t - f ^ 10 + (f ^ 10 - (one ^ NumText.digitsVal (cs.take i)) ^ 10) = t - (one ^ NumText.digitsVal (cs.take i)) ^ 10 by omega] at h2
        have h3 := Int.dvd_add hd3 (dvd_mul_sub h2 (show size ∣ one ^ (((c - 48 : Nat) : Int)).toNat - one ^ (((c - 48 : Nat) : Int)).toNat by simp))
        rwa [Int.toNat_natCast, show ∀ a b d : Int, a - b + (b - d) = a - d from fun a b d => by omega] at h3
local macro_rules | `(tactic| k_subL) => `(tactic| with_reducible exact f_law_power _ _ _ ‹_› ‹_› ‹_› ‹_› ‹_›)

def BoxOk (k : Int) (z : List PV) : Prop := ∃ g seed n : Int, ∃ sm : Bool, z = [.int g, .int seed, .int n, .bool sm] ∧ 0 ≤ g ∧ 0 ≤ seed ∧ seed < 2147483629 ∧ 0 ≤ n ∧ n ≤ k
theorem BoxOk.mono {k m : Int} {z : List PV} (x : BoxOk k z) (h : k ≤ m) : BoxOk m z := let ⟨g, s, n, sm, e, a, b, c, d, f⟩ := x; ⟨g, s, n, sm, e, a, b, c, d, by omega⟩
theorem small64 {a : Int} {e m : Nat} (h1 : -(2 ^ 64) < a) (h2 : a < 2 ^ 64) (hm : 64 * e ≤ m) (hm2 : m ≤ 2 ^ 27) : (↑(Builtin.Int.intBits a) * (e : Int) : Int) ≤ 2 ^ 27 := by
  have h := intBits_le_64 h1 h2
  have h3 : Builtin.Int.intBits a * e ≤ 64 * e := Nat.mul_le_mul_right e h
  have h4 : (((Builtin.Int.intBits a * e : Nat)) : Int) ≤ ((2 ^ 27 : Nat) : Int) := Int.ofNat_le.mpr (by omega)
  rw [Int.natCast_mul] at h4
  exact h4
@[irreducible] def tk (many : Int) : List PV → Int × List PV
  | [.int g, .int seed, .int n, .bool sm] => if 0 < g then (g.fmod many, [.int (g.fdiv many), .int seed, .int n, .bool sm])
    else (((((((seed + 15485807 * (n + 1) + 71) ^ (5 : Int).toNat).fmod 2147483647 * 48271 + 7829 * (n + 1)) ^ (3 : Int).toNat).fmod 2147483587).fdiv 64).fmod many, [.int g, .int seed, .int (n + 1), .bool sm])
  | z => (0, z)
theorem take_f (Y : Cx) {z : List PV} {k : Int} (many : Int) (hz : BoxOk k z) (hk : k ≤ 1000) (h0 : 0 < many) (h1 : many ≤ 100000) : Fz (XK Y) 1 557 z [.cell, .int many] (.int (tk many z).1) (tk many z).2 ∧ 0 ≤ (tk many z).1 ∧ (tk many z).1 < many ∧ BoxOk (k + 1) (tk many z).2 := by
  obtain ⟨g, seed, n, sm, rfl, hg, hs0, hs1, hn0, hnk⟩ := hz
  have hm : many ≠ 0 := by omega
  have hmb : Bd 40 many := by unfold Bd; omega
  by_cases hgp : 0 < g
  · rw [show tk many [.int g, .int seed, .int n, .bool sm] = (g.fmod many, [.int (g.fdiv many), .int seed, .int n, .bool sm]) by unfold tk; exact if_pos hgp]
    refine ⟨?_, Int.fmod_nonneg_of_pos _ h0, Int.fmod_lt_of_pos _ h0, ⟨_, _, _, _, rfl, Int.fdiv_nonneg hg (by omega), hs0, hs1, hn0, by omega⟩⟩
    refine Fz.of (names := ["box", "many"]) (n := 0) (by rfl) (by rfl) (by rfl) (by rfl) (by rfl) (by rfl) (by rfl) (by decide) (by rfl) (by decide) (by rfl) (by rfl) (by decide) (len2 fun a0 a1 => by rfl) (by rfl) (by rfl) (fun ca => ?_)
    dsimp only [addAll]
    lcg_sub
    lcg_sub
    lcg_sub
    lcg_sub
  · rw [show tk many [.int g, .int seed, .int n, .bool sm] = (((((((seed + 15485807 * (n + 1) + 71) ^ (5 : Int).toNat).fmod 2147483647 * 48271 + 7829 * (n + 1)) ^ (3 : Int).toNat).fmod 2147483587).fdiv 64).fmod many, [.int g, .int seed, .int (n + 1), .bool sm]) by unfold tk; exact if_neg hgp]
    refine ⟨?_, Int.fmod_nonneg_of_pos _ h0, Int.fmod_lt_of_pos _ h0, ⟨_, _, _, _, rfl, hg, hs0, hs1, by omega, by omega⟩⟩
    refine Fz.of (names := ["box", "many"]) (n := 0) (by rfl) (by rfl) (by rfl) (by rfl) (by rfl) (by rfl) (by rfl) (by decide) (by rfl) (by decide) (by rfl) (by rfl) (by decide) (len2 fun a0 a1 => by rfl) (by rfl) (by rfl) (fun ca => ?_)
    dsimp only [addAll]
    lcg_sub
    lcg_sub
    have hp1 : (↑(Builtin.Int.intBits (seed + 15485807 * (n + 1) + 71)) * 5 : Int) ≤ 2 ^ 27 := small64 (e := 5) (m := 320) (by omega) (by omega) (by decide) (by decide)
    lcg_sub
    have hx0 := Int.fmod_nonneg_of_pos ((seed + 15485807 * (n + 1) + 71) ^ (5 : Int).toNat) (show (0 : Int) < 2147483647 by decide)
    have hx1 := Int.fmod_lt_of_pos ((seed + 15485807 * (n + 1) + 71) ^ (5 : Int).toNat) (show (0 : Int) < 2147483647 by decide)
    have hp2 : (↑(Builtin.Int.intBits (((seed + 15485807 * (n + 1) + 71) ^ (5 : Int).toNat).fmod 2147483647 * 48271 + 7829 * (n + 1))) * 3 : Int) ≤ 2 ^ 27 := small64 (e := 3) (m := 192) (by omega) (by omega) (by decide) (by decide)
    lcg_sub
local macro_rules | `(tactic| k_subL) => `(tactic| with_reducible assumption)
theorem take_ex (Y : Cx) {z : List PV} {k : Int} (many : Int) (hz : BoxOk k z) (hk : k ≤ 1000) (h0 : 0 < many) (h1 : many ≤ 100000) : ∃ r z', Fz (XK Y) 1 557 z [.cell, .int many] (.int r) z' ∧ 0 ≤ r ∧ r < many ∧ BoxOk (k + 1) z' := ⟨_, _, take_f Y many hz hk h0 h1⟩
def am : Nat → List PV → Int × List PV
  | 0, z => (0, z)
  | i + 1, z => ((am i z).1 * 10 ^ (5 : Int).toNat + (tk (10 ^ (5 : Int).toNat) (am i z).2).1, (tk (10 ^ (5 : Int).toNat) (am i z).2).2)
theorem am_ok (Y : Cx) {z : List PV} {k : Int} (hz : BoxOk k z) (hk : k ≤ 900) : ∀ i : Nat, i ≤ 6 → 0 ≤ (am i z).1 ∧ (am i z).1 < 100000 ^ i ∧ BoxOk (k + i) (am i z).2
  | 0, _ => ⟨by simp [am], by simp [am], by simpa [am] using hz⟩
  | i + 1, hi => by
    obtain ⟨a1, a2, a3⟩ := am_ok Y hz hk i (by omega)
    obtain ⟨_, b1, b2, b3⟩ := take_f Y (10 ^ (5 : Int).toNat) a3 (by omega) (by decide) (by decide)
    unfold am
    have e5 : (10 : Int) ^ (5 : Int).toNat = 100000 := by decide
    generalize tk (10 ^ (5 : Int).toNat) (am i z).2 = q at *
    rw [e5] at b2 ⊢
    refine ⟨by omega, ?_, b3.mono (by omega)⟩
    show (am i z).1 * 100000 + q.1 < _
    rw [Int.pow_succ]; omega
theorem pow5_le : ∀ i : Nat, i ≤ 6 → (100000 : Int) ^ i ≤ 100000 ^ 6 := by decide
theorem drawn_ex (Y : Cx) {z : List PV} {k : Int} (hz : BoxOk k z) (hk : k ≤ 850) : ∃ v z', Fz (XK Y) 2 564 z [.cell] (.int v) z' ∧ Bd 128 v ∧ BoxOk (k + 12) z' := by
  obtain ⟨g, seed, n, sm, hze, hrest⟩ := id hz
  cases sm with
  | true =>
    obtain ⟨s, z2, f2, s0, s1, hz2⟩ := take_ex Y 2 hz (by omega) (by decide) (by decide)
    obtain ⟨r, z3, f3, r0, r1, hz3⟩ := take_ex Y 40 hz2 (by omega) (by decide) (by decide)
    have h1 : Bd 3 (1 - 2 * s) := by unfold Bd; omega
    have h2 : Bd 6 r := by unfold Bd; omega
    refine ⟨(1 - 2 * s) * r, z3, ?_, (h1.mul h2).mono (by decide), hz3.mono (by omega)⟩
    subst hze
    refine Fz.of (names := ["box"]) (n := 1) (by rfl) (by rfl) (by rfl) (by rfl) (by rfl) (by rfl) (by rfl) (by decide) (by rfl) (by decide) (by rfl) (by rfl) (by decide) (len1 fun a0 => by rfl) (by rfl) (by rfl) (fun ca => ?_)
    dsimp only [addAll]
    lcg_sub
    lcg_sub
    lcg_sub
  | false =>
    obtain ⟨w, z1, f1, w0, w1, hz1⟩ := take_ex Y 4 hz (by omega) (by decide) (by decide)
    obtain ⟨s, z2, f2, s0, s1, hz2⟩ := take_ex Y 2 hz1 (by omega) (by decide) (by decide)
    have hs : Bd 3 (1 - 2 * s) := by unfold Bd; omega
    by_cases hw : w < 2
    · obtain ⟨r, z3, f3, r0, r1, hz3⟩ := take_ex Y 40 hz2 (by omega) (by decide) (by decide)
      have h2 : Bd 6 r := by unfold Bd; omega
      refine ⟨(1 - 2 * s) * r, z3, ?_, (hs.mul h2).mono (by decide), hz3.mono (by omega)⟩
      subst hze
      refine Fz.of (names := ["box"]) (n := 1) (by rfl) (by rfl) (by rfl) (by rfl) (by rfl) (by rfl) (by rfl) (by decide) (by rfl) (by decide) (by rfl) (by rfl) (by decide) (len1 fun a0 => by rfl) (by rfl) (by rfl) (fun ca => ?_)
      dsimp only [addAll]
      lcg_sub
      lcg_sub
      lcg_sub
    by_cases hw2 : w = 2
    · obtain ⟨r, z3, f3, r0, r1, hz3⟩ := take_ex Y 70 hz2 (by omega) (by decide) (by decide)
      obtain ⟨t, z4, f4, t0, t1, hz4⟩ := take_ex Y 3 hz3 (by omega) (by decide) (by decide)
      have hb2 : Bd 70 ((2 : Int) ^ r.toNat) := by
        unfold Bd
        rw [Int.natAbs_pow]
        exact Nat.pow_lt_pow_right (by decide) (by omega)
      have hp : (↑(Builtin.Int.intBits 2) * r : Int) ≤ 2 ^ 27 := by rw [show Builtin.Int.intBits 2 = 2 by decide]; omega
      refine ⟨(1 - 2 * s) * 2 ^ r.toNat + t - 1, z4, ?_, ?_, hz4.mono (by omega)⟩
      · subst hze
        refine Fz.of (names := ["box"]) (n := 1) (by rfl) (by rfl) (by rfl) (by rfl) (by rfl) (by rfl) (by rfl) (by decide) (by rfl) (by decide) (by rfl) (by rfl) (by decide) (len1 fun a0 => by rfl) (by rfl) (by rfl) (fun ca => ?_)
        dsimp only [addAll]
        lcg_sub
        lcg_sub
        lcg_sub
        lcg_sub
      · have h3 : Bd 73 t := by unfold Bd; omega
        exact (((hs.mul hb2).add h3).sub (Bd.mono (k := 1) (by unfold Bd; decide) (by decide))).mono (by decide)
    · obtain ⟨r, z3, f3, r0, r1, hz3⟩ := take_ex Y 6 hz2 (by omega) (by decide) (by decide)
      obtain ⟨a0, a1, a2⟩ := am_ok Y hz3 (by omega) (1 + r).toNat (by omega)
      have hab : Bd 100 (am (1 + r).toNat z3).1 := by
        unfold Bd
        have : (100000 : Int) ^ (1 + r).toNat ≤ 100000 ^ 6 := pow5_le _ (by omega)
        have e : (100000 : Int) ^ 6 = 1000000000000000000000000000000 := by decide
        omega
      refine ⟨(1 - 2 * s) * (am (1 + r).toNat z3).1, (am (1 + r).toNat z3).2, ?_, (hs.mul hab).mono (by decide), a2.mono (by omega)⟩
      subst hze
      refine Fz.of (names := ["box"]) (n := 1) (by rfl) (by rfl) (by rfl) (by rfl) (by rfl) (by rfl) (by rfl) (by decide) (by rfl) (by decide) (by rfl) (by rfl) (by decide) (len1 fun a0 => by rfl) (by rfl) (by rfl) (fun ca => ?_)
      dsimp only [addAll]
      lcg_sub
      lcg_sub
      lcg_sub
      lcg_sub
      refine Sx.sub (σ := [nv "sign" (.int (1 - 2 * s)), nv "box" .cell, nv "amount" (.int 0)]) (by o_shape) ?_
      refine' Sx.forR (J := fun i σ z => σ = [nv "sign" (.int (1 - 2 * s)), nv "box" .cell, nv "amount" (.int (am i z3).1)] ∧ z = (am i z3).2) ?wi ?wy ?w0 ?wt ?wd ?ws
      case wi => o_fieldsN
      case wy => rfl
      case ws => exact fun _ _ => rfl
      case w0 => exact ⟨rfl, rfl⟩
      case wt =>
        rintro i _ _ hi ⟨rfl, rfl⟩
        obtain ⟨b0, b1, b2⟩ := am_ok Y hz3 (by omega) i (by omega)
        obtain ⟨f4, _, _, _⟩ := take_f Y (10 ^ (5 : Int).toNat) b2 (by omega) (by decide) (by decide)
        have hb1 : Bd 200 (am i z3).1 := by
          unfold Bd
          have : (100000 : Int) ^ i ≤ 100000 ^ 6 := pow5_le _ (by omega)
          have e : (100000 : Int) ^ 6 = 1000000000000000000000000000000 := by decide
          omega
        have hm1 : IntMulOk (am i z3).1 (10 ^ (5 : Int).toNat) := IntMulOk.of_right (by decide)
        lcg_sub
        exact Sx.nil ⟨[nv "sign" (.int (1 - 2 * s)), nv "box" .cell, nv "amount" (.int (am (i + 1) z3).1)], by o_shape, rfl, rfl⟩
      case wd =>
        rintro _ _ ⟨rfl, rfl⟩
        lcg_sub
local macro_rules | `(tactic| k_subL) => `(tactic| with_reducible assumption)

theorem up_value {a b : Int} (hb : b ≠ 0) : -(-a).fdiv b = a.fdiv b + (if (!decide (a.fmod b = 0)) = true then 1 else 0) := by
  have e1 := fdiv_fmod a b
  have e2 := fdiv_fmod (-a) b
  have r1 := InR.fmod (a := a) hb
  have r2 := InR.fmod (a := -a) hb
  have hd : b ∣ a.fmod b + (-a).fmod b := ⟨-(a.fdiv b) - (-a).fdiv b, by rw [Int.mul_sub, Int.mul_neg]; omega⟩
  have hz : b * (a.fdiv b + (-a).fdiv b) = -(a.fmod b + (-a).fmod b) := by rw [Int.mul_add]; omega
  generalize a.fdiv b = q at *
  generalize (-a).fdiv b = p at *
  generalize a.fmod b = r at *
  generalize (-a).fmod b = s at *
  simp only [Bool.not_eq_true', decide_eq_false_iff_not]
  by_cases hr : r = 0
  · rw [if_neg (by omega)]
    subst hr
    have hs : s = 0 := InR.uniq r2 (by unfold InR at *; omega) (by simpa using hd)
    rw [hs] at hz
    have : q + p = 0 := by
      rcases Int.mul_eq_zero.mp (show b * (q + p) = 0 by omega) with h | h
      · exact absurd h hb
      · exact h
    omega
  · rw [if_pos hr]
    have hs : s = b - r := InR.uniq r2 (by unfold InR at *; omega) (by
      have := Int.dvd_sub hd (Int.dvd_refl b)
      rwa [show r + s - b = s - (b - r) by omega] at this)
    have : b * (q + p) = b * (-1) := by omega
    have := Int.eq_of_mul_eq_mul_left hb this
    omega
theorem rem_facts {one two : Int} (h : two ≠ 0) (hb : Bd 128 two) : ∃ L : Int, (if decide (one < 0) then -((ab one).fmod (ab two)) else (ab one).fmod (ab two)) = L ∧ ab L = (ab one).fmod (ab two) ∧ ¬ L * one < 0 ∧ Bd 128 L := by
  refine ⟨_, rfl, ?_, ?_, ?_⟩
  · have h0 : 0 ≤ (ab one).fmod (ab two) := Int.fmod_nonneg (ab_nn _) (ab_nn _)
    simp only [decide_eq_true_eq]
    generalize (ab one).fmod (ab two) = r at *
    split
    · unfold ab; split <;> omega
    · unfold ab; split <;> omega
  · have h0 : 0 ≤ (ab one).fmod (ab two) := Int.fmod_nonneg (ab_nn _) (ab_nn _)
    simp only [decide_eq_true_eq]
    generalize (ab one).fmod (ab two) = r at *
    split
    · have := Int.mul_nonneg h0 (show 0 ≤ -one by omega)
      rw [Int.neg_mul]; rw [Int.mul_neg] at this; omega
    · have := Int.mul_nonneg h0 (show 0 ≤ one by omega)
      omega
  · have := hb.abs.fmod (a := ab one) (ab_ne h)
    split
    · exact this.neg
    · exact this
theorem ten_facts (one S : Int) (hS : S = 10 ∨ S = 1000) :
    (one.fdiv S * S = one - one.fmod S) ∧ (-(-one).fdiv S * S = if one.fdiv S * S = one then one.fdiv S * S else one.fdiv S * S + S) ∧
    ((if one < 0 then -((ab one).fdiv S * S) else (ab one).fdiv S * S) = if 0 ≤ one then one.fdiv S * S else -(-one).fdiv S * S) ∧
    ((if one < 0 then -((ab one + S.fdiv 2).fdiv S * S) else (ab one + S.fdiv 2).fdiv S * S) = if 2 * (one - one.fdiv S * S) < S ∨ (2 * (one - one.fdiv S * S) = S ∧ one < 0) then one.fdiv S * S else -(-one).fdiv S * S) := by
  rcases hS with rfl | rfl
  · simp only [Int.fdiv_eq_ediv_of_nonneg _ (show (0 : Int) ≤ 10 by decide), Int.fdiv_eq_ediv_of_nonneg _ (show (0 : Int) ≤ 2 by decide), Int.fmod_eq_emod_of_nonneg _ (show (0 : Int) ≤ 10 by decide)]
    unfold ab
    refine ⟨by omega, ?_, ?_, ?_⟩
    · split <;> omega
    · by_cases h : one < 0
      · simp only [if_pos h, if_neg (show ¬ 0 ≤ one by omega)]; omega
      · simp only [if_neg h, if_pos (show 0 ≤ one by omega)]
    · by_cases h : one < 0
      · simp only [if_pos h]; split <;> omega
      · simp only [if_neg h]; split <;> omega
  · simp only [Int.fdiv_eq_ediv_of_nonneg _ (show (0 : Int) ≤ 1000 by decide), Int.fdiv_eq_ediv_of_nonneg _ (show (0 : Int) ≤ 2 by decide), Int.fmod_eq_emod_of_nonneg _ (show (0 : Int) ≤ 1000 by decide)]
    unfold ab
    refine ⟨by omega, ?_, ?_, ?_⟩
    · split <;> omega
    · by_cases h : one < 0
      · simp only [if_pos h, if_neg (show ¬ 0 ≤ one by omega)]; omega
      · simp only [if_neg h, if_pos (show 0 ≤ one by omega)]
    · by_cases h : one < 0
      · simp only [if_pos h]; split <;> omega
      · simp only [if_neg h]; split <;> omega
theorem f_parts_right (one two : Int) (h : two ≠ 0) (hb1 : Bd 128 one) (hb2 : Bd 128 two) : Fn (XK Y) 5 590 [.int one, .int two] (.bool true) := by
  refine Fn.of (names := ["one", "two"]) (n := 4) (by rfl) (by rfl) (by rfl) (by rfl) (by rfl) (by rfl) (by rfl) (by decide) (by rfl) (by decide) (by rfl) (by rfl) (by decide) (len2 fun a0 a1 => by rfl) (by rfl) (by rfl) ?_
  dsimp only [addAll]
  have hp : Builtin.divisionGoesByPylong one two = false := hb2.noPy rfl
  have hp2 : Builtin.divisionGoesByPylong (-one) two = false := hb2.noPy rfl
  have ha := ab_ne h
  have hbig : Bd 8000 one := hb1.mono (by decide)
  lcg_sub
  have e1 : one.fdiv two * two + one.fmod two = one := by rw [Int.mul_comm]; exact (fdiv_fmod one two).symm
  have e2 := InR.fmod (a := one) h
  wrow_raised
  · unfold InR at e2; simp only [e1, decide_true, Bool.not_true, Bool.false_or, Bool.not_eq_false', Bool.or_eq_true, Bool.and_eq_true, decide_eq_true_eq]; exact e2
  lcg_sub
  obtain ⟨L, hL, l1, l2, l3⟩ := rem_facts (one := one) h hb2
  rw [hL]
  wrow_raised
  · rw [up_value h]; simp only [l1, l2, decide_true, decide_false, Bool.not_true, Bool.false_or]
  refine Sx.sub (σ := [nv "one" (.int one)]) (by o_shape) ?_
  refine' Sx.forN (J := fun i σ z => σ = [nv "one" (.int one)] ∧ z = []) ?vi ?vy ?v0 ?vt ?vd ?vs
  case vi => o_fieldsN
  case vy => rfl
  case vs => exact fun _ _ => rfl
  case v0 => exact ⟨rfl, rfl⟩
  case vd =>
    rintro _ _ ⟨rfl, rfl⟩
    lcg_sub
  case vt =>
    rintro i p _ _ hp ⟨rfl, rfl⟩
    have ht : ∃ t : Int, p = .int t ∧ (t = 1 ∨ t = 3) := by
      match i, hp with
      | 0, hp => exact ⟨1, (Option.some.inj hp).symm, .inl rfl⟩
      | 1, hp => exact ⟨3, (Option.some.inj hp).symm, .inr rfl⟩
      | i + 2, hp => cases hp
    obtain ⟨t, rfl, ht⟩ := ht
    have eS : ∃ S : Int, (10 : Int) ^ t.toNat = S ∧ (10 : Int) ^ (-(0 - t)).toNat = S ∧ (S = 10 ∨ S = 1000) := by
      rcases ht with rfl | rfl
      · exact ⟨10, by decide, by decide, .inl rfl⟩
      · exact ⟨1000, by decide, by decide, .inr rfl⟩
    obtain ⟨S, eS1, eS2, hS⟩ := eS
    have t0 : 0 ≤ t := by omega
    have t1 : (↑(Builtin.Int.intBits 10) * t : Int) ≤ 2 ^ 27 := by rw [show Builtin.Int.intBits 10 = 4 by decide]; omega
    have t2 : (0 : Int) - t < 0 := by omega
    have t3 : -100 ≤ (0 : Int) - t := by omega
    obtain ⟨q1, q2, q3, q4⟩ := ten_facts one S hS
    have hS0 : S ≠ 0 := by omega
    lcg_sub
    lcg_sub
    lcg_sub
    rw [eS1, eS2]
    wrow_raised
    · simp only [decide_eq_true_eq]
      rw [decide_eq_true q1, decide_eq_true q2, decide_eq_true q3]; rfl
    wrow_raised
    · simp only [decide_eq_true_eq, Bool.or_eq_true, Bool.and_eq_true]
      rw [decide_eq_true q4]; rfl
    exact Sx.nil ⟨_, by o_shape, rfl, rfl⟩
local macro_rules | `(tactic| k_subL) => `(tactic| with_reducible exact f_parts_right _ _ ‹_› ‹_› ‹_›)

theorem ext_step {r0 r1 B : Nat} {u0 u1 : Int} (hP : u1.natAbs * r0 + u0.natAbs * r1 ≤ B) : (u0 - ((r0 / r1 : Nat) : Int) * u1).natAbs * r1 + u1.natAbs * (r0 % r1) ≤ B := by
  have h1 : (u0 - ((r0 / r1 : Nat) : Int) * u1).natAbs ≤ u0.natAbs + (r0 / r1) * u1.natAbs := by
    refine Nat.le_trans (Int.natAbs_sub_le ..) ?_
    rw [Int.natAbs_mul, Int.natAbs_natCast]; exact Nat.le_refl _
  have h2 := Nat.mul_le_mul_right r1 h1
  have h3 := Nat.div_add_mod r0 r1
  have h4 : u1.natAbs * r0 = u1.natAbs * (r1 * (r0 / r1)) + u1.natAbs * (r0 % r1) := by rw [← Nat.mul_add, h3]
  have h5 : (r0 / r1) * u1.natAbs * r1 = u1.natAbs * (r1 * (r0 / r1)) := by rw [Nat.mul_comm (r0 / r1), Nat.mul_assoc, Nat.mul_comm (r0 / r1)]
  rw [Nat.add_mul] at h2
  omega
theorem ext_bd {r0 B x : Nat} {u1 : Int} (hP : u1.natAbs * r0 + x ≤ B) (h0 : 0 < r0) (hB : B < 2 ^ 128) : Bd 128 u1 := by
  unfold Bd
  have := Nat.le_mul_of_pos_right u1.natAbs h0
  omega
theorem quot_nat {r0 r1 : Nat} (h : 0 < r1) : (((r0 : Nat) : Int) - ((r0 : Nat) : Int).fmod ((r1 : Nat) : Int)).fdiv ((r1 : Nat) : Int) = ((r0 / r1 : Nat) : Int) := by
  have h1 : ((r0 : Nat) : Int).fmod ((r1 : Nat) : Int) = ((r0 % r1 : Nat) : Int) := by rw [Int.fmod_eq_emod_of_nonneg _ (by omega)]; simp
  have h2 := Nat.div_add_mod r0 r1
  rw [h1, show (((r0 : Nat) : Int) - ((r0 % r1 : Nat) : Int)) = ((r1 * (r0 / r1) : Nat) : Int) by omega, Int.natCast_mul]
  exact Int.mul_fdiv_cancel_left _ (by omega)
theorem fmod_nat {r0 r1 : Nat} : ((r0 : Nat) : Int).fmod ((r1 : Nat) : Int) = ((r0 % r1 : Nat) : Int) := by rw [Int.fmod_eq_emod_of_nonneg _ (by omega)]; simp
theorem f_common_right (one two : Int) (hb1 : Bd 128 one) (hb2 : Bd 128 two) : Fn (XK Y) 4 597 [.int one, .int two] (.bool true) := by
  refine Fn.of (names := ["one", "two"]) (n := 3) (by rfl) (by rfl) (by rfl) (by rfl) (by rfl) (by rfl) (by rfl) (by decide) (by rfl) (by decide) (by rfl) (by rfl) (by decide) (len2 fun a0 a1 => by rfl) (by rfl) (by rfl) ?_
  dsimp only [addAll]
  have hb1' : Bd 4000 one := hb1.mono (by decide)
  have hb2' : Bd 4000 two := hb2.mono (by decide)
  lcg_sub
  by_cases h0 : one = 0 ∨ two = 0
  · lcg_sub
    refine' Sx.ret ?vr1 ⟨?vr2, rfl⟩
    case vr1 => k_places
    case vr2 =>
      rw [if_pos h0, mx_eq, ab_eq, ab_eq]
      have : ((Int.gcd one two : Nat) : Int) = max (one.natAbs : Int) two.natAbs := by
        rcases h0 with rfl | rfl
        · rw [Int.gcd_zero_left]; omega
        · rw [Int.gcd_zero_right]; omega
      exact congrArg PV.bool (by rw [decide_eq_true this]; rfl)
  · lcg_sub
    have n1 : one ≠ 0 := fun e => h0 (.inl e)
    have n2 : two ≠ 0 := fun e => h0 (.inr e)
    lcg_sub
    rw [ab_eq, ab_eq]
    refine Sx.sub (σ := [nv "one" (.int one), nv "two" (.int two), nv "answer" (.int (Int.gcd one two : Nat)), nv "row" (.tup [.int ((one.natAbs : Nat) : Int), .int 1, .int 0]), nv "next_row" (.tup [.int ((two.natAbs : Nat) : Int), .int 0, .int 1])]) (by o_shape) ?_
    refine Sx.while (fun m σ z => ∃ (r0 r1 : Nat) (u0 v0 u1 v1 : Int), σ = [nv "one" (.int one), nv "two" (.int two), nv "answer" (.int (Int.gcd one two : Nat)), nv "row" (.tup [.int (r0 : Int), .int u0, .int v0]), nv "next_row" (.tup [.int (r1 : Int), .int u1, .int v1])] ∧ z = [] ∧ m = r1 ∧
      0 < r0 ∧ u0 * (one.natAbs : Int) + v0 * (two.natAbs : Int) = r0 ∧ u1 * (one.natAbs : Int) + v1 * (two.natAbs : Int) = r1 ∧ Nat.gcd r0 r1 = Int.gcd one two ∧ u1.natAbs * r0 + u0.natAbs * r1 ≤ two.natAbs ∧ v1.natAbs * r0 + v0.natAbs * r1 ≤ one.natAbs ∧ Bd 128 u0 ∧ Bd 128 v0 ∧ r0 < 2 ^ 128 ∧ r1 < 2 ^ 128) two.natAbs
      ⟨one.natAbs, two.natAbs, 1, 0, 0, 1, rfl, rfl, rfl, by omega, by omega, by omega, rfl, by simp, by simp, Bd.lit (by decide), Bd.lit (by decide), hb1, hb2⟩ ?_
    rintro m _ _ ⟨r0, r1, u0, v0, u1, v1, rfl, rfl, rfl, hr0, he0, he1, hg, hP, hQ, hu0, hv0, hl0, hl1⟩
    refine ⟨_, [], by k_clsL, fun hb => ?_, fun hb => ?_⟩
    · have hm0 : 0 < m := by
        rcases Nat.eq_zero_or_pos m with e | e
        · subst e; cases hb
        · exact e
      have hm1 : (m : Int) ≠ 0 := by omega
      have hmb : Bd 128 (m : Int) := by unfold Bd; omega
      lcg_sub
      have hnp : Builtin.divisionGoesByPylong ((r0 : Int) - (r0 : Int).fmod (m : Int)) (m : Int) = false := hmb.noPy rfl
      lcg_sub
      rw [quot_nat hm0, fmod_nat]
      have hq : Bd 128 (((r0 / m : Nat)) : Int) := by
        unfold Bd
        rw [Int.natAbs_natCast]
        exact Nat.lt_of_le_of_lt (Nat.div_le_self r0 m) hl0
      have hu1 : Bd 128 u1 := ext_bd hP hr0 hb2
      have hv1 : Bd 128 v1 := ext_bd hQ hr0 hb1
      lcg_sub
      have hdm := Nat.div_add_mod r0 m
      have hdm' : (r0 : Int) = (m : Int) * ((r0 / m : Nat) : Int) + ((r0 % m : Nat) : Int) := by rw [← Int.natCast_mul]; omega
      have hml := Nat.mod_lt r0 hm0
      refine Sx.nil ⟨r0 % m, _, hml, (by o_shape : SubSig [nv "one" (.int one), nv "two" (.int two), nv "answer" (.int (Int.gcd one two : Nat)), nv "row" (.tup [.int (m : Int), .int u1, .int v1]), nv "next_row" (.tup [.int ((r0 % m : Nat) : Int), .int (u0 - ((r0 / m : Nat) : Int) * u1), .int (v0 - ((r0 / m : Nat) : Int) * v1)])] _),
        m, r0 % m, u1, v1, _, _, rfl, rfl, rfl, hm0, he1, ?_, ?_, ext_step hP, ext_step hQ, hu1, hv1, hl1, by omega⟩
      · rw [Int.sub_mul, Int.sub_mul, Int.mul_assoc, Int.mul_assoc]
        have := congrArg (fun x => ((r0 / m : Nat) : Int) * x) he1
        simp only [Int.mul_add] at this
        rw [Int.mul_comm (m : Int)] at hdm'
        omega
      · rw [← hg, Nat.gcd_comm r0 m, Nat.gcd_rec m r0, Nat.gcd_comm]
    · have hm0 : m = 0 := by
        rcases Nat.eq_zero_or_pos m with e | e
        · exact e
        · rw [decide_eq_false (show ¬ (m : Int) = 0 by omega)] at hb; cases hb
      subst hm0
      rw [Nat.gcd_zero_right] at hg
      have hG : 0 < Int.gcd one two := by omega
      have hG1 : ((Int.gcd one two : Nat) : Int) ≠ 0 := by omega
      have hGb : Bd 128 ((Int.gcd one two : Nat) : Int) := by unfold Bd; rw [← hg]; omega
      have d1 : ((Int.gcd one two : Nat) : Int) ∣ one := Int.gcd_dvd_left ..
      have d2 : ((Int.gcd one two : Nat) : Int) ∣ two := Int.gcd_dvd_right ..
      wrow_raised
      · have e1 : one.fmod ((Int.gcd one two : Nat) : Int) = 0 := fmod_eq (by unfold InR; omega) (by simpa using d1)
        have e2 : two.fmod ((Int.gcd one two : Nat) : Int) = 0 := fmod_eq (by unfold InR; omega) (by simpa using d2)
        rw [e1, e2, ab_eq, ab_eq, decide_eq_true (show u0 * (one.natAbs : Int) + v0 * (two.natAbs : Int) = ((Int.gcd one two : Nat) : Int) by rw [he0, hg]), decide_eq_false (show ¬ ((Int.gcd one two : Nat) : Int) < 1 by omega)]
        rfl
      have hab : Bd 256 (ab (one * two)) := (hb1.mul hb2).abs
      have hLM : Bd 256 (if one = 0 ∨ two = 0 then 0 else (ab (one * two)).fdiv (Int.gcd one two : Nat)) := by rw [if_neg h0]; exact hab.fdiv
      refine' Sx.ret ?vr1 ⟨?vr2, rfl⟩
      case vr1 => k_places
      case vr2 =>
        rw [if_neg h0]
        have d3 : ((Int.gcd one two : Nat) : Int) ∣ ab (one * two) := by rw [ab_eq]; exact Int.dvd_natAbs.mpr (Int.dvd_mul_of_dvd_left d1)
        exact congrArg PV.bool (decide_eq_true (Int.fdiv_mul_cancel d3))
local macro_rules | `(tactic| k_subL) => `(tactic| with_reducible exact f_common_right _ _ ‹_› ‹_›)

theorem Bd.powS {a : Int} {k : Nat} (h : Bd k a) : ∀ i : Nat, Bd (k * i + 1) (a ^ i)
  | 0 => by simp [Bd]
  | i + 1 => by
    rw [Int.pow_succ]
    have := (Bd.powS h i).mul h
    rwa [show k * i + 1 + k = k * (i + 1) + 1 by rw [Nat.mul_add]; omega] at this
theorem pow_add_mod {a s : Int} {i j : Nat} : ((a ^ i).fmod s * (a ^ j).fmod s).fmod s = (a ^ (i + j)).fmod s := by
  rw [Int.pow_add]
  exact fmod_congr (dvd_mul_sub (fmod_dvd' _ _) (fmod_dvd' _ _))
theorem pow_mul_mod {a b s : Int} {i : Nat} : ((a ^ i).fmod s * (b ^ i).fmod s).fmod s = ((a * b) ^ i).fmod s := by
  rw [Int.mul_pow]
  exact fmod_congr (dvd_mul_sub (fmod_dvd' _ _) (fmod_dvd' _ _))
theorem f_powers_right (Y : Cx) {z : List PV} {k : Int} (hz : BoxOk k z) (hk : k ≤ 700) : ∃ z', Fz (XK Y) 6 583 z [.cell] (.bool true) z' := by
  obtain ⟨one, z1, f1, b1, hz1⟩ := drawn_ex Y hz (by omega)
  obtain ⟨size, z2, f2, b2, hz2⟩ := drawn_ex Y hz1 (by omega)
  obtain ⟨d3, z3, f3, b3, hz3⟩ := drawn_ex Y hz2 (by omega)
  obtain ⟨d4, z4, f4, b4, hz4⟩ := drawn_ex Y hz3 (by omega)
  obtain ⟨other, z5, f5, b5, hz5⟩ := drawn_ex Y hz4 (by omega)
  obtain ⟨few, z6, f6, few0, few1, hz6⟩ := take_ex Y 8 hz5 (by omega) (by decide) (by decide)
  refine ⟨z6, ?_⟩
  refine Fz.of (names := ["box"]) (n := 5) (by rfl) (by rfl) (by rfl) (by rfl) (by rfl) (by rfl) (by rfl) (by decide) (by rfl) (by decide) (by rfl) (by rfl) (by decide) (len1 fun a0 => by rfl) (by rfl) (by rfl) (fun ca => ?_)
  dsimp only [addAll]
  lcg_sub
  lcg_sub
  have hS : ∃ S : Int, (if decide (size = 0) = true then (7 : Int) else size) = S ∧ S ≠ 0 ∧ Bd 128 S := by
    refine ⟨_, rfl, ?_, ?_⟩
    · simp only [decide_eq_true_eq]; split <;> omega
    · split
      · exact Bd.lit (by decide)
      · exact b2
  obtain ⟨S, eS, hS, hSb⟩ := hS
  rw [eS]
  lcg_sub
  have hF : ∃ F : Int, ab d3 = F ∧ 0 ≤ F ∧ Bd 128 F := ⟨_, rfl, ab_nn _, b3.abs⟩
  have hG : ∃ G : Int, (ab d4).fmod 1000 = G ∧ 0 ≤ G ∧ Bd 128 G := ⟨_, rfl, Int.fmod_nonneg_of_pos _ (by decide), Bd.mono (k := 10) (by have := Int.fmod_nonneg_of_pos (ab d4) (show (0 : Int) < 1000 by decide); have := Int.fmod_lt_of_pos (ab d4) (show (0 : Int) < 1000 by decide); unfold Bd; omega) (by decide)⟩
  obtain ⟨F, eF, hF, hFb⟩ := hF
  obtain ⟨G, eG, hG, hGb⟩ := hG
  rw [eF, eG]
  refine Sx.sub (σ := [nv "box" .cell, nv "one" (.int one), nv "size" (.int S), nv "first" (.int F), nv "second" (.int G)]) (by o_shape) ?_
  have hFG : Bd 129 (F + G) := hFb.add hGb
  have hSb4 : Bd 4000 S := hSb.mono (by decide)
  have honeb : Bd 4000 one := b1.mono (by decide)
  have hF2 : Bd 2000 F := hFb.mono (by decide)
  have hF3 : Bd 1900 F := hFb.mono (by decide)
  have hG2 : Bd 2000 G := hGb.mono (by decide)
  have hG3 : Bd 1900 G := hGb.mono (by decide)
  have hFG2 : Bd 2000 (F + G) := hFG.mono (by decide)
  have hFG0 : 0 ≤ F + G := by omega
  refine' Sx.assignComp (σc := [nv "one" (.int one), nv "size" (.int S)]) (fun _ => true) (fun q => match q with | .int e => .int ((one ^ e.toNat).fmod S) | _ => .none) ?c1 ?c2 ?c3 ?c4 ?c5 ?c6 ?c7 ?c8 ?c9 ?c10 ?c11 ?c12 ?c13
  case c1 => exact Form.name
  case c2 => o_fieldsN
  case c3 => rfl
  case c4 => rfl
  case c5 => exact CapOk.cons rfl (.int _) rfl (CapOk.cons rfl (.int _) rfl CapOk.nil)
  case c6 =>
    intro q hq
    have hq' : ∃ e : Int, q = .int e ∧ 0 ≤ e ∧ Bd 2000 e := by
      simp only [List.mem_cons, List.not_mem_nil, or_false] at hq
      rcases hq with rfl | rfl | rfl
      · exact ⟨_, rfl, hF, hF2⟩
      · exact ⟨_, rfl, hG, hG2⟩
      · exact ⟨_, rfl, hFG0, hFG2⟩
    obtain ⟨e, rfl, he, heb⟩ := hq'
    exact ⟨_, AzP.name rfl, Ifs.nil, fun _ => by k_places⟩
  case c7 =>
    intro q hq
    simp only [List.mem_cons, List.not_mem_nil, or_false] at hq
    rcases hq with rfl | rfl | rfl <;> exact .int _
  case c8 =>
    intro q hq _
    simp only [List.mem_cons, List.not_mem_nil, or_false] at hq
    rcases hq with rfl | rfl | rfl <;> exact .int _
  case c9 => exact Nat.le_of_ble_eq_true rfl
  case c10 => exact fun _ _ => rfl
  case c11 => rfl
  case c12 => intro env he; unfold swapsWith Env.blockKind Env.kindOf; rw [he]; rfl
  show Sx _ _ _ _ [nv "answer" (.list [.int ((one ^ F.toNat).fmod S), .int ((one ^ G.toNat).fmod S), .int ((one ^ (F + G).toNat).fmod S)]), nv "box" .cell, nv "one" (.int one), nv "size" (.int S), nv "first" (.int F), nv "second" (.int G)] _ _ _
  wrow_raised
  · simp only [decide_true, Bool.not_true, Bool.or_false]
  have hAb : Bd 128 ((one ^ F.toNat).fmod S) := hSb.fmod hS
  have hAb2 : Bd 128 ((one ^ G.toNat).fmod S) := hSb.fmod hS
  wrow_raised
  · have hr := InR.fmod (a := one ^ (F + G).toNat) hS
    unfold InR at hr
    rw [pow_add_mod, show F.toNat + G.toNat = (F + G).toNat by omega]
    simp only [decide_true, Bool.not_true, Bool.false_or, Bool.not_eq_false', Bool.or_eq_true, Bool.and_eq_true, decide_eq_true_eq]
    exact hr
  lcg_sub
  have hob : Bd 4000 other := b5.mono (by decide)
  lcg_sub
  have hMb : Bd 128 ((other ^ F.toNat).fmod S) := hSb.fmod hS
  wrow_raised
  · rw [pow_mul_mod, decide_eq_true rfl]; rfl
  lcg_sub
  refine Sx.sub (σ := [nv "box" .cell, nv "one" (.int one), nv "size" (.int S), nv "few" (.int few), nv "plain" (.int 1)]) (by o_shape) ?_
  have hpb : ∀ i : Nat, (i : Int) ≤ 8 → Bd 1100 (one ^ i) := fun i hi => (Bd.powS b1 i).mono (by omega)
  refine' Sx.forR (J := fun i σ z => σ = [nv "box" .cell, nv "one" (.int one), nv "size" (.int S), nv "few" (.int few), nv "plain" (.int (one ^ i))] ∧ z = z6) ?wi ?wy ?w0 ?wt ?wd ?ws
  case wi => o_fieldsN
  case wy => rfl
  case ws => exact fun _ _ => rfl
  case w0 => exact ⟨by rw [Int.pow_zero], rfl⟩
  case wt =>
    rintro i _ _ hi ⟨rfl, rfl⟩
    have := hpb i (by omega)
    lcg_sub
    rw [← Int.pow_succ]
    exact Sx.nil ⟨_, (by o_shape : SubSig [nv "box" .cell, nv "one" (.int one), nv "size" (.int S), nv "few" (.int few), nv "plain" (.int (one ^ (i + 1)))] _), rfl, rfl⟩
  case wd =>
    rintro _ _ ⟨rfl, rfl⟩
    have hbits : (↑(Builtin.Int.intBits one) * few : Int) ≤ 14000 := by
      have h1 := b1.bits
      have h2 := Int.mul_le_mul_of_nonneg_right (show (↑(Builtin.Int.intBits one) : Int) ≤ 128 by omega) few0
      omega
    have hfb : Bd 2000 few := Bd.mono (k := 4) (by unfold Bd; omega) (by decide)
    refine' Sx.ret ?vr1 ⟨?vr2, rfl⟩
    case vr1 => k_places
    case vr2 => exact congrArg PV.bool (by rw [decide_eq_true rfl, decide_eq_true rfl]; rfl)
local macro_rules | `(tactic| k_subL) => `(tactic| with_reducible assumption)

theorem FnNew.of {X : Cx} {n : Nat} {sc : Scope} {f : Addr} {o : Obj} {fd : FuncData} {pre : List Stmt} {es : List Expr} {pos pos2 : Pos} {names : List Str} {args vs : List PV} (ho : X.K.lookup f = some o) (hd : o.data = .func fd) (hcd : codeIn X.K fd.code fd.qualname = true) (hbody : fd.body = .stmts (pre ++ [.Return (some (.List es pos)) pos2])) (hclo : fd.closure = []) (hgl : fd.globals = mainGlobals) (hbi : fd.builtins = builtinsNs) (hs : scopeOk fd.scope = true) (hk : fd.scope.kind = .function) (hnd : ((cellsFrom 0 fd.scope.names []).map (·.1)).Nodup)
    (hco : fd.scope.isCoroutine = false) (hgen : fd.scope.isGenerator = false) (hnames : ∀ x ∈ names, own fd.scope x = true) (hbind : ∀ xs : List Value, xs.length = names.length → bindArgs fd ⟨xs, []⟩ = pure (names.zip xs)) (hlen : args.length = names.length) (hsc : fd.scope = sc) (hl : vs.length ≤ 1000)
    (h : Sx X Option.none n sc (addAll [] names args) [] pre (fun fv σ z => fv = .next ∧ z = [] ∧ Ezs X Option.none n sc σ [] es vs [])) : FnNew X (n + 1) f args vs := by
  subst hsc
  refine ⟨⟨o, fd, ho, hd⟩, fun A s xs Q E rm ws r hQ => ?_⟩
  refine call_raw (n := n) rm ws (z := []) rfl r ho hd hcd hbody hclo hgl hbi hs hk hnd hco hgen hnames (BindsTo.of_eq (hbind xs (r.length.trans hlen))) hlen fun env h₁ tk₁ en S lo => ?_
  refine execs_app ?_
  refine h _ env { s with heap := h₁, toks := tk₁ } _ (fun _ _ => False) rm.deeper en S PassesOwn.never fun fl fv σ' z2 h2 tk2 k2 S2 fr hr => ?_
  obtain ⟨rfl, rfl, he⟩ := hr
  cases fr with
  | next =>
  refine wpAny_execs_cons (wpAny_Return_some (wpAny_List_spliced (he _ env { s with heap := h2, toks := tk2 } _ _ _ rm.deeper en S2 fun ys h3 tk3 k3 c3 r3 => ⟨by rw [r3.length, sizeLine_eq]; omega, ?_⟩)))
  have kp : KeepB Option.none h3 (h3.push { cls := .type "list", data := .seq ys.toArray }) := .of _ fun b o e => Heap.get?_push_of_some _ e
  have ks : KeepB Option.none s.heap h3 := (KeepB.of _ fun b o e => k2 b o (by intro q; cases q) (lo b o e).2.1 (lo b o e).2.2 (lo b o e).1).trans k3
  refine hQ h3.objs.size ys _ tk3 (ks.trans kp) ?_ ⟨_, Heap.get?_push_size _ rfl⟩ (r3.mono kp)
  cases e : s.heap.get? h3.objs.size with
  | none => rfl
  | some o => have := ks.all _ _ e; rw [fresh_none] at this; cases this
def bxS (p : Int × Int × Bool) (c : Int) : Int × Int × Bool := ((p.1 * 48271 + c * 69621 + 67).fmod 2147483629, if p.2.1 = 0 ∧ 10 ^ (18 : Int).toNat ≤ ab c then ab c else p.2.1, p.2.2 && decide (c = 0))
theorem bx_ok : ∀ (l : List Int) (p : Int × Int × Bool), 0 ≤ p.1 → p.1 < 2147483629 → 0 ≤ p.2.1 → 0 ≤ (l.foldl bxS p).1 ∧ (l.foldl bxS p).1 < 2147483629 ∧ 0 ≤ (l.foldl bxS p).2.1
  | [], p, a, b, c => ⟨a, b, c⟩
  | x :: l, p, a, b, c => by
    rw [List.foldl_cons]
    refine bx_ok l _ (Int.fmod_nonneg_of_pos _ (by decide)) (Int.fmod_lt_of_pos _ (by decide)) ?_
    unfold bxS
    dsimp only
    split
    · exact ab_nn x
    · exact c
theorem bx_take {l : List Int} {i : Nat} {c : Int} (h : l[i]? = some c) (p : Int × Int × Bool) : (l.take (i + 1)).foldl bxS p = bxS ((l.take i).foldl bxS p) c := by
  rw [List.take_add_one, h]
  simp [List.foldl_append]
theorem sl_map {α β : Type} (f : α → β) (l : List α) (a b : Option Int) : sl (l.map f) a b = (sl l a b).map f := by
  unfold sl
  rw [List.length_map, List.map_take, List.map_drop]
theorem box_ex (Y : Cx) (ns : List Int) (hn : ns.length ≤ 63) : ∃ z, FnNew (XK Y) 1 550 [.xl (ns.map PV.int)] z ∧ BoxOk 0 z ∧ (∀ q ∈ z, Scalar q) := by
  obtain ⟨b1, b2, b3⟩ := bx_ok (sl ns Option.none (some 24)) (71, 0, true) (by decide) (by decide) (by decide)
  refine ⟨[.int ((sl ns Option.none (some 24)).foldl bxS (71, 0, true)).2.1, .int ((sl ns Option.none (some 24)).foldl bxS (71, 0, true)).1, .int 0, .bool ((sl ns Option.none (some 24)).foldl bxS (71, 0, true)).2.2], ?_, ⟨_, _, _, _, rfl, b3, b1, b2, by decide, by decide⟩, all_sc rfl⟩
  clear b1 b2 b3
  refine FnNew.of (pre := [_, _]) (names := ["script"]) (n := 0) (by rfl) (by rfl) (by rfl) (by rfl) (by rfl) (by rfl) (by rfl) (by decide) (by rfl) (by decide) (by rfl) (by rfl) (by decide) (len1 fun a => by rfl) (by rfl) (by rfl) (Nat.le_of_ble_eq_true rfl) ?_
  dsimp only [addAll]
  lcg_sub
  refine Sx.sub (σ := [nv "script" (.xl (ns.map PV.int)), nv "seed" (.int 71), nv "great" (.int 0), nv "small" (.bool true)]) (by o_shape) ?_
  have hlen : (ns.map PV.int).length ≤ 100000 := by rw [List.length_map]; omega
  refine' Sx.forN (J := fun i σ z => σ = [nv "script" (.xl (ns.map PV.int)), nv "seed" (.int (((sl ns Option.none (some 24)).take i).foldl bxS (71, 0, true)).1), nv "great" (.int (((sl ns Option.none (some 24)).take i).foldl bxS (71, 0, true)).2.1), nv "small" (.bool (((sl ns Option.none (some 24)).take i).foldl bxS (71, 0, true)).2.2)] ∧ z = []) ?vi ?vy ?v0 ?vt ?vd ?vs
  case vi =>
    refine Itz.list (Ez.sliceX (kl := Option.none) (kh := some 24) ?_ .none (.some ?_) hlen fun _ _ => rfl)
    · k_places
    · k_places
  case vy => rfl
  case vs => exact fun _ _ => rfl
  case v0 => exact ⟨rfl, rfl⟩
  case vd =>
    rintro _ _ ⟨rfl, rfl⟩
    rw [sl_map, List.length_map, List.take_length]
    exact Sx.nil ⟨rfl, rfl, by k_places⟩
  case vt =>
    rintro i p _ _ hp ⟨rfl, rfl⟩
    rw [sl_map, List.getElem?_map, Option.map_eq_some_iff] at hp
    obtain ⟨c, hc, rfl⟩ := hp
    rw [bx_take hc]
    generalize ((sl ns Option.none (some 24)).take i).foldl bxS (71, 0, true) = p
    obtain ⟨s, g, sm⟩ := p
    dsimp only
    by_cases h : g = 0 ∧ 10 ^ (18 : Int).toNat ≤ ab c
    · have eb : bxS (s, g, sm) c = ((s * 48271 + c * 69621 + 67).fmod 2147483629, ab c, sm && decide (c = 0)) := by unfold bxS; rw [if_pos h]
      rw [eb]
      have ht : (decide (g = 0) && decide (10 ^ (18 : Int).toNat ≤ ab c)) = true := by rw [decide_eq_true h.1, decide_eq_true h.2]; rfl
      lcg_sub
      lcg_sub
      lcg_sub
      refine Sx.nil ?_
      show Sx _ _ _ _ _ _ _ _
      exact Sx.nil ⟨_, (by o_shape : SubSig [nv "script" (.xl (ns.map PV.int)), nv "seed" (.int ((s * 48271 + c * 69621 + 67).fmod 2147483629)), nv "great" (.int (ab c)), nv "small" (.bool (sm && decide (c = 0)))] _), rfl, rfl⟩
    · have eb : bxS (s, g, sm) c = ((s * 48271 + c * 69621 + 67).fmod 2147483629, g, sm && decide (c = 0)) := by unfold bxS; rw [if_neg h]
      rw [eb]
      have ht : (decide (g = 0) && decide (10 ^ (18 : Int).toNat ≤ ab c)) = false := by
        cases hq : (decide (g = 0) && decide (10 ^ (18 : Int).toNat ≤ ab c)) with
        | false => rfl
        | true => rw [Bool.and_eq_true] at hq; exact absurd ⟨of_decide_eq_true hq.1, of_decide_eq_true hq.2⟩ h
      lcg_sub
      lcg_sub
      exact Sx.nil ⟨_, (by o_shape : SubSig [nv "script" (.xl (ns.map PV.int)), nv "seed" (.int ((s * 48271 + c * 69621 + 67).fmod 2147483629)), nv "great" (.int g), nv "small" (.bool (sm && decide (c = 0)))] _), rfl, rfl⟩

theorem Sx.tupNew {X : Cx} {n : Nat} {sc : Scope} {σ σ' : Sig} {R : FV → Sig → List PV → Prop} {rest : List Stmt} {e1 : Expr} {x1 x2 : Str} {p1 p2 lp tp ep pos : Pos} {kk kk2 : Nat} {v1 : PV} (h1 : Ez X Option.none n sc σ [] e1 v1 []) (hv : Scalar v1) (hpl : plainE e1 = true)
    (hs : ∀ env, swapsWithSole [.Tuple [Expr.Name x1 p1, Expr.Name x2 p2] kk tp] (.Tuple [e1, .List [] lp] kk2 ep) pos.line env = pure false) (hw : swappedStores [.Tuple [Expr.Name x1 p1, Expr.Name x2 p2] kk tp] (.Tuple [e1, .List [] lp] kk2 ep) (env0 sc) = pure (some [x1, x2]))
    (hx1 : own sc x1 = true) (hx2 : own sc x2 = true) (hσ : SubSig σ' σ) (hsc : ∀ x v, σ'.lookup x = some v → Scalar v) (h : ∀ a, Sx X (some a) n sc ((x1, v1) :: (x2, .cell) :: σ') [] rest (retOnly R)) :
    Sx X Option.none n sc σ [] (.Assign [.Tuple [Expr.Name x1 p1, Expr.Name x2 p2] kk tp] (.Tuple [e1, .List [] lp] kk2 ep) pos :: rest) R := fun A env s Q E rm en S pe hQ => by
  refine wpAny_execs_cons (Assign_Tuple_swapped (names := [x1, x2]) ?_ (hs env) (by rw [swap_env, en.scope]; exact hw))
  refine wpAny_Tuple_spliced ?_
  rw [star_cons hpl]
  show wpAny _ A (spliced ((false, eval e1 env) :: (false, eval (.List [] lp) env) :: [])) _ _ s
  refine spliced_cons (h1 A env s _ _ rm en S fun x hp tk1 k1 c1 r1 => spliced_cons (wpAny_List_spliced (spliced_nil ⟨Nat.zero_le _, spliced_nil ⟨by rw [sizeLine_eq]; exact Nat.le_trans (Nat.le_of_ble_eq_true rfl : (2 : Nat) ≤ 1000) (by decide), ?_⟩⟩)))
  have S1 := S.step k1 c1
  dsimp only
  generalize hg : hp.push { cls := .type "list", data := .seq ([] : List Value).toArray } = hl
  have kl : KeepB Option.none hp hl := .of _ fun b o e => by rw [← hg]; exact Heap.get?_push_of_some _ e
  have hlD : hl.get? hp.objs.size = some { cls := .type "list", data := .seq ([] : List Value).toArray } := by rw [← hg]; exact Heap.get?_push_size _ rfl
  have kt : KeepB Option.none hl (hl.push { cls := .type "tuple", data := .seq [x, .ref hp.objs.size].toArray }) := .of _ fun b o e => Heap.get?_push_of_some _ e
  have S2 := S1.toCell (z := []) (vs := []) (D := hp.objs.size) (kl.trans kt) fresh_none ⟨0, kt.all _ _ hlD⟩ .nil (fun q hq => by cases hq) hσ hsc
  have hne : some hp.objs.size ≠ some hl.objs.size := by
    intro q; injection q with q; rw [q, fresh_none] at hlD; cases hlD
  have rT : Rep (some hp.objs.size) (hl.push { cls := .type "tuple", data := .seq [x, .ref hp.objs.size].toArray }) (.ref hl.objs.size) (.tup [v1, .cell]) :=
    .tup ⟨_, Heap.get?_push_size _ rfl, rfl, _, rfl⟩ hne (.cons (hv.rep r1) (.cons (.cell rfl) .nil))
  refine unpack_ (s := { s with heap := hl.push { cls := .type "tuple", data := .seq [x, .ref hp.objs.size].toArray }, toks := tk1 }) rm rT rfl fun vals h'' k2 r2 => ?_
  refine inOrder_ [x2, x1] [.cell, v1] vals.reverse σ' en (S2.stepN k2) r2.rev (fun y hy => by rcases List.mem_cons.mp hy with rfl | hy; exact hx2; rw [List.mem_singleton.mp hy]; exact hx1) fun h3 tk3 k3 S3 => ?_
  refine h _ A env { s with heap := h3, toks := tk3 } Q E rm en S3 pe fun f fv σ2 z2 h4 tk4 k4 S4 fr hr => ?_
  obtain ⟨v, rfl, hv, hr⟩ := hr
  cases fr with
  | ret rr =>
  refine hQ _ _ _ _ h4 tk4 (fun b o n m q e => ?_) S4.fromCell (.ret (hv.rep rr)) hr
  have e1 := k1 b o n e
  have ne : some hp.objs.size ≠ some b := fun q => by cases q; rw [fresh_none] at e1; cases e1
  exact (k3.trans k4) b o ne m q (k2.all b o (kt.all b o (kl.all b o e1)))
theorem Ez.lenC {X : Cx} {a : Addr} {n : Nat} {sc : Scope} {σ : Sig} {z : List PV} {x : Str} {p pos : Pos} {e : Expr} (hk : sc.names.lookup x = some .globalImplicit) (hg : nsIn X.K mainGlobals x = some Option.none) (hb : bootBuiltins x = some (.builtin "len")) (hn : x ≠ "__name__") (hd : (x == ("__debug__" : Str)) = false)
    (hs : [e].all plainE = true) (h1 : Ez X (some a) n sc σ z e .cell z) (hz : z.length < 2 ^ 40) : Ez X (some a) n sc σ z (.Call (.Name x p) [e] [] pos) (.int z.length) z := fun A env s Q E rm en S h => by
  have hs1 : plainE e = true := by simpa using hs
  refine wpAny_Call_NameR (globB_ en S.ws.good hk hg hb hn hd ?_)
  refine callWith_builtin (star_any hs) (evalArgs_ hs1 ((Ezs.cons h1 .nil hs1) A env s pos _ _ rm en S fun xs h' tk k1 c1 r1 => ?_))
  obtain _ | ⟨r1, r2⟩ := r1; cases r2
  cases r1 with
  | cell q =>
  cases q
  obtain ⟨vs, il, rr, _⟩ := id c1
  have hl : vs.length = z.length := rr.length
  exact call_len_list (s := { s with heap := h', toks := tk }) il (by simp [hl]; omega) (by simpa [hl] using h _ h' _ k1 c1 (.int _ _))
def FG : Str := Str.ofString "0123456789abcdefghijklmnopqrstuvwxyz"
def fc (d : Nat) : Nat := FG.cps.getD d 0
theorem fc_get : ∀ d, d < 36 → FG.cps[d]? = some (fc d) := by decide +kernel
structure LenB (b n L : Nat) : Prop where
  lt : n < b ^ L
  ge : 0 < L → b ^ (L - 1) ≤ n
theorem LenB.ex {b : Nat} (hb : 2 ≤ b) (n : Nat) : ∃ L, LenB b n L := by
  induction n using Nat.strongRecOn with
  | _ n ih =>
    rcases Nat.eq_zero_or_pos n with h | h
    · exact ⟨0, by subst h; simp, fun h => absurd h (Nat.lt_irrefl _)⟩
    · obtain ⟨L, h1, h2⟩ := ih (n / b) (Nat.div_lt_self h hb)
      have h3 : n < b ^ (L + 1) := by
        have := Nat.div_add_mod n b
        have hm := Nat.mod_lt n (show 0 < b by omega)
        have h4 := Nat.mul_le_mul_left b (Nat.succ_le_of_lt h1)
        rw [Nat.pow_succ, Nat.mul_comm]
        rw [Nat.mul_succ] at h4
        omega
      refine ⟨L + 1, h3, fun _ => ?_⟩
      rw [Nat.add_sub_cancel]
      rcases Nat.eq_zero_or_pos L with h5 | h5
      · subst h5; simp; omega
      · have h6 := h2 h5
        have h7 := Nat.mul_le_mul_left b h6
        have h8 := Nat.mul_div_le n b
        have : b ^ L = b * b ^ (L - 1) := by rw [← Nat.pow_succ']; congr 1; omega
        omega
theorem LenB.le {b n L : Nat} (hb : 2 ≤ b) (h : LenB b n L) (hn : n < 2 ^ 128) : L ≤ 128 := by
  rcases Nat.lt_or_ge 128 L with h1 | h1
  · have h2 := h.ge (by omega)
    have h3 : 2 ^ 128 ≤ 2 ^ (L - 1) := Nat.pow_le_pow_right (by decide) (by omega)
    have h4 : 2 ^ (L - 1) ≤ b ^ (L - 1) := Nat.pow_le_pow_left hb _
    omega
  · exact h1
def dgt (b n i : Nat) : Nat := (n / b ^ i) % b
/-- the signs of a number, the lowest first -/
def dgs (b n L : Nat) : List Nat := (List.range L).map fun i => fc (dgt b n i)
def fig (b n L : Nat) (neg : Bool) : Str := ⟨((if neg then [45] else []) ++ (dgs b n (max L 1)).reverse).toArray⟩
theorem figures_step {b n L i : Nat} (hb : 2 ≤ b) (h : LenB b n L) : (i < L → 0 < n / b ^ i) ∧ (L ≤ i → n / b ^ i = 0) := by
  have hp : 0 < b ^ i := Nat.pow_pos (by omega)
  constructor
  · intro hi
    have h1 := h.ge (by omega)
    have h2 : b ^ i ≤ b ^ (L - 1) := Nat.pow_le_pow_right (by omega) (by omega)
    exact Nat.div_pos (by omega) hp
  · intro hi
    have h2 : b ^ L ≤ b ^ i := Nat.pow_le_pow_right (by omega) hi
    exact Nat.div_eq_of_lt (Nat.lt_of_lt_of_le h.lt h2)
def sgs (b n i : Nat) : List Str := (List.range i).map fun j => ⟨#[fc (dgt b n j)]⟩
theorem sgs_str (b n i : Nat) : ((sgs b n i).map PV.str).all isStr = true := by simp [sgs, isStr]
theorem sgs_len (b n i : Nat) : ((sgs b n i).map PV.str).length = i := by simp [sgs]
theorem join_fold (l : List Nat) : ∀ a : Array Nat, ((l.map fun c => (⟨#[c]⟩ : Str)).foldl (fun acc p => acc ++ (Str.ofString "").cps ++ p.cps) a) = a ++ l.toArray := by
  induction l with
  | nil => intro a; simp
  | cons c r ih =>
    intro a
    rw [List.map_cons, List.foldl_cons, ih, show (Str.ofString "").cps = #[] by decide +kernel]
    simp
theorem join_singles (l : List Nat) : Txt.join (Str.ofString "") (l.map fun c => (⟨#[c]⟩ : Str)) = ⟨l.toArray⟩ := by
  unfold Txt.join Builtin.Str.glued
  cases l with
  | nil => rfl
  | cons c r =>
    rw [List.map_cons, List.drop_one, List.tail_cons, join_fold]
    simp
theorem join_ok (l : List Nat) (h : l.length ≤ 200) : JoinOk (Str.ofString "") (l.map fun c => (⟨#[c]⟩ : Str)) = true := by
  refine joinOk_of_weight ?_ (by decide)
  have : ((l.map fun c => (⟨#[c]⟩ : Str)).map (·.length)).sum = l.length := by
    rw [List.map_map]
    induction l with
    | nil => rfl
    | cons c r ih => rw [List.map_cons, List.sum_cons, ih (by simp at h; omega)]; simp [Str.length]; omega
  rw [this]; simp; omega
set_option maxHeartbeats 1000000 in
theorem f_figures (number base : Int) (L : Nat) (h0 : 2 ≤ base) (h1 : base ≤ 36) (hL : LenB base.toNat number.natAbs L) (hL2 : L ≤ 128) : Fn (XK Y) 1 543 [.int number, .int base] (.str (fig base.toNat number.natAbs L (decide (number < 0)))) := by
  refine Fn.of (names := ["number", "base"]) (n := 0) (by rfl) (by rfl) (by rfl) (by rfl) (by rfl) (by rfl) (by rfl) (by decide) (by rfl) (by decide) (by rfl) (by rfl) (by decide) (len2 fun a0 a1 => by rfl) (by rfl) (by rfl) ?_
  dsimp only [addAll]
  obtain ⟨b, rfl⟩ := Int.eq_ofNat_of_zero_le (show 0 ≤ base by omega)
  rw [show ((b : Nat) : Int).toNat = b from rfl] at *
  have hbd : Bd 40 (b : Int) := by unfold Bd; omega
  have hb0 : (b : Int) ≠ 0 := by omega
  refine' Sx.tupNew (σ' := [nv "number" (.int number), nv "base" (.int (b : Int))]) (v1 := .int (ab number)) ?t1 (.int _) rfl (fun _ => rfl) ?t2 ?t3 ?t4 ?t5 ?t6 (fun ca => ?t7)
  case t1 => k_places
  case t2 => rfl
  case t3 => rfl
  case t4 => rfl
  case t5 => o_shape
  case t6 =>
    intro x v e
    rw [List.lookup_cons] at e
    split at e
    · cases e; exact .int _
    · rw [List.lookup_cons] at e
      split at e
      · cases e; exact .int _
      · cases e
  rw [ab_eq]
  refine Sx.sub (σ := [nv "number" (.int number), nv "base" (.int (b : Int)), nv "found" .cell, nv "left" (.int (number.natAbs : Int))]) (by o_shape) ?_
  refine Sx.while (fun m σ z => ∃ i : Nat, i ≤ L ∧ σ = [nv "number" (.int number), nv "base" (.int (b : Int)), nv "found" .cell, nv "left" (.int ((number.natAbs / b ^ i : Nat) : Int))] ∧ z = (sgs b number.natAbs i).map PV.str ∧ m = L - i) L ⟨0, Nat.zero_le _, by simp, rfl, rfl⟩ ?_
  rintro m _ _ ⟨i, hi, rfl, rfl, rfl⟩
  obtain ⟨s1, s2⟩ := figures_step (i := i) (by omega) hL
  refine ⟨_, _, by k_clsL, fun hb => ?_, fun hb => ?_⟩
  · have hb' : (0 : Int) < ((number.natAbs / b ^ i : Nat) : Int) := of_decide_eq_true hb
    have hiL : i < L := by
      rcases Nat.lt_or_ge i L with h | h
      · exact h
      · rw [s2 h] at hb'; exact absurd hb' (by decide)
    have hit : ItemOk (.str FG) (((number.natAbs / b ^ i : Nat) : Int).fmod (b : Int)) (.str ⟨#[fc (dgt b number.natAbs i)]⟩) := by
      rw [fmod_nat]
      have := Nat.mod_lt (number.natAbs / b ^ i) (show 0 < b by omega)
      exact ⟨by omega, by omega, _, fc_get _ (by omega), rfl⟩
    refine' Sx.expr (Ez.append (l := []) ?u1 (Ez.item (a := .str FG) ?u2 ?u3 hit ?u4) ?u5 ?u6 ?u7 ?u8 ?u9) ?u10 ?u11
    case u1 => k_places
    case u2 => k_places
    case u3 => k_places
    case u4 => exact fun _ _ => rfl
    case u5 => exact sgs_str ..
    case u6 => rw [sgs_len]; omega
    case u7 => exact fun _ => rfl
    case u8 => rfl
    case u9 => rfl
    case u10 => exact fun _ => rfl
    case u11 =>
      lcg_sub
      refine Sx.nil ⟨L - (i + 1), [nv "number" (.int number), nv "base" (.int (b : Int)), nv "found" .cell, nv "left" (.int ((number.natAbs / b ^ (i + 1) : Nat) : Int))], by omega, ?_, i + 1, hiL, rfl, ?_, rfl⟩
      · have : ((number.natAbs / b ^ i : Nat) : Int).fdiv (b : Int) = ((number.natAbs / b ^ (i + 1) : Nat) : Int) := by
          rw [Int.fdiv_eq_ediv_of_nonneg _ (by omega), ← Int.natCast_ediv, Nat.div_div_eq_div_mul, Nat.pow_succ]
        rw [← this]; o_shape
      · unfold sgs; rw [List.range_succ]; simp
  · have hb' : ¬ (0 : Int) < ((number.natAbs / b ^ i : Nat) : Int) := of_decide_eq_false hb
    have hiL : i = L := by
      rcases Nat.lt_or_ge i L with h | h
      · exact absurd (by have := s1 h; omega) hb'
      · omega
    subst hiL
    clear s1 s2 hb hb'
    rcases Nat.eq_zero_or_pos i with hz | hz
    · subst hz
      have hn0 : number = 0 := by have := hL.lt; simp at this; omega
      refine' Sx.ifT (b := decide (((((sgs b number.natAbs 0).map PV.str).length : Nat) : Int) = 0)) (Tz.cmp (Ez.lenC ?n1 ?n2 ?n3 ?n4 ?n5 ?n6 ?n7 ?n8) Ez.int Cmp.eq rfl) rfl ?n9x0
      case n1 => rfl
      case n2 => kba_ints
      case n3 => kba_ints
      case n4 => decide
      case n5 => rfl
      case n6 => rfl
      case n7 => k_places
      case n8 => exact Nat.lt_of_lt_of_le (Nat.zero_lt_one) (by decide)
      refine' Sx.expr (Ez.append (l := []) ?u1 ?u2 ?u5 ?u6 ?u7 ?u8 ?u9) ?u10 ?u11x0
      case u1 => k_places
      case u2 => k_places
      case u5 => rfl
      case u6 => exact Nat.zero_le _
      case u7 => exact fun _ => rfl
      case u8 => rfl
      case u9 => rfl
      case u10 => exact fun _ => rfl
      refine Sx.nil ?_
      show Sx _ _ _ _ _ [.str "0"] _ _
      lcg_sub
      refine' Sx.ret (Ez.meth1 (T := "str") (id := "str.join") Ez.str TyOf.str ?m1 rfl ?m2 F.plainAttrs_str F.slot_str_join F.type_str_join (Ez.cast (Ez.sliceR ?m3 ?m4 rfl ?m5 ?m6 (fun _ _ => rfl)) ?m7) (Me.join (l := [48].map fun c => (⟨#[c]⟩ : Str)) ?m8)) ⟨_, rfl, .str _, ?m9, rfl⟩
      case m1 => exact fun _ => rfl
      case m2 => rfl
      case m3 => k_places
      case m4 => k_places
      case m5 => exact Nat.le_of_ble_eq_true rfl
      case m6 => exact all_sc rfl
      case m7 => rfl
      case m8 => exact join_ok _ (by decide)
      case m9 => exact congrArg PV.str ((join_singles _).trans (by subst hn0; simp [fig, dgs, dgt, show fc 0 = 48 by decide +kernel]))
    · refine' Sx.ifF (b := decide (((((sgs b number.natAbs i).map PV.str).length : Nat) : Int) = 0)) (Tz.cmp (Ez.lenC ?n1 ?n2 ?n3 ?n4 ?n5 ?n6 ?n7 ?n8) Ez.int Cmp.eq rfl) ?nbx1 ?n9x1
      case n1 => rfl
      case n2 => kba_ints
      case n3 => kba_ints
      case n4 => decide
      case n5 => rfl
      case n6 => rfl
      case n7 => k_places
      case n8 => rw [sgs_len]; omega
      case nbx1 => rw [sgs_len]; exact decide_eq_false (by omega)
      have hmx : max i 1 = i := by omega
      by_cases hneg : number < 0
      · have hneg' : decide (number < 0) = true := decide_eq_true hneg
        lcg_sub
        refine' Sx.expr (Ez.append (l := []) ?u1 ?u2 ?u5 ?u6 ?u7 ?u8 ?u9) ?u10 ?u11x1
        case u1 => k_places
        case u2 => k_places
        case u5 => exact sgs_str ..
        case u6 => rw [sgs_len]; omega
        case u7 => exact fun _ => rfl
        case u8 => rfl
        case u9 => rfl
        case u10 => exact fun _ => rfl
        refine Sx.nil ?_
        show Sx _ _ _ _ _ _ _ _
        refine' Sx.ret (Ez.meth1 (T := "str") (id := "str.join") Ez.str TyOf.str ?m1 rfl ?m2 F.plainAttrs_str F.slot_str_join F.type_str_join (Ez.cast (Ez.sliceR ?m3 ?m4 rfl ?m5 ?m6 (fun _ _ => rfl)) ?m7) (Me.join (l := (45 :: (dgs b number.natAbs i).reverse).map fun c => (⟨#[c]⟩ : Str)) ?m8)) ⟨_, rfl, .str _, ?m9, rfl⟩
        case m1 => exact fun _ => rfl
        case m2 => rfl
        case m3 => k_places
        case m4 => k_places
        case m5 => simp [sgs]; omega
        case m6 => (intro q hq; simp [sgs] at hq; rcases hq with ⟨j, _, rfl⟩ | rfl <;> exact .str _)
        case m7 => (refine congrArg PV.list ?_; simp [sgs, dgs, List.map_reverse]; rfl)
        case m8 => exact join_ok _ (by simp [dgs]; omega)
        case m9 => exact congrArg PV.str ((join_singles _).trans (by unfold fig; rw [hneg', hmx]; rfl))
      · have hneg' : decide (number < 0) = false := decide_eq_false hneg
        lcg_sub
        refine' Sx.ret (Ez.meth1 (T := "str") (id := "str.join") Ez.str TyOf.str ?m1 rfl ?m2 F.plainAttrs_str F.slot_str_join F.type_str_join (Ez.cast (Ez.sliceR ?m3 ?m4 rfl ?m5 ?m6 (fun _ _ => rfl)) ?m7) (Me.join (l := (dgs b number.natAbs i).reverse.map fun c => (⟨#[c]⟩ : Str)) ?m8)) ⟨_, rfl, .str _, ?m9, rfl⟩
        case m1 => exact fun _ => rfl
        case m2 => rfl
        case m3 => k_places
        case m4 => k_places
        case m5 => simp [sgs]; omega
        case m6 => (intro q hq; simp [sgs] at hq; rcases hq with ⟨j, _, rfl⟩; exact .str _)
        case m7 => (refine congrArg PV.list ?_; simp [sgs, dgs, List.map_reverse]; try rfl)
        case m8 => exact join_ok _ (by simp [dgs]; omega)
        case m9 => exact congrArg PV.str ((join_singles _).trans (by unfold fig; rw [hneg', hmx]; rfl))
local macro_rules | `(tactic| k_subL) => `(tactic| with_reducible exact f_figures _ _ _ (by first | assumption | omega | decide) (by first | assumption | omega | decide) ‹_› ‹_›)

theorem occ_ix : ∀ d, d < 36 → Builtin.Str.occurrences FG ⟨#[fc d]⟩ 0 FG.length 1 = [d] := by decide +kernel
theorem in_base : ∀ b : Nat, b < 37 → ∀ d : Nat, d < b → Txt.contains (Txt.slice FG Option.none (some (b : Int))) ⟨#[fc d]⟩ = true := by decide +kernel
theorem fc_zero : ∀ d, d < 36 → fc d = 48 → d = 0 := by decide +kernel
section
variable {X : Cx} {c : Option Addr} {n : Nat} {sc : Scope} {σ σ' τ : Sig} {z z' z₁ z₂ : List PV} {R : FV → Sig → List PV → Prop} {rest : List Stmt}
/-- a list of the program's own, its items taken apart -/
theorem Itz.listT {e : Expr} {elts : List Expr} {kk : Nat} {tp : Pos} {items : List PV} (h1 : Ez X c n sc σ z e (.list items) z₁) : Itz X c n sc σ z e (.Tuple elts kk tp) items z₁ := fun A env s Q E rm en S h =>
  h1 A env s _ _ rm en S fun y h1 tk k c1 r => by
    cases r with
    | list a b r =>
      rename_i ax vs
      have hax := Heap.lt_size (a.isList).choose_spec.1
      have hne : ax ≠ h1.objs.size := Nat.ne_of_lt hax
      refine wpAny_pyIter_list a.isList ?_
      have kp : KeepB Option.none h1 (h1.push { cls := .type "list_iterator", data := .fields #[.ref ax, .int 0 0] }) := .of _ fun b o e => Heap.get?_push_of_some _ e
      have hsz : vs.toArray.size = items.length := by simp [r.length]
      have W := KTurns.ofWalks (target := .Tuple elts kk tp) (Walks.list (prog := X.prog) (w := X.w) rm.1 h1.objs.size ax hne vs.toArray) (fun _ v s Q E st hq => by
        cases v <;> first | exact wpAny_letOwnedTupleGo_listiter st.1 hq | exact wpAny_pure hq)
      rw [hsz] at W
      refine h _ _ _ _ _ _ h1 _ tk k c1 kp W ⟨⟨_, Heap.get?_push_size _ rfl, rfl, rfl⟩, (a.isList).at fun o e => kp.all _ _ e⟩ (fun j s Q E st hq => wpAny_pyIter_listiter st.1 hq) (fun b hb => by rw [List.mem_singleton.mp hb]; exact fresh_none) ?_
        (fun j h st b hb => by rw [List.mem_singleton.mp hb]; obtain ⟨o, ho, _, hd⟩ := st.1; exact ⟨o, _, ho, hd⟩) ?_
      · intro b' hb
        rcases List.mem_cons.mp hb with e | e
        · subst e; exact FpOk.fresh (S.step k c1) (Nat.le_refl _) (by rw [Heap.size_push]; exact Nat.lt_succ_self _)
        · rw [List.mem_singleton.mp e]; exact FpOk.seq (S.step k c1) a.isList b (by rw [Heap.size_push]; exact Nat.lt_succ_of_lt hax)
      · intro i v h hi hp tr _
        obtain ⟨p, e1, e2⟩ := r.get (by simpa using hp)
        exact ⟨p, e1, tr _ _ e2⟩
theorem Itz.enumS {x : Str} {p pos tp : Pos} {e : Expr} {elts : List Expr} {kk : Nat} {y : Str} (hk : sc.names.lookup x = some .globalImplicit) (hg : nsIn X.K mainGlobals x = some Option.none) (hb : bootBuiltins x = some (.type "enumerate")) (hn : x ≠ "__name__") (hd : (x == ("__debug__" : Str)) = false)
    (hs : plainE e = true) (h1 : Ez X c n sc σ z e (.str y) z₁) : Itz X c n sc σ z (.Call (.Name x p) [e] [] pos) (.Tuple elts kk tp) (pairsOf (signs y)) z₁ := fun A env s Q E rm en S h => by
  refine evalT_ rm en S hk hg hb hn hd (by simp [hs]) (Ezs.cons h1 .nil hs) fun xs h' tk k1 c1 r1 => ?_
  have S1 := S.step k1 c1
  obtain _ | ⟨r1, r2⟩ := r1; cases r2
  cases r1 with
  | str _ t =>
    refine call_enumerate_str fun h2 he hit hsz hk2 => ?_
    have k2 : KeepB Option.none h' h2 := .of _ hk2
    refine wpAny_pyIter_enum (i := 0) he ?_
    have fin : ∀ ty, h2.IsStrIter h'.objs.size ty y t 0 → Draws X.prog X.w A.in1 h'.objs.size [h'.objs.size] y.cps.size (fun i v => ∃ c u, y.cps[i]? = some c ∧ v = .str ⟨#[c]⟩ u) (fun i h => h.IsStrIter h'.objs.size ty y t i) → Q (.ref (h'.objs.size + 1)) { s with heap := h2, toks := tk } := fun ty hit D => by
      have WT := WalksT.enumerateD D (h'.objs.size + 1) (Nat.succ_ne_self _) (by simp) (List.mem_singleton.mpr rfl)
      have W := KTurns.ofWalksU (elts := elts) (k := kk) (pos := tp) WT.toU
      have hlen : (pairsOf (signs y)).length = y.cps.size := by rw [pairsOf_len]; simp [signs]
      rw [← hlen] at W
      refine h _ _ _ _ _ _ h' h2 tk k1 c1 k2 W ⟨⟨_, he⟩, hit⟩ (fun j s Q E st hq => WT.self j _ _ _ st hq) ?_ ?_ ?_ ?_
      · intro b hb
        have hge : h'.objs.size ≤ b := by
          rcases List.mem_cons.mp hb with e | e
          · rw [e]; exact Nat.le_succ _
          · rw [List.mem_singleton.mp e]; exact Nat.le_refl _
        cases e : h'.get? b with
        | none => rfl
        | some o => exact absurd (Heap.lt_size e) (Nat.not_lt.mpr hge)
      · intro b' hb
        have hz : h2.objs.size = h'.objs.size + 2 := hsz
        rcases List.mem_cons.mp hb with e | e
        · subst e; exact FpOk.fresh S1 (Nat.le_succ _) (by rw [hz]; exact Nat.lt_succ_self _)
        · rw [List.mem_singleton.mp e]; exact FpOk.fresh S1 (Nat.le_refl _) (by rw [hz]; exact Nat.lt_succ_of_lt (Nat.lt_succ_self _))
      · intro j h st b hb
        rcases List.mem_cons.mp hb with e | e
        · subst e; obtain ⟨⟨old, he⟩, _⟩ := st; exact ⟨_, _, he, rfl⟩
        · rw [List.mem_singleton.mp e]; obtain ⟨_, o, ho, _, hd⟩ := st; exact ⟨o, _, ho, hd⟩
      · rintro i v h3 hi ⟨T, vals, rfl, ⟨t, x, ⟨cc, u, hc, rfl⟩, rfl⟩, hT⟩ tr cl
        refine ⟨.tup [.int (i : Nat), .str ⟨#[cc]⟩], pairsOf_get (by simp [signs, hc]), ?_⟩
        exact .tup (vs := [.int i t, .str ⟨#[cc]⟩ u]) hT (cl.ne hT) (.cons (.int ..) (.cons (.str ..) .nil))
    unfold strIterType at hit
    cases ha : y.cps.all (· < 128) <;> rw [ha] at hit
    · exact fin "str_iterator" hit (Draws.strWide (A := A.in1) rm.1 _ y t)
    · exact fin "str_ascii_iterator" hit (Draws.strAscii (A := A.in1) rm.1 _ y t)
end
theorem fig_facts {b n L : Nat} (hb : 2 ≤ b) (hL : LenB b n L) : n < b ^ (max L 1) ∧ (0 < n → b ^ (max L 1 - 1) ≤ n) := by
  refine ⟨Nat.lt_of_lt_of_le hL.lt (Nat.pow_le_pow_right (by omega) (Nat.le_max_left ..)), fun hn => ?_⟩
  rcases Nat.eq_zero_or_pos L with h | h
  · subst h; simp; omega
  · rw [show max L 1 = L by omega]; exact hL.ge h
theorem dgt_step {b n S i : Nat} (hb : 2 ≤ b) (hi : i < S) : n / b ^ (S - (i + 1)) = n / b ^ (S - i) * b + dgt b n (S - (i + 1)) := by
  unfold dgt
  have e : b ^ (S - i) = b ^ (S - (i + 1)) * b := by rw [← Nat.pow_succ]; congr 1; omega
  have := Nat.div_add_mod (n / b ^ (S - (i + 1))) b
  rw [e, ← Nat.div_div_eq_div_mul, Nat.mul_comm]
  exact this.symm
theorem pow_lt_inv {a c : Nat} (h : 2 ^ a < 2 ^ c) : a < c := by
  rcases Nat.lt_or_ge a c with h1 | h1
  · exact h1
  · have := Nat.pow_le_pow_right (show 0 < 2 by decide) h1; omega
theorem chunk_len {n L2 Lm m K r : Nat} (h2 : LenB 2 n L2) (hm : LenB (2 ^ m) n Lm) (hm0 : 0 < m) (hK : K * m = max L2 1 + r) (hr : r < m) : max Lm 1 = K := by
  obtain ⟨a1, a2⟩ := fig_facts (by decide) h2
  obtain ⟨b1, b2⟩ := fig_facts (b := 2 ^ m) (by have := Nat.pow_le_pow_right (show 0 < 2 by decide) hm0; omega) hm
  rcases Nat.eq_zero_or_pos n with h | h
  · have e1 : L2 = 0 := by
      rcases Nat.eq_zero_or_pos L2 with e | e
      · exact e
      · have := h2.ge e; have := Nat.two_pow_pos (L2 - 1); omega
    have e2 : Lm = 0 := by
      rcases Nat.eq_zero_or_pos Lm with e | e
      · exact e
      · have := hm.ge e; have : 0 < (2 ^ m) ^ (Lm - 1) := Nat.pow_pos (Nat.two_pow_pos m); omega
    subst e1 e2
    have hK1 : K = 1 := by
      rcases Nat.lt_trichotomy K 1 with e | e | e
      · have : K = 0 := by omega
        subst this; simp at hK; omega
      · exact e
      · have := Nat.mul_le_mul_right m (show 2 ≤ K by omega); simp at hK; omega
    rw [hK1]; rfl
  · have a3 := a2 h
    have b3 := b2 h
    generalize max L2 1 = S2 at *
    generalize hSm : max Lm 1 = Sm at *
    rw [← Nat.pow_mul] at b1 b3
    have c1 : S2 - 1 < m * Sm := pow_lt_inv (Nat.lt_of_le_of_lt a3 b1)
    have c2 : m * (Sm - 1) < S2 := pow_lt_inv (Nat.lt_of_le_of_lt b3 a1)
    have hS : 1 ≤ Sm := by omega
    have c3 : m * (Sm - 1) + m = m * Sm := by rw [← Nat.mul_succ]; congr 1; omega
    have c4 : K * m < (Sm + 1) * m := by rw [Nat.add_mul, Nat.one_mul, Nat.mul_comm Sm m]; omega
    have c5 : (Sm - 1) * m < K * m := by rw [Nat.mul_comm (Sm - 1)]; omega
    have c6 := Nat.lt_of_mul_lt_mul_right c4
    have c7 := Nat.lt_of_mul_lt_mul_right c5
    omega
theorem chunk4 (n q : Nat) : dgt 2 n (q * 4 + 3) * 8 + dgt 2 n (q * 4 + 2) * 4 + dgt 2 n (q * 4 + 1) * 2 + dgt 2 n (q * 4) = dgt (2 ^ 4) n q := by
  unfold dgt
  rw [Nat.pow_add, Nat.pow_add, Nat.pow_add, ← Nat.div_div_eq_div_mul, ← Nat.div_div_eq_div_mul, ← Nat.div_div_eq_div_mul, Nat.mul_comm q 4, Nat.pow_mul]
  generalize n / (2 ^ 4) ^ q = x
  omega
theorem chunk3 (n q : Nat) : dgt 2 n (q * 3 + 2) * 4 + dgt 2 n (q * 3 + 1) * 2 + dgt 2 n (q * 3) = dgt (2 ^ 3) n q := by
  unfold dgt
  rw [Nat.pow_add, Nat.pow_add, ← Nat.div_div_eq_div_mul, ← Nat.div_div_eq_div_mul, Nat.mul_comm q 3, Nat.pow_mul]
  generalize n / (2 ^ 3) ^ q = x
  omega
theorem wide_get {n S2 r T i : Nat} (hS : n < 2 ^ S2) (hT : T = S2 + r) (hi : i < T) : (List.replicate r 48 ++ (dgs 2 n S2).reverse)[i]? = some (fc (dgt 2 n (T - 1 - i))) := by
  rcases Nat.lt_or_ge i r with h | h
  · rw [List.getElem?_append_left (by simpa using h), List.getElem?_replicate, if_pos h]
    have : dgt 2 n (T - 1 - i) = 0 := by
      unfold dgt
      have h2 : 2 ^ S2 ≤ 2 ^ (T - 1 - i) := Nat.pow_le_pow_right (by decide) (by omega)
      rw [Nat.div_eq_of_lt (by omega)]
    rw [this, show fc 0 = 48 by decide +kernel]
  · rw [List.getElem?_append_right (by simpa using h), List.length_replicate, List.getElem?_reverse (by simp [dgs]; omega)]
    unfold dgs
    rw [List.getElem?_map, List.length_map, List.length_range, List.getElem?_range (by omega), show S2 - 1 - (i - r) = T - 1 - i by omega]
    rfl
theorem mul_zeros : ∀ r : Nat, r < 4 → Txt.mul (Str.ofString "0") (r : Int) = ⟨(List.replicate r 48).toArray⟩ := by decide +kernel
theorem rev_dgs (b n K : Nat) : (dgs b n K).reverse = (List.range K).map fun i => fc (dgt b n (K - 1 - i)) := by
  refine List.ext_getElem? fun i => ?_
  rcases Nat.lt_or_ge i K with h | h
  · rw [List.getElem?_reverse (by simpa [dgs] using h)]
    unfold dgs
    rw [List.getElem?_map, List.getElem?_map, List.length_map, List.length_range, List.getElem?_range h, List.getElem?_range (by omega)]
    rfl
  · rw [List.getElem?_eq_none (by simpa [dgs] using h), List.getElem?_eq_none (by simpa using h)]
theorem mem_range' {q : PV} {a st : Int} {N : Nat} (h : q ∈ rangeItems a st N) : ∃ i : Nat, i < N ∧ q = .int (a + (i : Int) * st) := by
  unfold rangeItems at h
  obtain ⟨i, hi, rfl⟩ := List.mem_map.mp h
  exact ⟨i, List.mem_range.mp hi, rfl⟩
theorem pairs_gen {f : Nat → PV} (N : Nat) : pairsOf ((List.range N).map f) = (List.range N).map (fun (i : Nat) => PV.tup [.int (i : Int), f i]) := by
  refine List.ext_getElem? fun i => ?_
  unfold pairsOf
  rw [List.getElem?_map, List.getElem?_zipIdx, List.getElem?_map, List.getElem?_map]
  by_cases hi : i < N
  · rw [List.getElem?_range hi]; simp
  · rw [List.getElem?_eq_none (by simpa using hi)]; rfl
theorem fc_ten : ∀ d, d < 10 → fc d = 48 + d := by decide +kernel
theorem chunk_slice {W : List Nat} {j m : Nat} {f : Nat → Nat} (hW : j * m + m ≤ W.length) (h : ∀ k, k < m → W[j * m + k]? = some (f k)) : Txt.slice ⟨W.toArray⟩ (some ((0 : Int) + (j : Int) * (m : Int))) (some ((0 : Int) + (j : Int) * (m : Int) + (m : Int))) = ⟨((List.range m).map f).toArray⟩ := by
  have hjm : (0 : Int) + (j : Int) * (m : Int) = ((j * m : Nat) : Int) := by rw [Int.zero_add, Int.natCast_mul]
  rw [hjm]
  have hlen : (⟨W.toArray⟩ : Str).length = W.length := by show Array.size _ = _; simp
  have := eq_of_beq (slice_closesL (x := ⟨W.toArray⟩) (i := ((j * m : Nat) : Int)) (j := ((j * m : Nat) : Int) + (m : Int)) (by omega) (by omega) (by rw [hlen]; omega))
  rw [this]
  refine congrArg Str.mk (congrArg List.toArray ?_)
  rw [show (((j * m : Nat) : Int)).toNat = j * m by omega, show ((((j * m : Nat) : Int) + (m : Int)) - ((j * m : Nat) : Int)).toNat = m by omega]
  refine List.ext_getElem? fun k => ?_
  rcases Nat.lt_or_ge k m with hk | hk
  · rw [List.getElem?_take_of_lt hk, List.getElem?_drop, List.getElem?_map, List.getElem?_range hk]
    exact h k hk
  · rw [List.getElem?_eq_none (by simp; omega), List.getElem?_eq_none (by simpa using hk)]
theorem slice_one {c : Nat} {cs : List Nat} : Txt.slice ⟨(c :: cs).toArray⟩ Option.none (some 1) = ⟨#[c]⟩ := by
  have := eq_of_beq (slice_closes_toL (x := ⟨(c :: cs).toArray⟩) (j := 1) (by decide) (by show (1 : Int) ≤ ((Array.size _ : Nat) : Int); simp; omega))
  rw [this]; simp
set_option maxHeartbeats 2000000 in
theorem f_figures_right (one base : Int) (hb : Bd 128 one) (h0 : 2 ≤ base) (h1 : base ≤ 36) : Fn (XK Y) 6 602 [.int one, .int base] (.bool true) := by
  refine Fn.of (names := ["one", "base"]) (n := 5) (by rfl) (by rfl) (by rfl) (by rfl) (by rfl) (by rfl) (by rfl) (by decide) (by rfl) (by decide) (by rfl) (by rfl) (by decide) (len2 fun a0 a1 => by rfl) (by rfl) (by rfl) ?_
  dsimp only [addAll]
  obtain ⟨b, rfl⟩ := Int.eq_ofNat_of_zero_le (show 0 ≤ base by omega)
  have hb2 : 2 ≤ b := by omega
  obtain ⟨L, hL⟩ := LenB.ex hb2 one.natAbs
  have hL2 : L ≤ 128 := hL.le hb2 hb
  have hLb : LenB (b : Int).toNat one.natAbs L := hL
  obtain ⟨fl, fg⟩ := fig_facts hb2 hL
  lcg_sub
  lcg_sub
  rw [show ((b : Nat) : Int).toNat = b from rfl]
  generalize hS : max L 1 = S at *
  have hS1 : 1 ≤ S := by omega
  have hS2 : S ≤ 128 := by omega
  generalize hDD : (dgs b one.natAbs S).reverse = DD
  have hDl : DD.length = S := by rw [← hDD]; simp [dgs]
  have hDg : ∀ i, i < S → DD[i]? = some (fc (dgt b one.natAbs (S - (i + 1)))) := by
    intro i hi
    rw [← hDD, List.getElem?_reverse (by simp [dgs]; omega)]
    unfold dgs
    rw [List.getElem?_map, List.length_map, List.length_range, List.getElem?_range (by omega), show S - 1 - i = S - (i + 1) by omega]
    rfl
  have hfig : fig b one.natAbs L (decide (one < 0)) = ⟨((if decide (one < 0) then [45] else []) ++ DD).toArray⟩ := by unfold fig; rw [hS, hDD]
  rw [hfig]
  generalize hln : (⟨((if decide (one < 0) then [45] else []) ++ DD).toArray⟩ : Str) = line
  have hlen : line.length ≤ 100000 := by rw [← hln]; show (Array.size _) ≤ _; simp; split <;> simp <;> omega
  refine' Sx.assign (v := .str ⟨DD.toArray⟩) (Ez.ifexp ?ia (fun hq => Ez.cast (Ez.sliceS (kl := some 1) (kh := Option.none) ?ib (.some ?ic) .none hlen (fun _ _ => rfl)) ?id) (fun hq => Ez.cast ?ie ?ief)) ?ig ?ih ?ij
  case ia => k_clsL
  case ib => k_places
  case ic => k_places
  case id =>
    rw [← hln, hq, slice_from_eq (b := ((DD.length + 1 : Nat) : Int)) (by decide) (by show (1 : Int) ≤ ((Array.size _ : Nat) : Int); simp; omega) (by show _ = ((Array.size _ : Nat) : Int); simp)]
    refine congrArg PV.str (congrArg Str.mk (congrArg List.toArray ?_))
    simp
  case ie => k_places
  case ief => rw [← hln, hq]; rfl
  case ig => rfl
  case ih => exact fun _ => rfl
  lcg_sub
  refine Sx.sub (σ := [nv "one" (.int one), nv "base" (.int (b : Int)), nv "signs" (.str FG), nv "line" (.str line), nv "left" (.str ⟨DD.toArray⟩), nv "amount" (.int ((one.natAbs / b ^ (S - 0) : Nat) : Int))]) (by
    rw [Nat.sub_zero, Nat.div_eq_of_lt fl]; o_shape) ?_
  refine' Sx.forN (J := fun i σ z => σ = [nv "one" (.int one), nv "base" (.int (b : Int)), nv "signs" (.str FG), nv "line" (.str line), nv "left" (.str ⟨DD.toArray⟩), nv "amount" (.int ((one.natAbs / b ^ (S - i) : Nat) : Int))] ∧ z = []) ?vi ?vy ?v0 ?vt ?vd ?vs
  case vi => o_fieldsN
  case vy => rfl
  case vs => exact fun _ _ => rfl
  case v0 => exact ⟨rfl, rfl⟩
  case vt =>
    rintro i p _ _ hp ⟨rfl, rfl⟩
    have hiS : i < S := by
      have := (List.getElem?_eq_some_iff.mp hp).1
      simp [signs] at this; omega
    have hp' : p = .str ⟨#[fc (dgt b one.natAbs (S - (i + 1)))]⟩ := by
      unfold signs at hp
      rw [List.getElem?_map] at hp
      have hp2 : (DD[i]?).map (fun c => PV.str ⟨#[c]⟩) = some p := hp
      rw [hDg i hiS] at hp2
      exact (Option.some.inj hp2).symm
    subst hp'
    have hd36 : dgt b one.natAbs (S - (i + 1)) < 36 := by unfold dgt; have := Nat.mod_lt (one.natAbs / b ^ (S - (i + 1))) (show 0 < b by omega); omega
    have hmu : IntMulOk ((one.natAbs / b ^ (S - i) : Nat) : Int) (b : Int) := IntMulOk.of_right (intBits_le_64 (by omega) (by omega))
    refine' Sx.assign (Ez.bin (Ez.bin ?ja ?jb (Bin.mul hmu)) (Ez.meth1 (T := "str") (id := "str.index") ?jc TyOf.str ?jd rfl ?je F.plainAttrs_str F.slot_str_index F.type_str_index ?jf (Me.index (occ_ix _ hd36))) Bin.add) ?jg ?jh ?ji
    case ja => k_places
    case jb => k_places
    case jc => k_places
    case jd => exact fun _ => rfl
    case je => rfl
    case jf => k_places
    case jg => rfl
    case jh => exact fun _ => rfl
    refine Sx.nil ⟨[nv "one" (.int one), nv "base" (.int (b : Int)), nv "signs" (.str FG), nv "line" (.str line), nv "left" (.str ⟨DD.toArray⟩), nv "amount" (.int ((one.natAbs / b ^ (S - (i + 1)) : Nat) : Int))], ?_, rfl, rfl⟩
    rw [dgt_step hb2 hiS, Int.natCast_add, Int.natCast_mul]
    o_shape
  case vd =>
    rintro _ _ ⟨rfl, rfl⟩
    rw [show (signs ⟨DD.toArray⟩).length = S by simp [signs, hDl], Nat.sub_self, Nat.pow_zero, Nat.div_one]
    have hDc : ∃ cs, DD = fc (dgt b one.natAbs (S - 1)) :: cs := by
      have h := hDg 0 (by omega)
      cases DD with
      | nil => simp at h
      | cons x cs => exact ⟨cs, by simp at h; rw [h]⟩
    obtain ⟨cs, hcs⟩ := hDc
    have hll : (⟨DD.toArray⟩ : Str).length ≤ 100000 := by show DD.toArray.size ≤ _; simp; omega
    refine' Sx.ifF (Tz.orI (b := false) ?a1 (fun _ => Tz.orI (b := false) ?a2 (fun _ => Tz.orI (b := false) ?a3 (fun _ => Tz.bool1 (Tz.cmp ?a4 ?a5 Cmp.neNil rfl))))) rfl ?a6
    case a1 =>
      refine' Tz.cast ?b1 ?b2
      case b1 => k_clsL
      case b2 => rw [ab_eq, decide_eq_true rfl]; rfl
    case a2 =>
      refine' Tz.cast (Tz.andI ?b1 (fun hq => Tz.bool1 (Tz.cmp (Ez.sliceS (kl := Option.none) (kh := some 1) ?b3 .none (.some ?b4) hlen (fun _ _ => rfl)) Ez.str Cmp.neS rfl))) ?b2
      case b1 => k_clsL
      case b3 => k_places
      case b4 => k_places
      case b2 =>
        cases hq : decide (one < 0) with
        | false => rfl
        | true =>
          rw [← hln, hq, if_pos rfl]
          show (true && (Txt.slice ⟨(45 :: DD).toArray⟩ Option.none (some 1) != Str.ofString "-")) = false
          rw [slice_one]
          decide +kernel
    case a3 =>
      refine' Tz.cast (Tz.andI (Tz.cmp (Ez.sliceS (kl := Option.none) (kh := some 1) ?b3 .none (.some ?b4) hll (fun _ _ => rfl)) Ez.str Cmp.eqS rfl) (fun hq => Tz.bool1 ?b1)) ?b2
      case b1 => k_clsL
      case b3 => k_places
      case b4 => k_places
      case b2 =>
        rw [hcs, slice_one]
        by_cases hone : one = 0
        · rw [decide_eq_true hone]; simp
        · have h1 := fg (by omega)
          have hq : 0 < one.natAbs / b ^ (S - 1) := Nat.div_pos h1 (Nat.pow_pos (by omega))
          have hq2 : one.natAbs / b ^ (S - 1) < b := by
            rw [Nat.div_lt_iff_lt_mul (Nat.pow_pos (by omega)), ← Nat.pow_succ']
            rw [show (S - 1).succ = S by omega]; exact fl
          have hdd : dgt b one.natAbs (S - 1) = one.natAbs / b ^ (S - 1) := Nat.mod_eq_of_lt hq2
          have hne : ((⟨#[fc (dgt b one.natAbs (S - 1))]⟩ : Str) == Str.ofString "0") = false := by
            rw [hdd]
            refine beq_eq_false_iff_ne.mpr fun h => ?_
            have h2 : fc (one.natAbs / b ^ (S - 1)) = 48 := by
              have := congrArg (fun s : Str => s.cps.toList) h
              rw [show (Str.ofString "0").cps.toList = [48] by decide +kernel] at this
              simpa using this
            have := fc_zero _ (by omega) h2
            omega
          rw [hne]; rfl
    case a5 => exact Ez.list Ezs.nil (Nat.zero_le _)
    case a4 =>
      refine' Ez.cast (Ez.comp (σc := [nv "base" (.int (b : Int)), nv "signs" (.str FG)]) (fun q => match q with | .str x => !Txt.contains (Txt.slice FG Option.none (some (b : Int))) x | _ => false) (fun q => q) ?d1 ?d2 ?d3 ?d4 ?d5 ?d6 ?d7 ?d8 ?d9 ?d10) ?eq
      case d1 => exact Form.name
      case d2 => o_fieldsN
      case d3 => rfl
      case d4 => rfl
      case d5 => exact CapOk.cons rfl (.int _) rfl (CapOk.cons rfl (.str _) rfl CapOk.nil)
      case d6 =>
        intro q hq
        obtain ⟨ch, hch, rfl⟩ := List.mem_map.mp hq
        refine ⟨_, AzP.name rfl, Ifs.one (Tz.cmp ?_ (Ez.sliceS (kl := Option.none) (kh := some (b : Int)) ?_ .none (.some ?_) (by decide) (fun _ _ => rfl)) Cmp.notIn rfl), fun _ => ?_⟩
        · k_places
        · k_places
        · k_places
        · k_places
      case d7 => intro q hq; obtain ⟨ch, hch, rfl⟩ := List.mem_map.mp hq; exact .str _
      case d8 => intro q hq _; obtain ⟨ch, hch, rfl⟩ := List.mem_map.mp hq; exact .str _
      case d9 => simp [signs]; omega
      case d10 => exact fun _ _ => rfl
      case eq =>
        refine congrArg PV.list ?_
        rw [List.map_eq_nil_iff, List.filter_eq_nil_iff]
        intro q hq
        obtain ⟨i, hi⟩ := List.mem_iff_getElem?.mp hq
        have hiS : i < S := by
          have := (List.getElem?_eq_some_iff.mp hi).1
          simp [signs] at this; omega
        have hp2 : (DD[i]?).map (fun c => PV.str ⟨#[c]⟩) = some q := by
          unfold signs at hi
          rw [List.getElem?_map] at hi
          exact hi
        rw [hDg i hiS] at hp2
        rw [← Option.some.inj hp2]
        have hdb : dgt b one.natAbs (S - (i + 1)) < b := Nat.mod_lt _ (by omega)
        dsimp only
        rw [in_base b (by omega) _ hdb]
        decide
    clear hll hlen hln hfig hDg hDl
    have hab : (ab one).natAbs = one.natAbs := by rw [ab_eq]; simp
    have hab0 : decide (ab one < 0) = false := decide_eq_false (by have := ab_nn one; omega)
    obtain ⟨L2, hL2'⟩ := LenB.ex (b := 2) (by decide) one.natAbs
    have hL22 : L2 ≤ 128 := hL2'.le (by decide) hb
    have hL2a : LenB (2 : Int).toNat (ab one).natAbs L2 := by rw [hab]; exact hL2'
    lcg_sub
    rw [hab, hab0, show (2 : Int).toNat = 2 from rfl]
    refine Sx.sub (σ := [nv "one" (.int one), nv "base" (.int (b : Int)), nv "signs" (.str FG), nv "bits" (.str (fig 2 one.natAbs L2 false))]) (by o_shape) ?_
    refine' Sx.for (fun i σ z => σ = [nv "one" (.int one), nv "base" (.int (b : Int)), nv "signs" (.str FG), nv "bits" (.str (fig 2 one.natAbs L2 false))] ∧ z = []) (Itz.listT ?e1) ?e2 ?e3 ?e4 ?e5
    case e1 => k_places
    case e2 => exact ⟨rfl, rfl⟩
    case e5 => exact fun _ _ => rfl
    case e4 =>
      rintro _ _ ⟨rfl, rfl⟩
      exact Sx.ret Ez.bool ⟨rfl, rfl⟩
    case e3 =>
      rintro i p _ _ hp ⟨rfl, rfl⟩
      have hpm : ∃ m : Nat, p = .tup [.int ((2 ^ m : Nat) : Int), .int (m : Int)] ∧ (m = 4 ∨ m = 3) := by
        match i, hp with
        | 0, hp => exact ⟨4, (Option.some.inj hp).symm, .inl rfl⟩
        | 1, hp => exact ⟨3, (Option.some.inj hp).symm, .inr rfl⟩
        | i + 2, hp => cases hp
      obtain ⟨m, rfl, hm⟩ := hpm
      refine ⟨_, Az.tup (xs := [(_, _), (_, _)]) rfl (by intro x hx; simp only [List.mem_cons, List.not_mem_nil, or_false] at hx; rcases hx with rfl | rfl <;> rfl), ?_⟩
      refine Sx.sub (σ := [nv "one" (.int one), nv "base" (.int (b : Int)), nv "signs" (.str FG), nv "bits" (.str (fig 2 one.natAbs L2 false)), nv "size" (.int ((2 ^ m : Nat) : Int)), nv "many" (.int (m : Int))]) (by o_shape) ?_
      have hm0 : (m : Int) ≠ 0 := by omega
      have hmp : 0 < m := by omega
      have hbl : (fig 2 one.natAbs L2 false).length = max L2 1 := by unfold fig; show Array.size _ = _; simp [dgs]
      have hlb : (fig 2 one.natAbs L2 false).length < 2 ^ 40 := by rw [hbl]; omega
      obtain ⟨r, K, hR, hr, hK⟩ : ∃ r K : Nat, ((0 : Int) - ((fig 2 one.natAbs L2 false).length : Int)).fmod (m : Int) = (r : Int) ∧ r < m ∧ K * m = max L2 1 + r := by
        have h1 := Int.fmod_nonneg_of_pos ((0 : Int) - ((fig 2 one.natAbs L2 false).length : Int)) (show (0 : Int) < (m : Int) by omega)
        have h2 := Int.fmod_lt_of_pos ((0 : Int) - ((fig 2 one.natAbs L2 false).length : Int)) (show (0 : Int) < (m : Int) by omega)
        have h3 := fdiv_fmod ((0 : Int) - ((fig 2 one.natAbs L2 false).length : Int)) (m : Int)
        rw [hbl] at *
        generalize ((0 : Int) - ((max L2 1 : Nat) : Int)).fmod (m : Int) = R at *
        generalize ((0 : Int) - ((max L2 1 : Nat) : Int)).fdiv (m : Int) = q at *
        have hq : q ≤ 0 := by
          rcases Int.lt_or_le 0 q with h | h
          · have := Int.mul_le_mul_of_nonneg_left (show 1 ≤ q by omega) (show (0 : Int) ≤ (m : Int) by omega); omega
          · exact h
        refine ⟨R.toNat, (-q).toNat, by omega, by omega, ?_⟩
        have h4 : (((-q).toNat * m : Nat) : Int) = -((m : Int) * q) := by rw [Int.natCast_mul, show (((-q).toNat : Nat) : Int) = -q by omega, Int.neg_mul, Int.mul_comm]
        omega
      have hr4 : r < 4 := by omega
      have hmul : MulOk (Str.ofString "0") (((0 : Int) - ((fig 2 one.natAbs L2 false).length : Int)).fmod (m : Int)) := by
        rw [hR]
        exact mulOk_of 1 4 (by decide) (by omega) (by omega) (by decide) (by decide)
      have hadd : (Txt.mul (Str.ofString "0") (((0 : Int) - ((fig 2 one.natAbs L2 false).length : Int)).fmod (m : Int))).length + (fig 2 one.natAbs L2 false).length ≤ 100000 := by
        rw [hR, mul_zeros r hr4, hbl]
        show Array.size _ + _ ≤ _
        simp; omega
      refine' Sx.assign (v := .str ⟨(List.replicate r 48 ++ (dgs 2 one.natAbs (max L2 1)).reverse).toArray⟩) (Ez.cast (Ez.bin (Ez.bin Ez.str ?w1 (Bin.mulS hmul)) ?w2 (Bin.addS hadd)) ?weq) ?wk ?ws2 ?wr
      case w1 => k_places
      case w2 => k_places
      case weq =>
        rw [hR, mul_zeros r hr4]
        refine congrArg PV.str ?_
        show (⟨_ ++ _⟩ : Str) = _
        unfold fig
        simp
      case wk => rfl
      case ws2 => exact fun _ => rfl
      have hKl : K ≤ 200 := by
        rcases hm with rfl | rfl <;> omega
      have hTl : (⟨(List.replicate r 48 ++ (dgs 2 one.natAbs (max L2 1)).reverse).toArray⟩ : Str).length = K * m := by
        show Array.size _ = _
        simp [dgs]; omega
      refine' Sx.assign (v := .str ⟨((dgs (2 ^ m) one.natAbs K).reverse).toArray⟩) (Ez.cast (Ez.meth1 (T := "str") (id := "str.join") Ez.str TyOf.str ?m1 rfl ?m2 F.plainAttrs_str F.slot_str_join F.type_str_join
        (Ez.cast (Ez.comp (σc := [nv "signs" (.str FG), nv "many" (.int (m : Int)), nv "wide" (.str ⟨(List.replicate r 48 ++ (dgs 2 one.natAbs (max L2 1)).reverse).toArray⟩)]) (fun _ => true) (fun q => match q with | .int at' => .str ⟨#[fc (dgt (2 ^ m) one.natAbs (K - 1 - at'.toNat / m))]⟩ | _ => .none) ?d1 ?d2 ?d3 ?d4 ?d5 ?d6 ?d7 ?d8 ?d9 ?d10) ?meq)
        (Me.join (l := ((dgs (2 ^ m) one.natAbs K).reverse).map fun c => (⟨#[c]⟩ : Str)) (join_ok _ (by simp [dgs]; omega)))) ?jeq) ?jk ?js ?jr
      case m1 => exact fun _ => rfl
      case m2 => rfl
      case jeq => exact congrArg PV.str (join_singles _)
      case jk => rfl
      case js => exact fun _ => rfl
      case d1 => exact Form.name
      case d3 => rfl
      case d4 => rfl
      case d5 => exact CapOk.cons rfl (.str _) rfl (CapOk.cons rfl (.int _) rfl (CapOk.cons rfl (.str _) rfl CapOk.nil))
      case d10 => exact fun _ _ => rfl
      case d7 => intro q hq; obtain ⟨i, hi, rfl⟩ := mem_range' hq; exact .int _
      case d8 => intro q hq _; obtain ⟨i, hi, rfl⟩ := mem_range' hq; exact .str _
      case d2 =>
        refine' Itz.range3 (a := 0) (b := ((K * m : Nat) : Int)) (st := (m : Int)) (N := K) ?g1 ?g2 ?g3 ?g4 ?g5 rfl ?g6 hm0 ?g7 ?g8 ?g9
        case g1 => rfl
        case g2 => kba_ints
        case g3 => kba_ints
        case g4 => decide
        case g5 => rfl
        case g6 =>
          have hTl2 : (⟨(List.replicate r 48 ++ (dgs 2 one.natAbs (max L2 1)).reverse).toArray⟩ : Str).length < 2 ^ 40 := by rw [hTl]; rcases hm with rfl | rfl <;> omega
          refine' Ezs.cons ?q1 (Ezs.cons (Ez.cast ?q2 ?q3) (Ezs.cons ?q4 Ezs.nil rfl) rfl) rfl
          case q1 => k_places
          case q2 => k_places
          case q3 => rw [hTl]
          case q4 => k_places
        case g7 => exact (Bd.noPy (k := 40) (by unfold Bd; rcases hm with rfl | rfl <;> decide) rfl)
        case g9 =>
          unfold Builtin.Range.rangeSize
          rw [if_pos (show (m : Int) > 0 by omega)]
          rcases hm with rfl | rfl <;> split <;> omega
        case g8 =>
          have hN : Builtin.Range.rangeSize 0 ((K * m : Nat) : Int) (m : Int) = (K : Int) := by
            unfold Builtin.Range.rangeSize
            rw [if_pos (show (m : Int) > 0 by omega)]
            rcases hm with rfl | rfl <;> split <;> omega
          unfold Builtin.Range.small
          rw [hN, if_pos (show (m : Int) > 0 by omega)]
          simp only [Builtin.Range.rangeFitsLong, Bool.and_eq_true, Bool.or_eq_true, decide_eq_true_eq, beq_iff_eq]
          rcases hm with rfl | rfl <;> omega
      case d9 => simp only [rangeItems, List.length_map, List.length_range]; omega
      case meq =>
        refine congrArg PV.list ?_
        rw [List.filter_eq_self.mpr (fun _ _ => rfl), rev_dgs]
        unfold rangeItems
        rw [List.map_map, List.map_map, List.map_map]
        refine List.map_congr_left fun i hi => ?_
        show PV.str ⟨#[fc (dgt (2 ^ m) one.natAbs (K - 1 - ((0 : Int) + (i : Int) * (m : Int)).toNat / m))]⟩ = PV.str ⟨#[fc (dgt (2 ^ m) one.natAbs (K - 1 - i))]⟩
        rw [show ((0 : Int) + (i : Int) * (m : Int)).toNat = i * m by rw [Int.zero_add, ← Int.natCast_mul, Int.toNat_natCast], Nat.mul_div_cancel _ hmp]
      case d6 =>
        intro q hq
        obtain ⟨i, hi, rfl⟩ := mem_range' hq
        have hWl : (List.replicate r 48 ++ (dgs 2 one.natAbs (max L2 1)).reverse).length = K * m := by simp [dgs]; omega
        have hwl : (⟨(List.replicate r 48 ++ (dgs 2 one.natAbs (max L2 1)).reverse).toArray⟩ : Str).length ≤ 100000 := by rw [hTl]; rcases hm with rfl | rfl <;> omega
        have him : i * m + m ≤ K * m := by rw [← Nat.succ_mul]; exact Nat.mul_le_mul_right m hi
        obtain ⟨fl2, _⟩ := fig_facts (by decide) hL2'
        have hsl := chunk_slice (W := List.replicate r 48 ++ (dgs 2 one.natAbs (max L2 1)).reverse) (j := i) (m := m) (f := fun k => fc (dgt 2 one.natAbs (K * m - 1 - (i * m + k)))) (by rw [hWl]; exact him) (fun k hk => wide_get fl2 hK (by omega))
        have hd36 : dgt (2 ^ m) one.natAbs (K - 1 - i) < 36 := by
          unfold dgt
          rcases hm with rfl | rfl <;> omega
        have hsum : ((List.range m).map fun k => ((dgt 2 one.natAbs (K * m - 1 - (i * m + k)) : Nat) : Int) * 2 ^ (m - 1 - k)).sum = ((dgt (2 ^ m) one.natAbs (K - 1 - i) : Nat) : Int) := by
          rcases hm with rfl | rfl
          · rw [← chunk4]
            simp only [List.range, List.range.loop, List.map_cons, List.map_nil, List.sum_cons, List.sum_nil]
            rw [show K * 4 - 1 - (i * 4 + 0) = (K - 1 - i) * 4 + 3 by omega, show K * 4 - 1 - (i * 4 + 1) = (K - 1 - i) * 4 + 2 by omega, show K * 4 - 1 - (i * 4 + 2) = (K - 1 - i) * 4 + 1 by omega, show K * 4 - 1 - (i * 4 + 3) = (K - 1 - i) * 4 by omega]
            omega
          · rw [← chunk3]
            simp only [List.range, List.range.loop, List.map_cons, List.map_nil, List.sum_cons, List.sum_nil]
            rw [show K * 3 - 1 - (i * 3 + 0) = (K - 1 - i) * 3 + 2 by omega, show K * 3 - 1 - (i * 3 + 1) = (K - 1 - i) * 3 + 1 by omega, show K * 3 - 1 - (i * 3 + 2) = (K - 1 - i) * 3 by omega]
            omega
        have hps : pairsOf (signs ⟨((List.range m).map fun k => fc (dgt 2 one.natAbs (K * m - 1 - (i * m + k)))).toArray⟩) = (List.range m).map (fun (k : Nat) => PV.tup [.int (k : Int), .str ⟨#[fc (dgt 2 one.natAbs (K * m - 1 - (i * m + k)))]⟩]) := by
          rw [← pairs_gen]
          unfold signs
          simp
          rfl
        have hbit : ∀ k, fc (dgt 2 one.natAbs (K * m - 1 - (i * m + k))) = 48 + dgt 2 one.natAbs (K * m - 1 - (i * m + k)) ∧ dgt 2 one.natAbs (K * m - 1 - (i * m + k)) < 2 := fun k => by
          have : dgt 2 one.natAbs (K * m - 1 - (i * m + k)) < 2 := Nat.mod_lt _ (by decide)
          exact ⟨fc_ten _ (by omega), this⟩
        refine ⟨_, AzP.name rfl, Ifs.nil, fun _ => ?_⟩
        refine' Ez.item (a := .str FG) (k := ((dgt (2 ^ m) one.natAbs (K - 1 - i) : Nat) : Int)) ?s1 ?s2 ?s3 (fun _ _ => rfl)
        case s1 => k_places
        case s3 =>
          refine ⟨by omega, by omega, _, by rw [Int.toNat_natCast]; exact fc_get _ hd36, ?_⟩
          show PV.str ⟨#[fc (dgt (2 ^ m) one.natAbs (K - 1 - ((0 : Int) + (i : Int) * (m : Int)).toNat / m))]⟩ = _
          rw [show ((0 : Int) + (i : Int) * (m : Int)).toNat = i * m by rw [Int.zero_add, ← Int.natCast_mul, Int.toNat_natCast], Nat.mul_div_cancel _ hmp]
        case s2 =>
          refine' Ez.cast (Ez.callB ?k1 ?k2 ?k3 ?k4 ?k5 ?k6 (Ezs.cons (Ez.cast (Ez.comp (σc := [nv "many" (.int (m : Int))]) (fun _ => true) (fun q => match q with | .tup [.int k, .str x] => .int ((((x.cps.toList.headD 48) - 48 : Nat) : Int) * 2 ^ ((m : Int) - 1 - k).toNat) | _ => .none) ?i1 ?i2 ?i3 ?i4 ?i5 ?i6 ?i7 ?i8 ?i9 ?i10) ?ieq) Ezs.nil rfl) (Bi.sum (l := (List.range m).map fun k => ((dgt 2 one.natAbs (K * m - 1 - (i * m + k)) : Nat) : Int) * 2 ^ (m - 1 - k)))) ?isum
          case k1 => rfl
          case k2 => kba_ints
          case k3 => kba_ints
          case k4 => decide
          case k5 => rfl
          case k6 => rfl
          case isum => rw [hsum]
          case i1 => exact Form.tuple
          case i2 =>
            refine' Itz.enumS ?h1 ?h2 ?h3 ?h4 ?h5 rfl (Ez.cast (Ez.sliceS (kl := some ((0 : Int) + (i : Int) * (m : Int))) (kh := some ((0 : Int) + (i : Int) * (m : Int) + (m : Int))) ?h6 (.some ?h7) (.some ?h8) hwl (fun _ _ => rfl)) (congrArg PV.str hsl))
            case h1 => rfl
            case h2 => kba_ints
            case h3 => kba_ints
            case h4 => decide
            case h5 => rfl
            case h6 => k_places
            case h7 => k_places
            case h8 => k_places
          case i3 => rfl
          case i4 => rfl
          case i5 => exact CapOk.cons rfl (.int _) rfl CapOk.nil
          case i6 =>
            intro q hq
            rw [hps] at hq
            obtain ⟨k, hk, rfl⟩ := List.mem_map.mp hq
            have hk := List.mem_range.mp hk
            have hd2 := hbit k
            have hct := digit_text (c := fc (dgt 2 one.natAbs (K * m - 1 - (i * m + k)))) (by rw [hd2.1]; omega)
            have hcl : (Str.mk #[fc (dgt 2 one.natAbs (K * m - 1 - (i * m + k)))]).length ≤ 640 := by show 1 ≤ 640; decide
            have hk0 : (0 : Int) ≤ (m : Int) - 1 - (k : Int) := by omega
            have hk1 : (↑(Builtin.Int.intBits 2) * ((m : Int) - 1 - (k : Int)) : Int) ≤ 2 ^ 27 := by rw [show Builtin.Int.intBits 2 = 2 by decide]; omega
            have hmu : IntMulOk ((fc (dgt 2 one.natAbs (K * m - 1 - (i * m + k))) - 48 : Nat) : Int) (2 ^ ((m : Int) - 1 - (k : Int)).toNat) := IntMulOk.of_left (intBits_le_64 (by omega) (by omega))
            refine ⟨_, AzP.tup (xs := [(_, _), (_, _)]) rfl (by intro x hx; simp only [List.mem_cons, List.not_mem_nil, or_false] at hx; rcases hx with rfl | rfl <;> rfl), Ifs.nil, fun _ => ?_⟩
            show Ez _ _ _ _ _ _ _ (.int (((fc (dgt 2 one.natAbs (K * m - 1 - (i * m + k))) - 48 : Nat) : Int) * 2 ^ ((m : Int) - 1 - (k : Int)).toNat)) _
            k_places
          case i7 =>
            intro q hq
            rw [hps] at hq
            obtain ⟨k, hk, rfl⟩ := List.mem_map.mp hq
            exact .tup (.cons (.int _) (.cons (.str _) .nil))
          case i8 =>
            intro q hq _
            rw [hps] at hq
            obtain ⟨k, hk, rfl⟩ := List.mem_map.mp hq
            exact .int _
          case i9 => rw [hps]; simp; omega
          case i10 => exact fun _ _ => rfl
          case ieq =>
            refine congrArg PV.list ?_
            rw [hps, List.filter_eq_self.mpr (fun _ _ => rfl), List.map_map, List.map_map]
            refine List.map_congr_left fun k hk => ?_
            have hk := List.mem_range.mp hk
            have hd2 := hbit k
            show PV.int (((fc (dgt 2 one.natAbs (K * m - 1 - (i * m + k))) - 48 : Nat) : Int) * 2 ^ ((m : Int) - 1 - (k : Int)).toNat) = PV.int (((dgt 2 one.natAbs (K * m - 1 - (i * m + k)) : Nat) : Int) * 2 ^ (m - 1 - k))
            rw [show fc (dgt 2 one.natAbs (K * m - 1 - (i * m + k))) - 48 = dgt 2 one.natAbs (K * m - 1 - (i * m + k)) by omega, show ((m : Int) - 1 - (k : Int)).toNat = m - 1 - k by omega]
      case jr =>
        obtain ⟨Lm, hLm⟩ := LenB.ex (b := 2 ^ m) (by rcases hm with rfl | rfl <;> decide) one.natAbs
        have hcl := chunk_len hL2' hLm hmp hK hr
        have hLm2 : Lm ≤ 128 := hLm.le (by rcases hm with rfl | rfl <;> decide) hb
        have hLma : LenB (((2 ^ m : Nat) : Int)).toNat (ab one).natAbs Lm := by rw [hab, Int.toNat_natCast]; exact hLm
        have hq2 : (2 : Int) ≤ ((2 ^ m : Nat) : Int) := by rcases hm with rfl | rfl <;> decide
        have hq36 : ((2 ^ m : Nat) : Int) ≤ 36 := by rcases hm with rfl | rfl <;> decide
        wrow_raised
        · rw [hab, hab0, Int.toNat_natCast]
          unfold fig
          rw [hcl]
          simp
        exact Sx.nil ⟨_, by o_shape, rfl, rfl⟩
local macro_rules | `(tactic| k_subL) => `(tactic| with_reducible exact f_figures_right _ _ ‹_› (by first | assumption | omega) (by first | assumption | omega))

theorem top_bits (x : Int) : ∃ m : Nat, Builtin.Int.intBits (if decide (x < 0) = true then Builtin.bitNot x else x) = m ∧ -(2 ^ m) ≤ x ∧ x < 2 ^ m ∧ (0 < m → (0 ≤ x → 2 ^ (m - 1) ≤ x) ∧ (x < 0 → x < -(2 ^ (m - 1)))) := by
  refine ⟨_, rfl, ?_⟩
  have hv : ∃ v : Nat, (if decide (x < 0) = true then Builtin.bitNot x else x) = (v : Int) ∧ (0 ≤ x → x = v) ∧ (x < 0 → x = -(v : Int) - 1) := by
    by_cases h : x < 0
    · exact ⟨(-x - 1).toNat, by rw [decide_eq_true h, if_pos rfl]; unfold Builtin.bitNot; omega, by omega, by omega⟩
    · exact ⟨x.toNat, by rw [decide_eq_false h, if_neg (by decide)]; omega, by omega, by omega⟩
  obtain ⟨v, e, h1, h2⟩ := hv
  rw [e]
  have hb := Bd.ofBits (v : Int)
  unfold Bd at hb
  rw [Int.natAbs_natCast] at hb
  have hb' : (v : Int) < 2 ^ Builtin.Int.intBits (v : Int) := by
    have : ((2 ^ Builtin.Int.intBits (v : Int) : Nat) : Int) = 2 ^ Builtin.Int.intBits (v : Int) := by simp
    omega
  refine ⟨by omega, by omega, fun hm => ?_⟩
  have hv0 : v ≠ 0 := by rintro rfl; exact absurd hm (by decide)
  have hl : 2 ^ (Builtin.Int.intBits (v : Int) - 1) ≤ v := by
    unfold Builtin.Int.intBits
    rw [if_neg (by simpa using hv0), Int.natAbs_natCast, Nat.add_sub_cancel]
    exact Nat.log2_self_le hv0
  have hl' : (2 : Int) ^ (Builtin.Int.intBits (v : Int) - 1) ≤ (v : Int) := by
    have : ((2 ^ (Builtin.Int.intBits (v : Int) - 1) : Nat) : Int) = 2 ^ (Builtin.Int.intBits (v : Int) - 1) := by simp
    omega
  exact ⟨by omega, by omega⟩
theorem ediv_one {x P q : Int} (hp : 0 < P) (h1 : q * P ≤ x) (h2 : x < (q + 1) * P) : x / P = q := by
  have h3 := (Int.le_ediv_iff_mul_le hp).mpr h1
  have h4 := (Int.ediv_lt_iff_lt_mul hp).mpr h2
  omega
theorem bt_high {x : Int} {m : Nat} (h1 : -(2 ^ m) ≤ x) (h2 : x < 2 ^ m) : bt m x = if x < 0 then 1 else 0 := by
  have hp := pow2_pos m
  rw [bt_eq]
  split
  · rw [ediv_one (q := -1) hp (by omega) (by omega)]; rfl
  · rw [ediv_one (q := 0) hp (by omega) (by omega)]; rfl
theorem bt_high1 {x : Int} {m : Nat} (h1 : -(2 ^ m) ≤ x) (h2 : x < 2 ^ m) : bt (m + 1) x = if x < 0 then 1 else 0 :=
  bt_high (by have := pow2_pos m; rw [Int.pow_succ]; omega) (by have := pow2_pos m; rw [Int.pow_succ]; omega)
theorem bt_top {x : Int} {m : Nat} (hm : 0 < m) (h1 : -(2 ^ m) ≤ x) (h2 : x < 2 ^ m) (h3 : (0 ≤ x → 2 ^ (m - 1) ≤ x) ∧ (x < 0 → x < -(2 ^ (m - 1)))) : bt (m - 1) x = if x < 0 then 0 else 1 := by
  obtain ⟨j, rfl⟩ : ∃ j, m = j + 1 := ⟨m - 1, by omega⟩
  rw [Int.pow_succ] at h1 h2
  rw [Nat.add_sub_cancel] at *
  have hp := pow2_pos j
  rw [bt_eq]
  split
  · rw [ediv_one (q := -2) hp (by omega) (by have := h3.2 (by assumption); omega)]; rfl
  · rw [ediv_one (q := 1) hp (by have := h3.1 (by omega); omega) (by omega)]; rfl
theorem fmod_top {x : Int} {m : Nat} (h1 : -(2 ^ m) ≤ x) (h2 : x < 2 ^ m) : x.fmod (2 ^ m) - (if x < 0 then 2 ^ m else 0) = x := by
  have hp := pow2_pos m
  by_cases h : x < 0
  · rw [if_pos h, fmod_eq (r := x + 2 ^ m) (by unfold InR; omega) ⟨-1, by omega⟩]; omega
  · rw [if_neg h, fmod_eq (r := x) (by unfold InR; omega) ⟨0, by omega⟩]; omega
theorem and_range {n : Nat} : ∀ {x y : Int}, -(2 ^ n) ≤ x → x < 2 ^ n → -(2 ^ n) ≤ y → y < 2 ^ n → -(2 ^ n) ≤ Builtin.bitAnd x y ∧ Builtin.bitAnd x y < 2 ^ n := by
  induction n with
  | zero => intro x y a b c d; simp at a b c d; (have hx : x = 0 ∨ x = -1 := by omega); (have hy : y = 0 ∨ y = -1 := by omega); rcases hx with rfl | rfl <;> rcases hy with rfl | rfl <;> decide
  | succ n ih =>
    intro x y a b c d
    rw [Int.pow_succ] at *
    obtain ⟨e, f⟩ := ih (x := x / 2) (y := y / 2) (by omega) (by omega) (by omega) (by omega)
    rw [and_rec]
    have p : ((x % 2) * (y % 2) = 0 ∨ (x % 2) * (y % 2) = 1) := by rcases Int.emod_two_eq x with h1 | h1 <;> rcases Int.emod_two_eq y with h2 | h2 <;> rw [h1, h2] <;> simp
    omega
theorem bits_bd {x y : Int} (hx : Bd 128 x) (hy : Bd 128 y) : Bd 8000 (Builtin.bitAnd x y) ∧ Bd 8000 (Builtin.bitOr x y) ∧ Bd 8000 (Builtin.bitXor x y) := by
  have h1 : Bd 129 (Builtin.bitAnd x y) := by
    unfold Bd at *
    have := and_range (n := 128) (x := x) (y := y) (by omega) (by omega) (by omega) (by omega)
    omega
  have h2 : Bd 130 (Builtin.bitOr x y) := by
    rw [show Builtin.bitOr x y = x + y - Builtin.bitAnd x y by have := and_or_sum x y; omega]
    exact (hx.add hy).sub h1
  exact ⟨h1.mono (by decide), h2.mono (by decide), (Bd.sub h2 (h1.mono (by decide))).mono (by decide)⟩
theorem fdiv_fdiv_pow (x : Int) (a b : Nat) : (x.fdiv (2 ^ a)).fdiv (2 ^ b) = x.fdiv (2 ^ (a + b)) := by
  rw [Int.fdiv_eq_ediv_of_nonneg _ (Int.le_of_lt (pow2_pos a)), Int.fdiv_eq_ediv_of_nonneg _ (Int.le_of_lt (pow2_pos b)), Int.fdiv_eq_ediv_of_nonneg _ (Int.le_of_lt (pow2_pos _)), Int.ediv_ediv_of_nonneg (Int.le_of_lt (pow2_pos a)), Int.pow_add]
theorem bt_shift (x : Int) (a k : Nat) : bt (a + k) x = bt k (x.fdiv (2 ^ a)) := by unfold bt; rw [fdiv_fdiv_pow]
theorem range_list {g : PV → PV} {f : Nat → Int} (N : Nat) (h : ∀ i : Nat, i < N → g (.int (0 + (i : Int) * 1)) = .int (f i)) : ((rangeItems 0 1 N).filter (fun _ => true)).map g = ((List.range N).map f).map PV.int := by
  rw [List.filter_eq_self.mpr (fun _ _ => rfl)]
  unfold rangeItems
  rw [List.map_map, List.map_map]
  refine List.map_congr_left fun i hi => ?_
  exact h i (List.mem_range.mp hi)
theorem pairs_eq {f' : Nat → Int} (N : Nat) : pairsOf (((List.range N).map f').map PV.int) = (List.range N).map (fun (i : Nat) => PV.tup [.int (i : Int), .int (f' i)]) := by
  refine List.ext_getElem? fun i => ?_
  unfold pairsOf
  rw [List.getElem?_map, List.getElem?_zipIdx, List.getElem?_map, List.getElem?_map, List.getElem?_map]
  by_cases hi : i < N
  · rw [List.getElem?_range hi]; simp
  · rw [List.getElem?_eq_none (by simpa using hi)]; rfl
theorem mem_pairs {q : PV} {f' : Nat → Int} {N : Nat} (h : q ∈ pairsOf (((List.range N).map f').map PV.int)) : ∃ i : Nat, i < N ∧ q = .tup [.int (i : Int), .int (f' i)] := by
  rw [pairs_eq] at h
  obtain ⟨i, hi, rfl⟩ := List.mem_map.mp h
  exact ⟨i, List.mem_range.mp hi, rfl⟩
theorem pairs_list {g : PV → PV} {f : Nat → Int} {f' : Nat → Int} (N : Nat) (h : ∀ i : Nat, i < N → g (.tup [.int (i : Int), .int (f' i)]) = .int (f i)) : ((pairsOf (((List.range N).map f').map PV.int)).filter (fun _ => true)).map g = ((List.range N).map f).map PV.int := by
  rw [List.filter_eq_self.mpr (fun _ _ => rfl), pairs_eq, List.map_map, List.map_map]
  refine List.map_congr_left fun i hi => ?_
  exact h i (List.mem_range.mp hi)
theorem mem_range {q : PV} {N : Nat} (h : q ∈ rangeItems 0 1 N) : ∃ i : Nat, i < N ∧ q = .int (0 + (i : Int) * 1) := by
  unfold rangeItems at h
  obtain ⟨i, hi, rfl⟩ := List.mem_map.mp h
  exact ⟨i, List.mem_range.mp hi, rfl⟩
theorem clipAt_nat {n m : Nat} (h : m ≤ n) : clipAt n (m : Int) = m := by unfold clipAt; rw [if_neg (by omega)]; omega
theorem sl_take {α : Type} (l : List α) (m : Nat) (h : m ≤ l.length) : sl l Option.none (some (m : Int)) = l.take m := by
  show (l.drop 0).take (clipAt l.length (m : Int) - 0) = l.take m
  rw [clipAt_nat h]; rfl
theorem sl_drop {α : Type} (l : List α) (m : Nat) (h : m ≤ l.length) : sl l (some (m : Int)) Option.none = l.drop m := by
  show (l.drop (clipAt l.length (m : Int))).take (l.length - clipAt l.length (m : Int)) = l.drop m
  rw [clipAt_nat h, List.take_of_length_le (by simp)]
theorem f_bits_right (one two spot width : Int) (hb1 : Bd 128 one) (hb2 : Bd 128 two) (h0 : 0 ≤ spot) (h1 : spot < 9) (h2 : 0 ≤ width) (h3 : width < 12) : Fn (XK Y) 6 607 [.int one, .int two, .int spot, .int width] (.bool true) := by
  refine Fn.of (names := ["one", "two", "spot", "width"]) (n := 5) (by rfl) (by rfl) (by rfl) (by rfl) (by rfl) (by rfl) (by rfl) (by decide) (by rfl) (by decide) (by rfl) (by rfl) (by decide) (len4 fun a0 a1 a2 a3 => by rfl) (by rfl) (by rfl) ?_
  dsimp only [addAll]
  obtain ⟨m, em, t1, t2, t3⟩ := top_bits one
  have hb1' : Bd 8000 one := hb1.mono (by decide)
  have hb2' : Bd 8000 two := hb2.mono (by decide)
  have hm128 : m ≤ 129 := by
    rw [← em]
    refine Bd.bits ?_
    split
    · exact (show Bd 129 (-one - 1) from Bd.sub hb1.neg (Bd.lit (by decide)))
    · exact hb1.mono (by decide)
  lcg_sub
  rw [em]
  refine Sx.sub (σ := [nv "one" (.int one), nv "two" (.int two), nv "spot" (.int spot), nv "width" (.int width), nv "many" (.int (m : Int))]) (by o_shape) ?_
  refine' Sx.assignComp (σc := [nv "one" (.int one)]) (fun _ => true) (fun q => match q with | .int k => .int ((one.fdiv (2 ^ k.toNat)).fmod 2) | _ => .none) ?c1 ?c2 ?c3 ?c4 ?c5 ?c6 ?c7 ?c8 ?c9 ?c10 ?c11 ?c12 ?c13
  case c1 => exact Form.name
  case c2 => o_fieldsN
  case c3 => rfl
  case c4 => rfl
  case c5 => exact CapOk.cons rfl (.int _) rfl CapOk.nil
  case c6 =>
    intro q hq
    obtain ⟨i, hi, rfl⟩ := mem_range hq
    have hi0 : 0 ≤ (0 : Int) + (i : Int) * 1 := by omega
    exact ⟨_, AzP.name rfl, Ifs.nil, fun _ => by k_places⟩
  case c7 => intro q hq; obtain ⟨i, hi, rfl⟩ := mem_range hq; exact .int _
  case c8 => intro q hq _; obtain ⟨i, hi, rfl⟩ := mem_range hq; exact .int _
  case c9 => simp only [rangeItems, List.length_map, List.length_range]; omega
  case c10 => exact fun _ _ => rfl
  case c11 => rfl
  case c12 => intro env he; unfold swapsWith Env.blockKind Env.kindOf; rw [he]; rfl
  rw [range_list (f := fun k => bt k one) _ (fun i hi => by show PV.int ((one.fdiv (2 ^ ((0 : Int) + (i : Int) * 1).toNat)).fmod 2) = _; rw [show ((0 : Int) + (i : Int) * 1).toNat = i by omega]; rfl), show ((m : Int) + 2).toNat = m + 2 by omega]
  show Sx _ _ _ _ (nv "line" (.list (((List.range (m + 2)).map fun k => bt k one).map PV.int)) :: nv "one" (.int one) :: nv "two" (.int two) :: nv "spot" (.int spot) :: nv "width" (.int width) :: nv "many" (.int (m : Int)) :: []) _ _ _
  have hlen : (((List.range (m + 2)).map fun k => bt k one).map PV.int).length ≤ 100000 := by simp; omega
  have hm0 : (0 : Int) ≤ (m : Int) := by omega
  have hpw : (↑(Builtin.Int.intBits 2) * (m : Int) : Int) ≤ 2 ^ 27 := by rw [show Builtin.Int.intBits 2 = 2 by decide]; omega
  have etake : sl (((List.range (m + 2)).map fun k => bt k one).map PV.int) Option.none (some (m : Int)) = ((List.range m).map fun k => bt k one).map PV.int := by
    rw [sl_map, sl_take _ _ (by simp), ← List.map_take, List.take_range, show min m (m + 2) = m by omega]
  have edrop : sl (((List.range (m + 2)).map fun k => bt k one).map PV.int) (some (m : Int)) Option.none = [bt m one, bt (m + 1) one].map PV.int := by
    rw [sl_map, sl_drop _ _ (by simp), ← List.map_drop, List.range_succ, List.range_succ, List.append_assoc, List.drop_left' (by simp)]
    rfl
  refine' Sx.ifF (Tz.orI (Tz.cmp (Ez.bin ?sm ?pw ?sb) ?nm ?nq ?nk) (fun _ => Tz.bool1 (Tz.cmp ?xl ?xr ?xq ?xk))) ?xb ?xrest
  case sm =>
    refine' Ez.callB ?k1 ?k2 ?k3 ?k4 ?k5 ?k6 (Ezs.cons (Ez.cast (Ez.comp (σc := []) (fun _ => true) (fun q => match q with | .tup [.int k, .int b] => .int (b * 2 ^ k.toNat) | _ => .none) ?d1 ?d2 ?d3 ?d4 ?d5 ?d6 ?d7 ?d8 ?d9 ?d10) ?eq) Ezs.nil rfl) (Bi.sum (l := (List.range m).map fun k => bt k one * 2 ^ k))
    case k1 => rfl
    case k2 => kba_ints
    case k3 => kba_ints
    case k4 => decide
    case k5 => rfl
    case k6 => rfl
    case d1 => exact Form.tuple
    case d2 =>
      refine' Itz.enumL ?g1 ?g2 ?g3 ?g4 ?g5 rfl (Ez.cast (Ez.sliceL (kl := Option.none) (kh := some (m : Int)) ?g6 .none (.some ?g7) hlen (fun _ _ => rfl)) (congrArg PV.list etake))
      case g1 => rfl
      case g2 => kba_ints
      case g3 => kba_ints
      case g4 => decide
      case g5 => rfl
      case g6 => k_places
      case g7 => k_places
    case eq => exact congrArg PV.list (pairs_list m fun i hi => rfl)
    case d3 => rfl
    case d4 => rfl
    case d5 => exact CapOk.nil
    case d6 =>
      intro q hq
      obtain ⟨i, hi, rfl⟩ := mem_pairs hq
      have hi0 : (0 : Int) ≤ (i : Int) := by omega
      have hi1 : (↑(Builtin.Int.intBits 2) * (i : Int) : Int) ≤ 2 ^ 27 := by rw [show Builtin.Int.intBits 2 = 2 by decide]; omega
      have hmu : IntMulOk (bt i one) (2 ^ (i : Int).toNat) := IntMulOk.of_left (intBits_le_64 (by have := bt_01 i one; omega) (by have := bt_01 i one; omega))
      exact ⟨_, AzP.tup (xs := [(_, _), (_, _)]) rfl (by intro x hx; simp only [List.mem_cons, List.not_mem_nil, or_false] at hx; rcases hx with rfl | rfl <;> rfl), Ifs.nil, fun _ => by k_places⟩
    case d7 => intro q hq; obtain ⟨i, hi, rfl⟩ := mem_pairs hq; exact .tup (.cons (.int _) (.cons (.int _) .nil))
    case d8 => intro q hq _; obtain ⟨i, hi, rfl⟩ := mem_pairs hq; exact .int _
    case d9 => rw [pairsOf_len]; simp; omega
    case d10 => exact fun _ _ => rfl
  case pw => k_places
  case sb => exact Bin.sub
  case nm => k_places
  case nq => exact Cmp.ne
  case nk => rfl
  case xl =>
    refine' Ez.cast (Ez.sliceL (kl := some (m : Int)) (kh := Option.none) ?g6 (.some ?g7) .none hlen (fun _ _ => rfl)) (congrArg PV.list edrop)
    case g6 => k_places
    case g7 => k_places
  case xr =>
    refine' Ez.cast (w := .list ([if decide (one < 0) = true then 1 else 0, if decide (one < 0) = true then 1 else 0].map PV.int)) (Ez.bin (Ez.list ?g8 ?g9) Ez.int (Bin.mulL (by decide) (by decide) ?g10 ?g11 ?g12)) ?g13
    case g8 => k_places
    case g9 => exact Nat.le_of_ble_eq_true rfl
    case g10 => exact Nat.le_of_ble_eq_true rfl
    case g11 => exact all_sc rfl
    case g12 => intro h; cases h
    case g13 => rfl
  case xq => exact Cmp.neL
  case xk => rfl
  case xb =>
    rw [sum_bits, bt_high t1 t2, bt_high1 t1 t2]
    simp only [decide_eq_true_eq]
    rw [show (m : Int).toNat = m by omega, fmod_top t1 t2, decide_eq_true rfl, decide_eq_true trivial]
    rfl
  refine' Sx.ifF (Tz.orI (b := false) ?ya (fun _ => Tz.bool1 ?yb)) ?yc ?yrest
  case ya =>
    rcases Nat.eq_zero_or_pos m with hm | hm
    · refine' Tz.cast (Tz.boolStop ?y1 ?y2) ?y3
      case y1 => k_clsL
      case y2 => show (!decide ((0 : Int) < (m : Int))) = true; rw [decide_eq_false (by omega)]; rfl
      case y3 => exact decide_eq_false (by omega)
    · have hit : ItemOk (.list (((List.range (m + 2)).map fun k => bt k one).map PV.int)) ((m : Int) - 1) (.int (bt (m - 1) one)) := ⟨by omega, by omega, by
        show (((List.range (m + 2)).map fun k => bt k one).map PV.int)[((m : Int) - 1).toNat]? = _
        rw [show ((m : Int) - 1).toNat = m - 1 by omega, List.getElem?_map, List.getElem?_map, List.getElem?_range (by omega)]
        rfl⟩
      refine' Tz.cast (Tz.boolGo ?y1 ?y2 (Tz.bool1 ?y4)) ?y3
      case y1 => k_clsL
      case y2 => exact decide_eq_true (show (0 : Int) < (m : Int) by omega)
      case y4 => k_clsL
      case y3 =>
        rw [bt_top hm t1 t2 (t3 hm)]
        simp only [decide_eq_true_eq]
        by_cases hneg : one < 0
        · rw [if_pos hneg, if_pos hneg]; rfl
        · rw [if_neg hneg, if_neg hneg]; rfl
  case yb => k_clsL
  case yc => rfl
  have hsw : (↑(Builtin.Int.intBits 2) * spot : Int) ≤ 2 ^ 27 := by rw [show Builtin.Int.intBits 2 = 2 by decide]; omega
  refine' Sx.ifF (Tz.cmp ?za ?zb Cmp.ne rfl) ?zc ?zrest
  case za => k_places
  case zb =>
    refine' Ez.callB ?k1 ?k2 ?k3 ?k4 ?k5 ?k6 (Ezs.cons (Ez.cast (Ez.comp (σc := [nv "one" (.int one), nv "spot" (.int spot)]) (fun _ => true) (fun q => match q with | .int k => .int ((one.fdiv (2 ^ (spot + k).toNat)).fmod 2 * 2 ^ k.toNat) | _ => .none) ?d1 ?d2 ?d3 ?d4 ?d5 ?d6 ?d7 ?d8 ?d9 ?d10) ?eq) Ezs.nil rfl) (Bi.sum (l := (List.range width.toNat).map fun k => bt (spot.toNat + k) one * 2 ^ k))
    case k1 => rfl
    case k2 => kba_ints
    case k3 => kba_ints
    case k4 => decide
    case k5 => rfl
    case k6 => rfl
    case d1 => exact Form.name
    case d2 => o_fieldsN
    case eq =>
      refine congrArg PV.list (range_list _ fun i hi => ?_)
      show PV.int ((one.fdiv (2 ^ (spot + ((0 : Int) + (i : Int) * 1)).toNat)).fmod 2 * 2 ^ ((0 : Int) + (i : Int) * 1).toNat) = _
      rw [show (spot + ((0 : Int) + (i : Int) * 1)).toNat = spot.toNat + i by omega, show ((0 : Int) + (i : Int) * 1).toNat = i by omega]
      rfl
    case d3 => rfl
    case d4 => rfl
    case d5 => exact CapOk.cons rfl (.int _) rfl (CapOk.cons rfl (.int _) rfl CapOk.nil)
    case d6 =>
      intro q hq
      obtain ⟨i, hi, rfl⟩ := mem_range hq
      have hi0 : (0 : Int) ≤ 0 + (i : Int) * 1 := by omega
      have hi2 : (0 : Int) ≤ spot + (0 + (i : Int) * 1) := by omega
      have hi1 : (↑(Builtin.Int.intBits 2) * (0 + (i : Int) * 1) : Int) ≤ 2 ^ 27 := by rw [show Builtin.Int.intBits 2 = 2 by decide]; omega
      have hmu : IntMulOk ((one.fdiv (2 ^ (spot + ((0 : Int) + (i : Int) * 1)).toNat)).fmod 2) (2 ^ ((0 : Int) + (i : Int) * 1).toNat) := IntMulOk.of_left (intBits_le_64 (by have := bt_01 (spot + ((0 : Int) + (i : Int) * 1)).toNat one; unfold bt at this; omega) (by have := bt_01 (spot + ((0 : Int) + (i : Int) * 1)).toNat one; unfold bt at this; omega))
      exact ⟨_, AzP.name rfl, Ifs.nil, fun _ => by k_places⟩
    case d7 => intro q hq; obtain ⟨i, hi, rfl⟩ := mem_range hq; exact .int _
    case d8 => intro q hq _; obtain ⟨i, hi, rfl⟩ := mem_range hq; exact .int _
    case d9 => simp only [rangeItems, List.length_map, List.length_range]; omega
    case d10 => exact fun _ _ => rfl
  case zc =>
    simp only [bt_shift]
    rw [sum_bits, decide_eq_true rfl]; rfl
  have hP : Bd 10 (2 ^ spot.toNat) := by
    unfold Bd
    rw [Int.natAbs_pow]
    exact Nat.pow_lt_pow_right (by decide) (by omega)
  have hPp := pow2_pos spot.toNat
  have hG : Bd 8000 (one * 2 ^ spot.toNat) := (hb1.mul hP).mono (by decide)
  lcg_sub
  rw [show sh one spot = one * 2 ^ spot.toNat by unfold sh; rw [if_neg (by omega)]]
  wrow_raised
  · rw [Int.zero_sub, sh_neg h0, sh_neg h0, Int.mul_fdiv_cancel _ (by omega), decide_eq_true rfl, decide_eq_true rfl, decide_eq_true rfl]; rfl
  lcg_sub
  rw [sh_neg h0]
  have hq1 : Bd 129 (one.fdiv (2 ^ spot.toNat) + 1) := Bd.add hb1.fdiv (Bd.lit (by decide))
  wrow_raised
  · have e1 := fdiv_fmod one (2 ^ spot.toNat)
    have e2 := InR.fmod (a := one) (b := 2 ^ spot.toNat) (by omega)
    unfold InR at e2
    rw [Int.mul_comm] at e1
    rw [Int.add_mul, decide_eq_true (by omega), decide_eq_true (by omega)]; rfl
  obtain ⟨g1, g2, g3⟩ := bits_bd hb1 hb2
  lcg_sub
  obtain ⟨m', em', _, _, _⟩ := top_bits two
  have hm128' : m' ≤ 129 := by
    rw [← em']
    refine Bd.bits ?_
    split
    · exact (show Bd 129 (-two - 1) from Bd.sub hb2.neg (Bd.lit (by decide)))
    · exact hb2.mono (by decide)
  have hk0 : (0 : Int) ≤ mx (m : Int) ((Builtin.Int.intBits (if decide (two < 0) = true then Builtin.bitNot two else two) : Nat) : Int) + 1 := by rw [em', mx_eq]; omega
  have hk1 : mx (m : Int) ((Builtin.Int.intBits (if decide (two < 0) = true then Builtin.bitNot two else two) : Nat) : Int) + 1 < 2 ^ 40 := by rw [em', mx_eq]; omega
  refine Sx.sub (σ := [nv "one" (.int one), nv "two" (.int two), nv "many" (.int (m : Int)), nv "both" (.int (Builtin.bitAnd one two)), nv "some" (.int (Builtin.bitOr one two)), nv "unlike" (.int (Builtin.bitXor one two))]) (by o_shape) ?_
  refine' Sx.forR (J := fun i σ z => σ = [nv "one" (.int one), nv "two" (.int two), nv "many" (.int (m : Int)), nv "both" (.int (Builtin.bitAnd one two)), nv "some" (.int (Builtin.bitOr one two)), nv "unlike" (.int (Builtin.bitXor one two))] ∧ z = []) ?wi ?wy ?w0 ?wt ?wd ?ws
  case wi => o_fieldsN
  case wy => rfl
  case ws => exact fun _ _ => rfl
  case w0 => exact ⟨rfl, rfl⟩
  case wt =>
    rintro i _ _ hi ⟨rfl, rfl⟩
    have hi0 : (0 : Int) ≤ (i : Int) := by omega
    lcg_sub
    have hmu : IntMulOk ((one.fdiv (2 ^ (i : Int).toNat)).fmod 2) ((two.fdiv (2 ^ (i : Int).toNat)).fmod 2) := IntMulOk.of_left (intBits_le_64 (by have := bt_01 i one; unfold bt at this; rw [Int.toNat_natCast]; omega) (by have := bt_01 i one; unfold bt at this; rw [Int.toNat_natCast]; omega))
    refine' Sx.ifF (Tz.cmp (Ez.cast (Ez.comp (σc := [nv "k" (.int (i : Int))]) (fun _ => true) (fun q => match q with | .int n => .int ((n.fdiv (2 ^ (i : Int).toNat)).fmod 2) | _ => .none) ?d1 ?d2 ?d3 ?d4 ?d5 ?d6 ?d7 ?d8 ?d9 ?d10) ?eqA) (Ez.cast (Ez.list ?vl ?vm) ?eqB) (Cmp.neL (a := [bt i (Builtin.bitAnd one two), bt i (Builtin.bitOr one two), bt i (Builtin.bitXor one two)]) (b := [bt i one * bt i two, mx (bt i one) (bt i two), ab (bt i one - bt i two)])) rfl) ?xb2 ?xrest2
    case d1 => exact Form.name
    case d2 => o_fieldsN
    case eqA => rfl
    case vl => k_places
    case vm => exact Nat.le_of_ble_eq_true rfl
    case eqB => rfl
    case d3 => rfl
    case d4 => rfl
    case d5 => exact CapOk.cons rfl (.int _) rfl CapOk.nil
    case d6 =>
      intro q hq
      have hq' : ∃ e : Int, q = .int e ∧ Bd 8000 e := by
        simp only [List.mem_cons, List.not_mem_nil, or_false] at hq
        rcases hq with rfl | rfl | rfl
        · exact ⟨_, rfl, g1⟩
        · exact ⟨_, rfl, g2⟩
        · exact ⟨_, rfl, g3⟩
      obtain ⟨e, rfl, he⟩ := hq'
      exact ⟨_, AzP.name rfl, Ifs.nil, fun _ => by k_places⟩
    case d7 =>
      intro q hq
      simp only [List.mem_cons, List.not_mem_nil, or_false] at hq
      rcases hq with rfl | rfl | rfl <;> exact .int _
    case d8 =>
      intro q hq _
      simp only [List.mem_cons, List.not_mem_nil, or_false] at hq
      rcases hq with rfl | rfl | rfl <;> exact .int _
    case d9 => exact Nat.le_of_ble_eq_true rfl
    case d10 => exact fun _ _ => rfl
    case xb2 =>
      have e : [bt i (Builtin.bitAnd one two), bt i (Builtin.bitOr one two), bt i (Builtin.bitXor one two)] = [bt i one * bt i two, mx (bt i one) (bt i two), ab (bt i one - bt i two)] := by
        rw [bt_and, bt_or, bt_xor, mx_eq]
        unfold ab
        rcases bt_01 i one with p1 | p1 <;> rcases bt_01 i two with p2 | p2 <;> rw [p1, p2] <;> rfl
      rw [decide_eq_true e]; rfl
    exact Sx.nil ⟨_, by o_shape, rfl, rfl⟩
  case wd =>
    rintro _ _ ⟨rfl, rfl⟩
    wrow_raised
    · rw [decide_eq_true (and_or_sum one two), decide_eq_true (and_and one two), decide_eq_true (show Builtin.bitOr one two - Builtin.bitAnd one two = Builtin.bitXor one two from rfl)]; rfl
    refine' Sx.ret ?vr1 ⟨?vr2, rfl⟩
    case vr1 => k_places
    case vr2 =>
      refine congrArg PV.bool ?_
      by_cases p1 : one < 0
      · rw [decide_eq_true p1]; simp
      · by_cases p2 : two < 0
        · rw [decide_eq_true p2]; simp
        · have := and_le (x := one) (y := two) (by omega) (by omega)
          rw [decide_eq_true (show Builtin.bitAnd one two ≤ mx one two by rw [mx_eq]; omega)]; rfl
local macro_rules | `(tactic| k_subL) => `(tactic| with_reducible exact f_bits_right _ _ _ _ ‹_› ‹_› (by first | assumption | omega) (by first | assumption | omega) (by first | assumption | omega) (by first | assumption | omega))

theorem law_bridge {X : Cx} {n : Nat} {cl : Str → Option Addr} {mean : ExcName → Option Value} {args : List WData} {c : ClaimW} {s s₁ : Shared} {L fa : Addr} {cd : Value} {name : Str} {sc : Scope} {body : List Stmt} {m : Str → Option Value} {a : Addr} {vs : List Value} {ns : List Int} {E : Value → Shared → Prop}
    (T : Top X.p X.loose X.mean X.mg X.mb s₁.heap) (KX : X.K.In s₁.heap) (F : Fr s₁.heap L s.heap m) (hL : L = s₁.heap.objs.size) (hg : s.gens = #[]) (hos : s.os = s₁.os) (hl : s₁.heap.IsList a vs.toArray) (hI : IntsAre vs ns) (hm : m "script" = some (.ref a))
    (hsc : sc.names.all (fun p => p.2 != .cell) = true) (hk : sc.kind = .function) (rm : Room n (callerA.deeper (envOf name sc L fa cd)))
    (hn : ∀ cls, c.raises args cls = false) (hp : c.post args (.bool true) args = true)
    (h : Sx X Option.none n sc [nv "script" (.xl (ns.map PV.int))] [] body (fun fv _ z => RetIs (.bool true) fv ∧ z = [])) :
    wpAny (model X.prog X.w) (callerA.deeper (envOf name sc L fa cd)) (execs body (envOf name sc L fa cd)) (fun f s' => GoodWG c cl mean args s₁ (.ok (.ret (match f with | .ret v => v | _ => .none))) s') E s := by
  have en : EnvOk sc (envOf name sc L fa cd) := ⟨rfl, rfl, rfl, fun _ _ => rfl, fun x hx => by
    have := List.all_eq_true.mp hsc _ (mem_of_lookup hx)
    simp at this, hk⟩
  have lo : ∀ b o, s₁.heap.get? b = some o → b ≠ L := fun b o e => by rw [hL]; exact Nat.ne_of_lt (Heap.lt_size e)
  have reps : ∀ {h : Heap} {vs : List Value} {ns : List Int}, IntsAre vs ns → Reps Option.none h vs (ns.map PV.int) := by
    intro h vs ns hI
    induction hI with
    | nil => exact .nil
    | cons k t _ ih => exact .cons (.int ..) ih
  have S : SS X Option.none (envOf name sc L fa cd) [nv "script" (.xl (ns.map PV.int))] [] s.heap := by
    refine ⟨⟨s₁.heap, ⟨T, KX⟩, fun b o e => ⟨F.keep b o e, (by intro q; cases q), lo b o e, (fun p hp => by cases hp)⟩⟩, ⟨(by intro q; cases q), (fun p hp => by cases hp), (fun x y a e => by cases e), m, F.ns, fun x v e => ?_⟩, rfl⟩
    rw [List.lookup_cons] at e
    split at e
    · rename_i b
      have := eq_of_beq b
      subst this; cases e
      exact ⟨.ref a, .xl (hl.at fun o e => F.keep _ o e) (by intro q; cases q) (reps hI), hm⟩
    · cases e
  refine wpAny_mono (h _ _ s _ (fun _ _ => False) rm en S PassesOwn.never fun fl fv σ' z2 h2 tk2 k2 S2 fr hr => ?_) (fun _ _ x => x) fun _ _ x => x.elim
  obtain ⟨hr, rfl⟩ := hr
  cases fr with
  | next => cases hr
  | ret rr =>
    cases hr
    cases rr
    obtain ⟨m2, hm2, _⟩ := S2.loc.vals
    exact (goodW_bool (s' := { s with heap := h2, toks := tk2 }) (L := L) (m := m2) ⟨hm2, fun b o e => k2 b o (by intro q; cases q) (lo b o e) (fun p hp => by cases hp) (F.keep b o e), F.above⟩ hg hn hp hos).toG
theorem with_box {Y : Cx} {n : Nat} {sc : Scope} {body : List Stmt} {R : FV → Sig → List PV → Prop} {ns : List Int} (hn : ns.length ≤ 63)
    (h : ∀ (Y : Cx) (z0 : List PV), FnNew (XK Y) 1 550 [.xl (ns.map PV.int)] z0 → BoxOk 0 z0 → (∀ q ∈ z0, Scalar q) → Sx (XK Y) Option.none n sc [nv "script" (.xl (ns.map PV.int))] [] body R) : Sx (XK Y) Option.none n sc [nv "script" (.xl (ns.map PV.int))] [] body R :=
  let ⟨z0, a, b, c⟩ := box_ex Y ns hn
  h Y z0 a b c

theorem law_sx {Y : Cx} {ns : List Int} (hn : ns.length ≤ 63) {d : DefRec} {kwd : List (Str × Expr)} (h : defOf qv "law" = some (d, kwd)) : Sx (XK Y) Option.none 8 d.scope [nv "script" (.xl (ns.map PV.int))] [] d.body (fun fv _ z => RetIs (.bool true) fv ∧ z = []) := by
  have e : defOf qv "law" = some (_, _) := rfl
  obtain ⟨rfl, rfl⟩ := Prod.mk.inj (Option.some.inj (e.symm.trans h))
  clear h e
  refine with_box hn fun Y z0 fb hz0 hzs => ?_
  dsimp only
  obtain ⟨one, z1, f1, b1, hz1⟩ := drawn_ex Y hz0 (by decide)
  obtain ⟨two, z2, f2, b2, hz2⟩ := drawn_ex Y hz1 (by decide)
  obtain ⟨t3, z3, f3, t30, t31, hz3⟩ := take_ex Y 35 hz2 (by decide) (by decide) (by decide)
  obtain ⟨t4, z4, f4, t40, t41, hz4⟩ := take_ex Y 9 hz3 (by decide) (by decide) (by decide)
  obtain ⟨t5, z5, f5, t50, t51, hz5⟩ := take_ex Y 12 hz4 (by decide) (by decide) (by decide)
  obtain ⟨z6, f6⟩ := f_powers_right Y hz5 (by decide)
  have hT0 : (if (!decide (two = 0)) = true then two else -3) ≠ 0 := by
    cases hq : decide (two = 0) with
    | true => show (-3 : Int) ≠ 0; decide
    | false => exact of_decide_eq_false hq
  have hTb : Bd 128 (if (!decide (two = 0)) = true then two else -3) := by
    split
    · exact b2
    · exact Bd.lit (by decide)
  refine' Sx.assignNew (σ' := []) ?k1 ?k2 ?k3 ?k4 ?e1 fb (by decide) hzs ?k5 ?k6 (SubSig.nil _) (fun _ _ e => by cases e) (fun ca => ?r)
  case k1 => rfl
  case k2 => kba_ints
  case k3 => rfl
  case k4 => rfl
  case e1 => k_places
  case k5 => rfl
  case k6 => exact fun _ => rfl
  lcg_sub
  refine' Sx.ifF (Tz.boolGo (Tz.not ?p1) ?q1 (Tz.boolGo (Tz.not ?p2) ?q2 (Tz.bool1 (Tz.not ?p3)))) ?q3 ?r2
  case p1 => k_clsL
  case q1 => rfl
  case p2 => k_clsL
  case q2 => rfl
  case p3 => k_clsL
  case q3 => rfl
  refine' Sx.ret (Ez.boolGo ?p4 ?q4 (Ez.bool1 ?p5)) ⟨_, rfl, .bool _, rfl, rfl⟩
  case p4 => k_places
  case q4 => rfl
  case p5 => k_places
set_option maxHeartbeats 8000000 in
theorem nz_holds : PySem.Challenge.rw_nz0044_01.Holds := by
  w_on
  refine holds_law said0 fun said => ?_
  refine holds_open (r := PySem.Challenge.rw_nz0044_01.row) (d := ?d) (kwd := ?kwd) (q := qv) (loose := looseN) (Xt := xt) (XP := XL qv []) (Yf := Hook.obs hk) (Ya := Hook.val hk) (YP := Hook.says hk) (N := 9000) left0 (Hook.of hk) (Hook.keeps hk) (fun s e => xl_of s (Bool.and_eq_true_iff.mp e).1) XL.keeps ?h1 ?h2 ?h3 (fun s e => recFacts_of (Bool.and_eq_true_iff.mp e).2) ?h4 said ?h5 ?h6 ?hw ?hc
  case h1 => rfl
  case h2 => rfl
  case h3 => rfl
  case h4 => rfl
  case h5 => decide +kernel
  case h6 => exact ⟨rfl, rfl, rfl, rfl, rfl, by decide +kernel⟩
  case hw => w_witness2
  case hc => w_strict (
    lgec_go0
    (all_goals try k_fold)
    rename Fr _ _ _ _ => FX
    rename Top _ _ _ _ _ _ => TX
    rename Frag.In _ _ => KX
    rename Heap.IsList _ _ _ => LX
    rename IntsAre _ _ => IX
    rename ¬ ((63 : Int) < _) => CX
    rename _ = (#[] : Array _) => HG
    refine law_bridge (n := 8) (X := XK { prog := PySem.Challenge.rw_nz0044_01.row.prog, w := _, K := [], p := qv, loose := _, mean := _, mg := _, mb := _ }) TX KX FX rfl HG rfl LX IX rfl (by rfl) rfl ⟨rfl, Nat.le_of_ble_eq_true rfl, Nat.le_of_ble_eq_true rfl⟩ ?hn ?hp ?hb
    case hn => exact raisesW_false (by wrow_none_raised)
    case hp => wrow_post
    case hb =>
      exact law_sx (Y := { prog := PySem.Challenge.rw_nz0044_01.row.prog, w := _, K := [], p := qv, loose := _, mean := _, mg := _, mb := _ }) (by omega) rfl)
end
end Mine

theorem PySem.Challenge.cw_nz0044_01_holds : PySem.Challenge.rw_nz0044_01.Holds :=
  Mine.nz_holds
