import PyProof.Rows.All
import Wide.All
import OpenK.AllK
import Wide.FinOn
import HandS.ForMost
import HandS.Defaults
import HandS.Head0
import HandS.Head1
import HandS.Head2
import HandS.HeadEnd
import HandS.HeadHook1
import HandS.HeadHook2
import HandS.HeadHook3
import HandS.HeadHook4
import HandS.Wide
import HandS.Gcd
import HandS.Star
import HandS.Zip
import HandS.Walk
import HandS.Flow
import HandS.Style
import HandS.Deep
import HandS.Flt
import HandS.TupMul
import HandS.TupAny
import HandS.Slots
import HandS.SlotsOwn
import HandS.IsInst
import HandS.AnyAll
import HandS.IterVal
import HandS.Conv
import HandS.EndTab
import HandS.HeadWalk
import HandS.Exc
import HandS.ExcOwn
import HandS.Codes
import KE.KDictIter
import KE.GoesMore
import KE.GoesEnum
import HandS.OwnIter
import HandS.IterNext
import PyProof.TupleOfGen
import HandS.Head3
import PySem.Challenge.RW_sourceforms_k64_whole_ranks_and_killers
set_option Elab.async false
set_option linter.all false
set_option maxRecDepth 100000
set_option maxHeartbeats 0
namespace Hd
open PySem PySem.Spec PyProof.Rows L2
def top (i : Nat) : Stmt := PySem.Challenge.pw_sourceforms_k64_whole_ranks_and_killers.main.body.getD i (.Pass ⟨0, 0, 0, 0⟩)
def nm0 : List PySem.Str := ["gcd", "_wall", "LetterError", "InvalidForm", "InvalidPoint", "InvalidOperation", "InvalidNumber", "TooMany", "GREATEST", "is_whole", "is_short", "is_from", "are_short", "require_short", "require_from", "shared_of", "first_of", "primitive_of", "factorial_of", "less_head", "echelon_rows", "lead_of", "rank_of", "kernel_rows", "MAX_DEGREE", "product_in", "joined_entries", "power_in", "value_in", "Told"]
def nm1 : List PySem.Str := ["are_entries", "Form", "form_of", "require_form", "sum_in", "level_entries", "level_rows", "ranks_in", "killers_in", "killer_ranks", "killers", "_law_dice", "_law_roll", "_law_near", "_law_gcd", "_law_shared", "_law_plus", "_law_scaled", "_law_product", "_law_all_product", "_law_power", "_law_plain", "_law_line", "_law_point", "_law_points", "_law_small_form", "_law_form", "_law_cleared", "_law_less", "_law_rank"]
def nm2 : List PySem.Str := ["_law_leads", "_law_kernel", "_law_levels", "_law_killer_table", "_law_killer_rows", "_law_least_kill", "_law_right", "_law_are_powers_right"]
def names : List PySem.Str := nm0 ++ nm1 ++ nm2
def fn0 : List He.DefD := [⟨("is_whole", none), "is_whole", "is_whole", defArgs (top 11), defBody (top 11), defScope (top 11), [], []⟩, ⟨("is_short", none), "is_short", "is_short", defArgs (top 12), defBody (top 12), defScope (top 12), [], []⟩, ⟨("is_from", none), "is_from", "is_from", defArgs (top 13), defBody (top 13), defScope (top 13), [], []⟩, ⟨("are_short", none), "are_short", "are_short", defArgs (top 14), defBody (top 14), defScope (top 14), [], []⟩, ⟨("require_from", none), "require_from", "require_from", defArgs (top 16), defBody (top 16), defScope (top 16), [], []⟩, ⟨("shared_of", none), "shared_of", "shared_of", defArgs (top 17), defBody (top 17), defScope (top 17), [], []⟩, ⟨("first_of", none), "first_of", "first_of", defArgs (top 18), defBody (top 18), defScope (top 18), [], []⟩, ⟨("primitive_of", none), "primitive_of", "primitive_of", defArgs (top 19), defBody (top 19), defScope (top 19), [], []⟩, ⟨("factorial_of", none), "factorial_of", "factorial_of", defArgs (top 20), defBody (top 20), defScope (top 20), [], []⟩, ⟨("less_head", none), "less_head", "less_head", defArgs (top 22), defBody (top 22), defScope (top 22), [], []⟩, ⟨("echelon_rows", none), "echelon_rows", "echelon_rows", defArgs (top 23), defBody (top 23), defScope (top 23), [], []⟩, ⟨("lead_of", none), "lead_of", "lead_of", defArgs (top 24), defBody (top 24), defScope (top 24), [], []⟩, ⟨("rank_of", none), "rank_of", "rank_of", defArgs (top 25), defBody (top 25), defScope (top 25), [], []⟩, ⟨("kernel_rows", none), "kernel_rows", "kernel_rows", defArgs (top 26), defBody (top 26), defScope (top 26), [], []⟩, ⟨("are_entries", none), "are_entries", "are_entries", defArgs (top 34), defBody (top 34), defScope (top 34), [], []⟩]
def fn1 : List He.DefD := [⟨("form_of", none), "form_of", "form_of", defArgs (top 36), defBody (top 36), defScope (top 36), [], []⟩, ⟨("require_form", none), "require_form", "require_form", defArgs (top 37), defBody (top 37), defScope (top 37), [], []⟩, ⟨("level_entries", none), "level_entries", "level_entries", defArgs (top 40), defBody (top 40), defScope (top 40), [], []⟩, ⟨("level_rows", none), "level_rows", "level_rows", defArgs (top 41), defBody (top 41), defScope (top 41), [], []⟩, ⟨("ranks_in", none), "ranks_in", "ranks_in", defArgs (top 42), defBody (top 42), defScope (top 42), [], []⟩, ⟨("killers_in", none), "killers_in", "killers_in", defArgs (top 43), defBody (top 43), defScope (top 43), [], []⟩, ⟨("killer_ranks", none), "killer_ranks", "killer_ranks", defArgs (top 44), defBody (top 44), defScope (top 44), [], []⟩, ⟨("killers", none), "killers", "killers", defArgs (top 45), defBody (top 45), defScope (top 45), [], []⟩, ⟨("_law_dice", none), "_law_dice", "_law_dice", defArgs (top 47), defBody (top 47), defScope (top 47), [], []⟩, ⟨("_law_roll", none), "_law_roll", "_law_roll", defArgs (top 48), defBody (top 48), defScope (top 48), [], []⟩, ⟨("_law_near", none), "_law_near", "_law_near", defArgs (top 49), defBody (top 49), defScope (top 49), [], []⟩, ⟨("_law_gcd", none), "_law_gcd", "_law_gcd", defArgs (top 50), defBody (top 50), defScope (top 50), [], []⟩, ⟨("_law_shared", none), "_law_shared", "_law_shared", defArgs (top 51), defBody (top 51), defScope (top 51), [], []⟩, ⟨("_law_plus", none), "_law_plus", "_law_plus", defArgs (top 52), defBody (top 52), defScope (top 52), [], []⟩, ⟨("_law_scaled", none), "_law_scaled", "_law_scaled", defArgs (top 53), defBody (top 53), defScope (top 53), [], []⟩]
def fn2 : List He.DefD := [⟨("_law_product", none), "_law_product", "_law_product", defArgs (top 54), defBody (top 54), defScope (top 54), [], []⟩, ⟨("_law_all_product", none), "_law_all_product", "_law_all_product", defArgs (top 55), defBody (top 55), defScope (top 55), [], []⟩, ⟨("_law_power", none), "_law_power", "_law_power", defArgs (top 56), defBody (top 56), defScope (top 56), [], []⟩, ⟨("_law_plain", none), "_law_plain", "_law_plain", defArgs (top 57), defBody (top 57), defScope (top 57), [], []⟩, ⟨("_law_line", none), "_law_line", "_law_line", defArgs (top 58), defBody (top 58), defScope (top 58), [], []⟩, ⟨("_law_point", none), "_law_point", "_law_point", defArgs (top 59), defBody (top 59), defScope (top 59), [], []⟩, ⟨("_law_points", none), "_law_points", "_law_points", defArgs (top 60), defBody (top 60), defScope (top 60), [], []⟩, ⟨("_law_small_form", none), "_law_small_form", "_law_small_form", defArgs (top 61), defBody (top 61), defScope (top 61), [], []⟩, ⟨("_law_form", none), "_law_form", "_law_form", defArgs (top 62), defBody (top 62), defScope (top 62), [], []⟩, ⟨("_law_cleared", none), "_law_cleared", "_law_cleared", defArgs (top 63), defBody (top 63), defScope (top 63), [], []⟩, ⟨("_law_less", none), "_law_less", "_law_less", defArgs (top 64), defBody (top 64), defScope (top 64), [], []⟩, ⟨("_law_rank", none), "_law_rank", "_law_rank", defArgs (top 65), defBody (top 65), defScope (top 65), [], []⟩, ⟨("_law_leads", none), "_law_leads", "_law_leads", defArgs (top 66), defBody (top 66), defScope (top 66), [], []⟩, ⟨("_law_kernel", none), "_law_kernel", "_law_kernel", defArgs (top 67), defBody (top 67), defScope (top 67), [], []⟩, ⟨("_law_levels", none), "_law_levels", "_law_levels", defArgs (top 68), defBody (top 68), defScope (top 68), [], []⟩]
def fn3 : List He.DefD := [⟨("_law_killer_table", none), "_law_killer_table", "_law_killer_table", defArgs (top 69), defBody (top 69), defScope (top 69), [], []⟩, ⟨("_law_killer_rows", none), "_law_killer_rows", "_law_killer_rows", defArgs (top 70), defBody (top 70), defScope (top 70), [], []⟩, ⟨("_law_least_kill", none), "_law_least_kill", "_law_least_kill", defArgs (top 71), defBody (top 71), defScope (top 71), [], []⟩, ⟨("_law_right", none), "_law_right", "_law_right", defArgs (top 72), defBody (top 72), defScope (top 72), [], []⟩, ⟨("_law_are_powers_right", none), "_law_are_powers_right", "_law_are_powers_right", defArgs (top 73), defBody (top 73), defScope (top 73), [], []⟩, ⟨("law", none), "law", "law", defArgs (top 74), defBody (top 74), defScope (top 74), [], []⟩, ⟨("Told", some "__init__"), "__init__", "Told.__init__", defArgs (inClass (top 33) 1), defBody (inClass (top 33) 1), defScope (inClass (top 33) 1), [], []⟩, ⟨("Form", some "__init__"), "__init__", "Form.__init__", defArgs (inClass (top 35) 1), defBody (inClass (top 35) 1), defScope (inClass (top 35) 1), [], []⟩, ⟨("Form", some "__iter__"), "__iter__", "Form.__iter__", defArgs (inClass (top 35) 20), defBody (inClass (top 35) 20), defScope (inClass (top 35) 20), [], []⟩, ⟨("Form", some "__len__"), "__len__", "Form.__len__", defArgs (inClass (top 35) 19), defBody (inClass (top 35) 19), defScope (inClass (top 35) 19), [], []⟩]
def fn : List He.DefD := fn0 ++ fn1 ++ fn2 ++ fn3
def fa0 : List He.Fa := [.glo "is_whole", .glo "is_short", .glo "is_from", .glo "are_short", .glo "require_from", .glo "shared_of", .glo "first_of", .glo "primitive_of", .glo "factorial_of", .glo "less_head", .glo "echelon_rows", .glo "lead_of", .glo "rank_of", .glo "kernel_rows", .glo "are_entries", .glo "form_of", .glo "require_form", .glo "level_entries", .glo "level_rows", .glo "ranks_in"]
def fa1 : List He.Fa := [.glo "killers_in", .glo "killer_ranks", .glo "killers", .glo "_law_dice", .glo "_law_roll", .glo "_law_near", .glo "_law_gcd", .glo "_law_shared", .glo "_law_plus", .glo "_law_scaled", .glo "_law_product", .glo "_law_all_product", .glo "_law_power", .glo "_law_plain", .glo "_law_line", .glo "_law_point", .glo "_law_points", .glo "_law_small_form", .glo "_law_form", .glo "_law_cleared"]
def fa2 : List He.Fa := [.glo "_law_less", .glo "_law_rank", .glo "_law_leads", .glo "_law_kernel", .glo "_law_levels", .glo "_law_killer_table", .glo "_law_killer_rows", .glo "_law_least_kill", .glo "_law_right", .glo "_law_are_powers_right", .glo "law", .glo "Form", .glo "Told", .mkr "Form", .mkr "Told", .free "len", .free "range", .free "enumerate", .free "zip", .free "list"]
def fa3 : List He.Fa := [.free "tuple", .free "int", .free "bool", .free "abs", .free "max", .free "min", .free "isinstance", .free "next", .free "iter", .free "all", .int "GREATEST" 1000000000000000000000000000000000000000000000000000000000000, .int "MAX_DEGREE" 40]
def fa : List He.Fa := fa0 ++ fa1 ++ fa2 ++ fa3
def tf : List He.Defn := [("first_of", none)]
/-- a class's attribute that is an object of its own -/
def atA (K : PySem.W.Frag) (C : Addr) (f : PySem.Str) : Addr := match PySem.W.findIn K (.ref C) f with
  | some (some (.ref p)) => p
  | _ => 0
/-- a property's getter -/
def getA (K : PySem.W.Frag) (p : Addr) : Addr := match PySem.W.recIn K p "property" with
  | some (.ref g :: _) => g
  | _ => 0
def sclsB (K : PySem.W.Frag) (C : Addr) : Bool := PySem.W.plainGet K C Str.empty && (PySem.W.isClsIn K C && (PySem.W.plainOver K C && He.eqO (PySem.W.findIn K (.ref C) "__setattr__") (some (some (.builtin "object.__setattr__")))))
def sisiB (K : PySem.W.Frag) (C : Addr) : Bool := He.eqO (PySem.W.findIn K (.ref C) "__class__") (some (some (.builtin "object.__class__"))) && (He.eqO (PySem.W.specialIn K (.builtin "object.__class__") "__get__") (some (some (.builtin "getset_descriptor.__get__"))) && (decide (PySem.W.takesIn K (.builtin "object.__class__") = some true) && decide (PySem.W.mroIn K C (.type "object") = some true)))
def slotB (K : PySem.W.Frag) (C : Addr) (f : PySem.Str) (i : Nat) : Bool := He.eqO (PySem.W.findIn K (.ref C) f) (some (some (.ref (atA K C f)))) && (He.eqO (PySem.W.specialIn K (.ref (atA K C f)) "__get__") (some (some (.builtin "member_descriptor.__get__"))) && (decide (PySem.W.takesIn K (.ref (atA K C f)) = some true) && (decide (PySem.W.typeIn K (.ref (atA K C f)) = some (.type "member_descriptor")) && decide (PySem.W.slotIn K (atA K C f) C = some i))))
def recB (K : PySem.W.Frag) (p : Addr) : Bool := match PySem.W.recIn K p "property" with
  | some (.ref _ :: _) => true
  | _ => false
def propB (K : PySem.W.Frag) (C : Addr) (f : PySem.Str) : Bool := He.eqO (PySem.W.findIn K (.ref C) f) (some (some (.ref (atA K C f)))) && (He.eqO (PySem.W.specialIn K (.ref (atA K C f)) "__get__") (some (some (.builtin "property.__get__"))) && (decide (PySem.W.takesIn K (.ref (atA K C f)) = some true) && recB K (atA K C f)))
def methB (K : PySem.W.Frag) (C : Addr) (f : PySem.Str) : Bool := He.eqO (PySem.W.findIn K (.ref C) f) (some (some (.ref (He.ma K C f)))) && PySem.W.isFn K (.ref (He.ma K C f))
def gF (K : PySem.W.Frag) : Addr := He.ga K "Form"
def gT (K : PySem.W.Frag) : Addr := He.ga K "Told"
/-- a def found by an address: what it is -/
def fnAt (K : PySem.W.Frag) (a : Addr) : He.FnW := match K.lookup a with
  | some ⟨_, _, .func fd, _⟩ => some (fd.name, fd.qualname, fd.params, fd.body, fd.scope, fd.globals, fd.closure, fd.builtins)
  | _ => none
def fnOkB (K : PySem.W.Frag) (a : Addr) (q : PySem.Str) : Bool := PySem.W.keepIn K (.ref a) && (match K.lookup a with
  | some ⟨_, _, .func fd, _⟩ => PySem.W.codeIn K fd.code q && (He.dflB K fd.defaults [] && He.kwdB K fd.kwdefaults [])
  | _ => false)
def ex (K : PySem.W.Frag) : Bool := sclsB K (gF K) && (sclsB K (gT K) && (sisiB K (gF K) && (sisiB K (gT K) && (slotB K (gF K) "own_entries" 0 && (slotB K (gT K) "own_row" 0 && (decide (PySem.W.kitOne K (.ref (gT K)) (.ref (gT K)) = some true) && (decide (PySem.W.kitOne K (.ref (gF K)) (.ref (gF K)) = some true) && (decide (PySem.W.kitOne K (.type "tuple") (.ref (gT K)) = some false) &&
  (propB K (gF K) "entries" && (propB K (gF K) "degree" && (methB K (gF K) "__iter__" && (methB K (gF K) "__len__" && (He.eqO (PySem.W.nsIn K mainGlobals "gcd") (some (some (.builtin "math.gcd"))) && (fnOkB K (getA K (atA K (gF K) "entries")) "Form.entries" && fnOkB K (getA K (atA K (gF K) "degree")) "Form.degree"))))))))))))))
abbrev sE : Stmt := inClass (top 35) 4
abbrev sD : Stmt := inClass (top 35) 5
def obsP (K : PySem.W.Frag) : List He.FnW := [fnAt K (getA K (atA K (gF K) "entries")), fnAt K (getA K (atA K (gF K) "degree"))]
def valP : List He.FnW := [some ("entries", "Form.entries", defArgs sE, .stmts (defBody sE), defScope sE, mainGlobals, [], builtinsNs), some ("degree", "Form.degree", defArgs sD, .stmts (defBody sD), defScope sD, mainGlobals, [], builtinsNs)]
/-- where the head's objects lie that the facts look at -/
def as0 : List Addr := [3, 6, 4, 49, 59, 72, 84, 96, 117, 139, 149, 156, 163, 168, 175, 182, 189, 196, 201, 208, 213, 218, 223, 230, 235, 242, 247, 254, 261, 280, 290, 454, 464, 471, 476, 481, 486, 491, 496, 503, 508, 515, 522, 529, 536, 543, 548, 553, 558, 565, 572, 577, 584, 591, 598, 603, 608, 613, 618, 625, 630, 635, 642, 647, 652, 659, 664, 669, 674, 0, 48, 58, 71, 83, 95, 116, 138, 148, 155, 162, 167, 174, 181, 188, 195, 200, 207, 212, 217, 222, 229, 234, 241, 246, 253, 260, 279, 289, 453, 463, 470, 475, 480, 485, 490, 495, 502, 507, 514, 521, 528, 535, 542, 547, 552, 557, 564, 571, 576, 583, 590, 597, 602, 607, 612, 617, 624, 629, 634, 641, 646, 651, 658, 663, 668, 673, 43, 44, 45, 46, 47, 57, 60, 70, 82, 94, 114, 115, 118, 136, 137, 140, 143, 144, 145, 146, 147, 150, 151, 152, 153, 154, 157, 158, 159, 160, 161, 164, 165, 166, 169, 170, 171, 172, 173, 176, 177, 178, 179, 180, 183, 184, 185, 186, 187, 190, 191, 192, 193, 194, 197, 198, 199, 202, 203, 204, 205, 206, 209, 210, 211, 214, 215, 216, 219, 220, 221, 224, 225, 226, 227, 228, 231, 232, 233, 236, 237, 238, 239, 240, 243, 244, 245, 248, 249, 250, 251, 252, 255, 256, 257, 258, 259, 269, 276, 277, 281, 284, 285, 286, 287, 288, 298, 305, 314, 324, 333, 341, 349, 357, 365, 372, 379, 386, 393, 400, 407, 414, 419, 424, 431, 438, 445, 450, 451, 455, 458, 459, 460, 461, 462, 465, 466, 467, 468, 469, 472, 473, 474, 477, 478, 479, 482, 483, 484, 487, 488, 489, 492, 493, 494, 497, 498, 499, 500, 501, 504, 505, 506, 509, 510, 511, 512, 513, 516, 517, 518, 519, 520, 523, 524, 525, 526, 527, 530, 531, 532, 533, 534, 537, 538, 539, 540, 541, 544, 545, 546, 549, 550, 551, 554, 555, 556, 559, 560, 561, 562, 563, 566, 567, 568, 569, 570, 573, 574, 575, 578, 579, 580, 581, 582, 585, 586, 587, 588, 589, 592, 593, 594, 595, 596, 599, 600, 601, 604, 605, 606, 609, 610, 611, 614, 615, 616, 619, 620, 621, 622, 623, 626, 627, 628, 631, 632, 633, 636, 637, 638, 639, 640, 643, 644, 645, 648, 649, 650, 653, 654, 655, 656, 657, 660, 661, 662, 665, 666, 667, 670, 671, 672, 113, 102, 135, 124, 275, 304, 312, 313, 322, 323, 332, 340, 348, 356, 364, 371, 378, 385, 392, 399, 406, 413, 418, 423, 430, 437, 444, 449, 108, 109, 110, 111, 112, 130, 131, 132, 133, 134, 270, 271, 272, 273, 274, 299, 300, 301, 302, 303, 311, 315, 321, 325, 331, 339, 347, 355, 363, 366, 367, 368, 369, 370, 373, 374, 375, 376, 377, 380, 381, 382, 383, 384, 387, 388, 389, 390, 391, 394, 395, 396, 397, 398, 401, 402, 403, 404, 405, 408, 409, 410, 411, 412, 415, 416, 417, 420, 421, 422, 425, 426, 427, 428, 429, 432, 433, 434, 435, 436, 439, 440, 441, 442, 443, 446, 447, 448]
abbrev kA (g : Addr → Option Obj) : PySem.W.Frag := He.frT g as0
def obA (g : Addr → Option Obj) : He.AlX × List He.FnW := ((He.obsT fa fn [] (kA g), ex (kA g) && He.tabsB g tf (kA g)), obsP (kA g))
theorem says_at {as : List Addr} {w : World} {h : Heap} (e : He.obsT fa fn [] (He.frT h.get? as) = He.valT fn [] w) (e2 : (ex (He.frT h.get? as) && He.tabsB h.get? tf (He.frT h.get? as)) = true) : He.SaysX fa fn [] tf ex w h (He.frT h.get? as) := by
  generalize hK : He.frT h.get? as = K at e e2 ⊢
  rw [Bool.and_eq_true] at e2
  have z : ∀ p ∈ tf, PySem.W.codeHdIn K (He.cT K p).1 (He.cT K p).2 = true ∧ ∃ o, h.get? (He.cT K p).2 = some o ∧ He.emptyTab o = true := by
    intro p hp
    have y := List.all_eq_true.mp e2.2 p hp
    rw [Bool.and_eq_true] at y
    refine ⟨y.1, ?_⟩
    have y2 := y.2
    cases q : h.get? (He.cT K p).2 with
    | none => rw [q] at y2; cases y2
    | some o => rw [q] at y2; exact ⟨o, rfl, y2⟩
  constructor
  · exact e
  · exact e2.1
  · exact fun p hp => (z p hp).1
  · intro p hp
    obtain ⟨o, q, y⟩ := (z p hp).2
    have r := He.frT_none (as := as) q y
    rw [hK] at r
    exact r
  · intro p hp
    obtain ⟨o, q, y⟩ := (z p hp).2
    rw [q, He.emptyTab_eq y]
def hk : PySem.W.Hook where
  α := He.AlX × List He.FnW
  obs := fun s => obA s.heap.get?
  val := fun w => (He.valX fn [] w, valP)
  says := fun w h => ∃ K : PySem.W.Frag, K.In h ∧ He.SaysX fa fn [] tf ex w h K ∧ obsP K = valP
  of := fun _ _ e => ⟨_, He.frT_in, says_at (congrArg (fun y => y.1.1) e) (congrArg (fun y => y.1.2) e), congrArg Prod.snd e⟩
  keeps := fun _ _ _ ⟨K, hK, c, q⟩ k => ⟨K, PySem.W.Frag.In.keeps hK k, ⟨c.t, c.more, c.hd, c.out, fun p hp => k _ _ (c.empty p hp)⟩, q⟩
abbrev R : PySem.W.OpenRow := PySem.W.OpenLaw.row PySem.Challenge.rw_sourceforms_k64_whole_ranks_and_killers
def ob (s : PySem.W.SharedT) : He.AlX × List He.FnW := obA (HandSHeadRun.getT s)
theorem ob_eq (s : PySem.W.SharedT) : ob s = hk.obs s.abs := by
  have e : HandSHeadRun.getT s = s.abs.heap.get? := funext (HandSHeadRun.getT_eq s)
  unfold ob
  rw [e] <;> rfl
open HandSHeadRun in
theorem runA (w : World) : (wholeF (fun p => stepQ (denQ tabQ) p w) fenceQ 20000 R.prog).map (fun x => looksF R.prog x.1.heap x.2.abs) = some true := by
  kernel_rfl
open HandSHeadRun in
theorem runB (w : World) : (wholeF (fun p => stepQ (denQ tabQ) p w) fenceQ 20000 R.prog).map (fun x => seenQ (PySem.W.view R.prog [74]) names (importedModules R.prog.main.body) (fun s => PySem.W.xlAt (PySem.W.view R.prog [74]) [] s && PySem.W.recOk R.toRowW.records s) x.2.abs) = some (PySem.W.openGood (PySem.W.view R.prog [74]) names) := by
  kernel_rfl
open HandSHeadRun in
theorem runC (w : World) : (wholeF (fun p => stepQ (denQ tabQ) p w) fenceQ 20000 R.prog).map (fun x => ob x.2) = some (hk.val w) := by
  kernel_rfl
theorem run (w : World) : HandSHeadRun.RunEqI R (PySem.W.view R.prog [74]) hk ob 20000 names w := by
  have a := runA w
  have b := runB w
  have c := runC w
  unfold HandSHeadRun.RunEqI
  generalize HandSHeadRun.wholeF (fun p => HandSHeadRun.stepQ (HandSHeadRun.denQ HandSHeadRun.tabQ) p w) HandSHeadRun.fenceQ 20000 R.prog = o at a b c ⊢
  cases o with
  | none => cases a
  | some x =>
    rw [Option.map_some] at a b c ⊢
    have e1 := Option.some.inj a
    have e2 := Option.some.inj b
    have e3 := Option.some.inj c
    rw [e1, e2, e3]
end Hd
/-! ## Lin -/
/-! Plain linear algebra over the integers: counting leads and trails. Core Lean alone. -/
namespace Lin
open Classical

abbrev Vec := Nat → Int

/-- how many p below w have P -/
noncomputable def cnt (P : Nat → Prop) : Nat → Nat
  | 0 => 0
  | w + 1 => cnt P w + if P w then 1 else 0

theorem cnt_succ_pos {P : Nat → Prop} {w : Nat} (h : P w) : cnt P (w + 1) = cnt P w + 1 := by
  unfold cnt
  rw [if_pos h]
  cases w <;> rfl
theorem cnt_succ_neg {P : Nat → Prop} {w : Nat} (h : ¬ P w) : cnt P (w + 1) = cnt P w := by
  unfold cnt
  rw [if_neg h]
  cases w <;> rfl
theorem cnt_congr {P Q : Nat → Prop} : ∀ {w : Nat}, (∀ p, p < w → (P p ↔ Q p)) → cnt P w = cnt Q w
  | 0, _ => rfl
  | w + 1, h => by
    have ih := cnt_congr (P := P) (Q := Q) (w := w) fun p hp => h p (by omega)
    have hw := h w (by omega)
    unfold cnt
    rw [ih]
    by_cases hq : Q w
    · rw [if_pos hq, if_pos (hw.mpr hq)]
    · rw [if_neg hq, if_neg fun z => hq (hw.mp z)]
theorem cnt_mono {P Q : Nat → Prop} : ∀ {w : Nat}, (∀ p, p < w → P p → Q p) → cnt P w ≤ cnt Q w
  | 0, _ => Nat.le_refl _
  | w + 1, h => by
    have ih := cnt_mono (P := P) (Q := Q) (w := w) fun p hp => h p (by omega)
    have hw := h w (by omega)
    unfold cnt
    by_cases hp : P w
    · rw [if_pos hp, if_pos (hw hp)]; omega
    · rw [if_neg hp]; omega
theorem cnt_le (P : Nat → Prop) : ∀ w, cnt P w ≤ w
  | 0 => Nat.le_refl _
  | w + 1 => by
    have := cnt_le P w
    unfold cnt
    split <;> omega
theorem cnt_all {P : Nat → Prop} : ∀ {w : Nat}, (∀ p, p < w → P p) → cnt P w = w
  | 0, _ => rfl
  | w + 1, h => by
    unfold cnt
    rw [cnt_all fun p hp => h p (by omega), if_pos (h w (by omega))]
theorem cnt_none {P : Nat → Prop} : ∀ {w : Nat}, (∀ p, p < w → ¬ P p) → cnt P w = 0
  | 0, _ => rfl
  | w + 1, h => by
    unfold cnt
    rw [cnt_none fun p hp => h p (by omega), if_neg (h w (by omega))]
theorem cnt_not (P : Nat → Prop) : ∀ w, cnt P w + cnt (fun p => ¬ P p) w = w
  | 0 => rfl
  | w + 1 => by
    have := cnt_not P w
    unfold cnt
    by_cases h : P w
    · rw [if_pos h, if_neg (fun z => z h)]; omega
    · rw [if_neg h, if_pos h]; omega
theorem cnt_full {P : Nat → Prop} : ∀ {w : Nat}, cnt P w = w → ∀ p, p < w → P p
  | 0, _, p, hp => by omega
  | w + 1, h, p, hp => by
    unfold cnt at h
    have hle := cnt_le P w
    by_cases hw : P w
    · rw [if_pos hw] at h
      rcases Nat.lt_or_eq_of_le (Nat.lt_succ_iff.mp hp) with q | q
      · exact cnt_full (by omega) p q
      · rw [q]; exact hw
    · rw [if_neg hw] at h; omega
theorem cnt_zero {P : Nat → Prop} : ∀ {w : Nat}, cnt P w = 0 → ∀ p, p < w → ¬ P p
  | 0, _, p, hp => by omega
  | w + 1, h, p, hp => by
    unfold cnt at h
    by_cases hw : P w
    · rw [if_pos hw] at h; omega
    · rw [if_neg hw] at h
      rcases Nat.lt_or_eq_of_le (Nat.lt_succ_iff.mp hp) with q | q
      · exact cnt_zero (by omega) p q
      · rw [q]; exact hw
/-- just one more -/
theorem cnt_one_more {P Q : Nat → Prop} {p0 : Nat} : ∀ {w : Nat}, (∀ p, p < w → p ≠ p0 → (P p ↔ Q p)) → p0 < w → P p0 → ¬ Q p0 → cnt P w = cnt Q w + 1
  | 0, _, h, _, _ => by omega
  | w + 1, h, hw, hp, hq => by
    by_cases e : p0 = w
    · subst e
      unfold cnt
      rw [if_pos hp, if_neg hq, cnt_congr (P := P) (Q := Q) fun p hp' => h p (by omega) (by omega)]
    · have ih := cnt_one_more (P := P) (Q := Q) (p0 := p0) (w := w) (fun p hp' => h p (by omega)) (by omega) hp hq
      unfold cnt
      rw [ih]
      have hh := h w (by omega) (fun z => e z.symm)
      by_cases hQ : Q w
      · rw [if_pos hQ, if_pos (hh.mpr hQ)]
      · rw [if_neg hQ, if_neg fun z => hQ (hh.mp z)]
theorem cnt_grow {P Q : Nat → Prop} {p0 w : Nat} (h : ∀ p, p < w → Q p → P p) (hw : p0 < w) (hp : P p0) (hq : ¬ Q p0) : cnt Q w + 1 ≤ cnt P w := by
  have e := cnt_one_more (P := fun p => Q p ∨ p = p0) (Q := Q) (p0 := p0) (w := w) (fun p _ hn => ⟨fun z => z.elim id fun z => absurd z hn, Or.inl⟩) hw (Or.inr rfl) hq
  have m := cnt_mono (P := fun p => Q p ∨ p = p0) (Q := P) (w := w) fun p hpw z => z.elim (h p hpw) fun z => by rw [z]; exact hp
  omega
theorem cnt_add (P : Nat → Prop) (w : Nat) : ∀ m, cnt P (w + m) = cnt P w + cnt (fun p => P (w + p)) m
  | 0 => rfl
  | m + 1 => by
    have h := cnt_add P w m
    have e1 : cnt P (w + (m + 1)) = cnt P (w + m) + if P (w + m) then 1 else 0 := rfl
    have e2 : cnt (fun p => P (w + p)) (m + 1) = cnt (fun p => P (w + p)) m + if P (w + m) then 1 else 0 := rfl
    rw [e1, e2, h, Nat.add_assoc]

/-- a lattice of rows: closed under sums and multiples -/
structure Sub (w : Nat) (V : Vec → Prop) : Prop where
  zero : V fun _ => 0
  lin : ∀ (a b : Int) (u v : Vec), V u → V v → V fun i => a * u i + b * v i
  supp : ∀ v, V v → ∀ i, w ≤ i → v i = 0

def Lead (V : Vec → Prop) (p : Nat) : Prop := ∃ v, V v ∧ v p ≠ 0 ∧ ∀ i, i < p → v i = 0
def Trail (V : Vec → Prop) (p : Nat) : Prop := ∃ v, V v ∧ v p ≠ 0 ∧ ∀ i, p < i → v i = 0
noncomputable def dim (V : Vec → Prop) (w : Nat) : Nat := cnt (Lead V) w

theorem first_nonzero (v : Vec) : ∀ p, v p ≠ 0 → ∃ q, q ≤ p ∧ v q ≠ 0 ∧ ∀ i, i < q → v i = 0
  | p, h => by
    by_cases e : ∃ q, q < p ∧ v q ≠ 0
    · obtain ⟨q, hq, hv⟩ := e
      obtain ⟨r, h1, h2⟩ := first_nonzero v q hv
      exact ⟨r, by omega, h2⟩
    · exact ⟨p, Nat.le_refl _, h, fun i hi => Classical.byContradiction fun z => e ⟨i, hi, z⟩⟩
termination_by p => p
theorem lead_of_ne {V : Vec → Prop} {v : Vec} {p : Nat} (h : V v) (hp : v p ≠ 0) : ∃ q, q ≤ p ∧ Lead V q :=
  let ⟨q, h1, h2, h3⟩ := first_nonzero v p hp
  ⟨q, h1, v, h, h2, h3⟩

/-- a greatest one below a bound -/
theorem greatest {P : Nat → Prop} : ∀ {w : Nat}, (∃ p, p < w ∧ P p) → ∃ p, p < w ∧ P p ∧ ∀ q, q < w → P q → q ≤ p
  | 0, h => by obtain ⟨p, hp, _⟩ := h; omega
  | w + 1, h => by
    by_cases hw : P w
    · exact ⟨w, by omega, hw, fun q hq _ => by omega⟩
    · obtain ⟨p, hp, h1⟩ := h
      have : p ≠ w := fun e => hw (e ▸ h1)
      obtain ⟨p', a, b, c⟩ := greatest (P := P) (w := w) ⟨p, by omega, h1⟩
      exact ⟨p', by omega, b, fun q hq hP => c q (by have : q ≠ w := fun e => hw (e ▸ hP); omega) hP⟩
theorem least_one {P : Nat → Prop} : ∀ {w : Nat}, P w → ∃ p, p ≤ w ∧ P p ∧ ∀ q, q < p → ¬ P q
  | w, h => by
    by_cases e : ∃ q, q < w ∧ P q
    · obtain ⟨q, hq, hv⟩ := e
      obtain ⟨r, h1, h2⟩ := least_one (P := P) (w := q) hv
      exact ⟨r, by omega, h2⟩
    · exact ⟨w, Nat.le_refl _, h, fun i hi z => e ⟨i, hi, z⟩⟩
termination_by w => w

/-- THE COUNT: as many leads as trails -/
theorem leads_trails : ∀ {w : Nat} {V : Vec → Prop}, Sub w V → cnt (Lead V) w = cnt (Trail V) w
  | 0, _, _ => rfl
  | w + 1, V, S => by
    let V' : Vec → Prop := fun v => V v ∧ v w = 0
    have S' : Sub w V' := ⟨⟨S.zero, rfl⟩, fun a b u v hu hv => ⟨S.lin a b u v hu.1 hv.1, by show a * u w + b * v w = 0; rw [hu.2, hv.2]; simp⟩, fun v hv i hi => by
      rcases Nat.lt_or_eq_of_le hi with q | q
      · exact S.supp v hv.1 i q
      · rw [← q]; exact hv.2⟩
    have ih := leads_trails S'
    have ht : cnt (Trail V) w = cnt (Trail V') w := cnt_congr fun p hp => ⟨fun ⟨v, a, b, c⟩ => ⟨v, ⟨a, c w hp⟩, b, c⟩, fun ⟨v, a, b, c⟩ => ⟨v, a.1, b, c⟩⟩
    have sub : ∀ p, Lead V' p → Lead V p := fun p ⟨v, a, b, c⟩ => ⟨v, a.1, b, c⟩
    have nlast : ¬ Lead V' w := fun ⟨v, a, b, _⟩ => b a.2
    by_cases hex : ∃ v, V v ∧ v w ≠ 0
    · have tw : Trail V w := by
        obtain ⟨v, a, b⟩ := hex
        exact ⟨v, a, b, fun i hi => S.supp v a i hi⟩
      -- the greatest lead of those that do not end in 0
      have hg : ∃ p, p < w + 1 ∧ ∃ v, V v ∧ v w ≠ 0 ∧ v p ≠ 0 ∧ ∀ i, i < p → v i = 0 := by
        obtain ⟨v, a, b⟩ := hex
        obtain ⟨q, h1, h2, h3⟩ := first_nonzero v w b
        exact ⟨q, by omega, v, a, b, h2, h3⟩
      obtain ⟨p0, hp0, ⟨v0, a0, b0, c0, d0⟩, max⟩ := greatest hg
      have hP : Lead V p0 := ⟨v0, a0, c0, d0⟩
      have hQ : ¬ Lead V' p0 := fun ⟨u, a, b, c⟩ => by
        let z : Vec := fun i => u p0 * v0 i + (- v0 p0) * u i
        have hz : V z := S.lin _ _ _ _ a0 a.1
        have zw : z w ≠ 0 := by
          show u p0 * v0 w + (- v0 p0) * u w ≠ 0
          rw [a.2, Int.mul_zero, Int.add_zero]
          exact Int.mul_ne_zero b b0
        have z0 : ∀ i, i ≤ p0 → z i = 0 := fun i hi => by
          show u p0 * v0 i + (- v0 p0) * u i = 0
          rcases Nat.lt_or_eq_of_le hi with q | q
          · rw [d0 i q, c i q]; simp
          · rw [q]; grind
        obtain ⟨q, h1, h2, h3⟩ := first_nonzero z w zw
        have hq : q ≤ p0 := max q (by omega) ⟨z, hz, zw, h2, h3⟩
        exact h2 (z0 q hq)
      have key : cnt (Lead V) (w + 1) = cnt (Lead V') (w + 1) + 1 := by
        refine cnt_one_more (p0 := p0) (fun p hp hn => ⟨fun hl => Classical.byContradiction fun hnl => ?_, sub p⟩) hp0 hP hQ
        obtain ⟨v, a, b, c⟩ := hl
        have hvw : v w ≠ 0 := fun e => hnl ⟨v, ⟨a, e⟩, b, c⟩
        -- v and v0: cross
        let z : Vec := fun i => v0 w * v i + (- v w) * v0 i
        have hz : V' z := ⟨S.lin _ _ _ _ a a0, by show v0 w * v w + (- v w) * v0 w = 0; grind⟩
        rcases Nat.lt_or_gt_of_ne hn with q | q
        · refine hnl ⟨z, hz, ?_, fun i hi => ?_⟩
          · show v0 w * v p + (- v w) * v0 p ≠ 0
            rw [d0 p q, Int.mul_zero, Int.add_zero]
            exact Int.mul_ne_zero b0 b
          · show v0 w * v i + (- v w) * v0 i = 0
            rw [d0 i (by omega), c i hi]; simp
        · refine hQ ⟨z, hz, ?_, fun i hi => ?_⟩
          · show v0 w * v p0 + (- v w) * v0 p0 ≠ 0
            rw [c p0 q, Int.mul_zero, Int.zero_add]
            exact Int.mul_ne_zero (fun e => hvw (by omega)) c0
          · show v0 w * v i + (- v w) * v0 i = 0
            rw [d0 i hi, c i (by omega)]; simp
      have e1 : cnt (Lead V') (w + 1) = cnt (Lead V') w := by
        show cnt (Lead V') w + (if Lead V' w then 1 else 0) = _
        rw [if_neg nlast]; rfl
      rw [key, e1, ih, ← ht]
      show _ = cnt (Trail V) w + (if Trail V w then 1 else 0)
      rw [if_pos tw]
    · have all : ∀ v, V v → v w = 0 := fun v hv => Classical.byContradiction fun z => hex ⟨v, hv, z⟩
      have el : cnt (Lead V) w = cnt (Lead V') w := cnt_congr fun p _ => ⟨fun ⟨v, a, b, c⟩ => ⟨v, ⟨a, all v a⟩, b, c⟩, sub p⟩
      show cnt (Lead V) w + (if Lead V w then 1 else 0) = cnt (Trail V) w + (if Trail V w then 1 else 0)
      rw [if_neg fun ⟨v, a, b, _⟩ => b (all v a), if_neg fun ⟨v, a, b, _⟩ => b (all v a), el, ih, ht]

theorem dim_mono {V W : Vec → Prop} {w : Nat} (h : ∀ v, V v → W v) : dim V w ≤ dim W w := cnt_mono fun _ _ ⟨v, a, b⟩ => ⟨v, h v a, b⟩
theorem dim_trails {V : Vec → Prop} {w : Nat} (S : Sub w V) : dim V w = cnt (Trail V) w := leads_trails S
theorem dim_le (V : Vec → Prop) (w : Nat) : dim V w ≤ w := cnt_le _ _
theorem dim_zero {V : Vec → Prop} {w : Nat} (S : Sub w V) (h : dim V w = 0) {v : Vec} (hv : V v) : ∀ i, v i = 0 := fun i => by
  refine Classical.byContradiction fun z => ?_
  obtain ⟨q, _, hl⟩ := lead_of_ne hv z
  refine cnt_zero h q ?_ hl
  obtain ⟨u, a, b, _⟩ := hl
  refine Classical.byContradiction fun y => b (S.supp u a q (by omega))
theorem dim_pos {V : Vec → Prop} {w : Nat} (S : Sub w V) {v : Vec} (hv : V v) {i : Nat} (hi : v i ≠ 0) : 0 < dim V w := by
  refine Nat.pos_of_ne_zero fun z => hi (dim_zero S z hv i)

/-! ### sums -/
def sm (f : Nat → Int) : Nat → Int
  | 0 => 0
  | n + 1 => sm f n + f n
theorem sm_congr {f g : Nat → Int} : ∀ {n}, (∀ i, i < n → f i = g i) → sm f n = sm g n
  | 0, _ => rfl
  | n + 1, h => by
    show sm f n + f n = sm g n + g n
    rw [sm_congr fun i hi => h i (by omega), h n (by omega)]
theorem sm_zero {f : Nat → Int} {n : Nat} (h : ∀ i, i < n → f i = 0) : sm f n = 0 := by
  rw [sm_congr (g := fun _ => 0) h]
  induction n with
  | zero => rfl
  | succ n ih => show sm _ n + 0 = 0; rw [ih fun i hi => h i (by omega)]; rfl
theorem sm_lin (a b : Int) (f g : Nat → Int) : ∀ n, sm (fun i => a * f i + b * g i) n = a * sm f n + b * sm g n
  | 0 => by show (0 : Int) = a * 0 + b * 0; simp
  | n + 1 => by
    show sm _ n + _ = a * (sm f n + f n) + b * (sm g n + g n)
    rw [sm_lin a b f g n]
    grind
theorem sm_mul (a : Int) (f : Nat → Int) (n : Nat) : sm (fun i => a * f i) n = a * sm f n := by
  have := sm_lin a 0 f f n
  rw [Int.zero_mul, Int.add_zero] at this
  rw [← this]
  exact sm_congr fun i _ => by simp
theorem sm_add (f g : Nat → Int) (n : Nat) : sm (fun i => f i + g i) n = sm f n + sm g n := by
  have := sm_lin 1 1 f g n
  rw [Int.one_mul, Int.one_mul] at this
  rw [← this]
  exact sm_congr fun i _ => by simp
theorem sm_swap (f : Nat → Nat → Int) (n : Nat) : ∀ m, sm (fun i => sm (fun j => f i j) m) n = sm (fun j => sm (fun i => f i j) n) m
  | 0 => sm_zero fun _ _ => rfl
  | m + 1 => by
    show sm (fun i => sm (fun j => f i j) m + f i m) n = _
    rw [sm_add, sm_swap f n m]
    rfl
/-- one place alone -/
theorem sm_one {f : Nat → Int} {p : Nat} : ∀ {n}, p < n → (∀ i, i < n → i ≠ p → f i = 0) → sm f n = f p
  | 0, h, _ => by omega
  | n + 1, h, hz => by
    show sm f n + f n = f p
    by_cases e : p = n
    · subst e
      rw [sm_zero fun i hi => hz i (by omega) (by omega), Int.zero_add]
    · rw [sm_one (p := p) (by omega) fun i hi => hz i (by omega), hz n (by omega) (fun z => e z.symm), Int.add_zero]
theorem sm_first (f : Nat → Int) : ∀ n, sm f (n + 1) = f 0 + sm (fun i => f (i + 1)) n
  | 0 => by show 0 + f 0 = f 0 + 0; simp
  | n + 1 => by
    show sm f (n + 1) + f (n + 1) = f 0 + (sm (fun i => f (i + 1)) n + f (n + 1))
    rw [sm_first f n, Int.add_assoc]
theorem sm_more {f : Nat → Int} {n m : Nat} (h : n ≤ m) (hz : ∀ i, n ≤ i → i < m → f i = 0) : sm f m = sm f n := by
  induction m with
  | zero => have : n = 0 := by omega
            subst this; rfl
  | succ m ih =>
    by_cases e : n = m + 1
    · subst e; rfl
    · show sm f m + f m = sm f n
      rw [ih (by omega) fun i a b => hz i a (by omega), hz m (by omega) (by omega), Int.add_zero]

/-! ### a matrix A with m rows of w entries: its kernel, its image, its rows -/
def dot (w : Nat) (u v : Vec) : Int := sm (fun i => u i * v i) w
theorem dot_lin (w : Nat) (a b : Int) (t u v : Vec) : dot w t (fun i => a * u i + b * v i) = a * dot w t u + b * dot w t v := by
  unfold dot
  rw [← sm_lin]
  exact sm_congr fun i _ => by grind
theorem dot_comm (w : Nat) (u v : Vec) : dot w u v = dot w v u := sm_congr fun i _ => Int.mul_comm _ _
def Ker (A : Nat → Vec) (m w : Nat) : Vec → Prop := fun v => (∀ i, w ≤ i → v i = 0) ∧ ∀ l, l < m → dot w (A l) v = 0
theorem ker_sub (A : Nat → Vec) (m w : Nat) : Sub w (Ker A m w) :=
  ⟨⟨fun _ _ => rfl, fun l _ => sm_zero fun i _ => Int.mul_zero _⟩, fun a b u v hu hv => ⟨fun i hi => by show a * u i + b * v i = 0; rw [hu.1 i hi, hv.1 i hi]; simp, fun l hl => by rw [dot_lin, hu.2 l hl, hv.2 l hl]; simp⟩, fun v hv => hv.1⟩
/-- what the matrix makes -/
def Img (A : Nat → Vec) (m w : Nat) : Vec → Prop := fun y => ∃ v, (∀ i, w ≤ i → v i = 0) ∧ (∀ l, l < m → y l = dot w (A l) v) ∧ ∀ l, m ≤ l → y l = 0
theorem img_sub (A : Nat → Vec) (m w : Nat) : Sub m (Img A m w) :=
  ⟨⟨fun _ => 0, fun _ _ => rfl, fun l _ => (sm_zero fun i _ => Int.mul_zero _).symm, fun _ _ => rfl⟩, fun a b y z ⟨u, u1, u2, u3⟩ ⟨v, v1, v2, v3⟩ => ⟨fun i => a * u i + b * v i, fun i hi => by show a * u i + b * v i = 0; rw [u1 i hi, v1 i hi]; simp,
    fun l hl => by show a * y l + b * z l = _; rw [dot_lin, u2 l hl, v2 l hl], fun l hl => by show a * y l + b * z l = 0; rw [u3 l hl, v3 l hl]; simp⟩, fun y ⟨_, _, _, h⟩ => h⟩
def unit (p : Nat) : Vec := fun i => if i = p then 1 else 0
/-- rank and nullity -/
theorem img_ker (A : Nat → Vec) (m w : Nat) : dim (Img A m w) m + dim (Ker A m w) w = w := by
  let G : Vec → Prop := fun g => (∀ l, l < m → g (w + l) = dot w (A l) g) ∧ ∀ i, w + m ≤ i → g i = 0
  have SG : Sub (w + m) G := ⟨⟨fun l _ => (sm_zero fun i _ => Int.mul_zero _).symm, fun _ _ => rfl⟩, fun a b u v hu hv => ⟨fun l hl => by rw [dot_lin]; show a * u (w + l) + b * v (w + l) = _; rw [hu.1 l hl, hv.1 l hl], fun i hi => by show a * u i + b * v i = 0; rw [hu.2 i hi, hv.2 i hi]; simp⟩, fun v hv => hv.2⟩
  have mk : ∀ v : Vec, ∃ g, G g ∧ ∀ i, i < w → g i = v i := fun v => by
    let g : Vec := fun i => if i < w then v i else if i < w + m then dot w (A (i - w)) v else 0
    have e : ∀ l, dot w (A l) g = dot w (A l) v := fun l => sm_congr fun i hi => by
      show A l i * (if i < w then v i else _) = _
      rw [if_pos hi]
    refine ⟨g, ⟨fun l hl => ?_, fun i hi => ?_⟩, fun i hi => ?_⟩
    · rw [e]
      show (if w + l < w then _ else if w + l < w + m then _ else _) = _
      rw [if_neg (by omega), if_pos (by omega), Nat.add_sub_cancel_left]
    · show (if i < w then _ else if i < w + m then _ else _) = _
      rw [if_neg (by omega), if_neg (by omega)]
    · show (if i < w then _ else _) = _
      rw [if_pos hi]
  have main := leads_trails SG
  have hl1 : cnt (Lead G) (w + m) = w := by
    rw [cnt_add, cnt_all, cnt_none]
    · rfl
    · rintro p hp ⟨g, hg, h1, h2⟩
      refine h1 ?_
      rw [hg.1 p hp]
      exact sm_zero fun i hi => by rw [h2 i (by omega), Int.mul_zero]
    · intro p hp
      obtain ⟨g, hg, e⟩ := mk (unit p)
      refine ⟨g, hg, ?_, fun i hi => ?_⟩
      · rw [e p hp]; unfold unit; rw [if_pos rfl]; decide
      · rw [e i (by omega)]; unfold unit; rw [if_neg (by omega)]
  have ht1 : cnt (Trail G) (w + m) = cnt (Trail (Ker A m w)) w + cnt (Trail (Img A m w)) m := by
    rw [cnt_add]
    congr 1
    · refine cnt_congr fun p hp => ⟨fun ⟨g, hg, h1, h2⟩ => ⟨g, ⟨fun i hi => h2 i (by omega), fun l hl => by rw [← hg.1 l hl]; exact h2 _ (by omega)⟩, h1, h2⟩, fun ⟨g, hg, h1, h2⟩ => ⟨g, ⟨fun l hl => by rw [hg.2 l hl]; exact h2 _ (by omega), fun i hi => h2 i (by omega)⟩, h1, h2⟩⟩
    · refine cnt_congr fun p hp => ⟨fun ⟨g, hg, h1, h2⟩ => ?_, fun ⟨y, ⟨v, v1, v2, v3⟩, h1, h2⟩ => ?_⟩
      · refine ⟨fun l => g (w + l), ⟨fun i => if i < w then g i else 0, fun i hi => if_neg (by omega), fun l hl => ?_, fun l hl => hg.2 _ (by omega)⟩, h1, fun i hi => h2 _ (by omega)⟩
        show g (w + l) = _
        rw [hg.1 l hl]
        exact sm_congr fun i hi => by show _ = A l i * (if i < w then g i else 0); rw [if_pos hi]
      · obtain ⟨g, hg, e⟩ := mk v
        have ed : ∀ l, l < m → g (w + l) = y l := fun l hl => by
          rw [hg.1 l hl, v2 l hl]
          exact sm_congr fun i hi => by rw [e i hi]
        refine ⟨g, hg, ?_, fun i hi => ?_⟩
        · rw [ed p hp]; exact h1
        · by_cases him : i < w + m
          · have := ed (i - w) (by omega)
            rw [show w + (i - w) = i by omega] at this
            rw [this]
            exact h2 _ (by omega)
          · exact hg.2 i (by omega)
  rw [dim_trails (img_sub A m w), dim_trails (ker_sub A m w)]
  omega
end Lin

/-! The echelon: rows as lists, elimination by any way of lessening, its end, its uniqueness. -/
namespace Lin
open Classical

def fn (r : List Int) : Vec := fun i => r.getD i 0
theorem fn_out {r : List Int} {i : Nat} (h : r.length ≤ i) : fn r i = 0 := by
  unfold fn
  rw [List.getD_eq_getElem?_getD, List.getElem?_eq_none h]
  rfl
theorem fn_in {r : List Int} {i : Nat} (h : i < r.length) : fn r i = r[i] := by
  unfold fn
  rw [List.getD_eq_getElem?_getD, List.getElem?_eq_getElem h]
  rfl
theorem fn_ext {r s : List Int} (h : r.length = s.length) (e : ∀ i, fn r i = fn s i) : r = s := by
  refine List.ext_getElem h fun i h1 h2 => ?_
  have := e i
  rwa [fn_in h1, fn_in h2] at this
theorem fn_map {r : List Int} {f : Int → Int} (h0 : f 0 = 0) (i : Nat) : fn (r.map f) i = f (fn r i) := by
  unfold fn
  simp only [List.getD_eq_getElem?_getD, List.getElem?_map]
  cases r[i]? with
  | none => simp [h0]
  | some x => rfl
theorem fn_zipWith {r s : List Int} {f : Int → Int → Int} (hl : r.length = s.length) (h0 : f 0 0 = 0) (i : Nat) : fn (List.zipWith f r s) i = f (fn r i) (fn s i) := by
  by_cases h : i < r.length
  · have h2 : i < s.length := by omega
    rw [fn_in h, fn_in h2, fn_in (by rw [List.length_zipWith]; omega), List.getElem_zipWith]
  · rw [fn_out (by omega : r.length ≤ i), fn_out (by omega : s.length ≤ i), fn_out (by rw [List.length_zipWith]; omega), h0]

/-! ### all that some rows make, by ratios -/
inductive Sat (S : Vec → Prop) : Vec → Prop
  | gen {v : Vec} : S v → Sat S v
  | zero : Sat S fun _ => 0
  | lin (a b : Int) {u v : Vec} : Sat S u → Sat S v → Sat S fun i => a * u i + b * v i
  | div {d : Int} {v : Vec} : d ≠ 0 → Sat S (fun i => d * v i) → Sat S v
theorem Sat.mono {S T : Vec → Prop} (h : ∀ v, S v → Sat T v) {v : Vec} (x : Sat S v) : Sat T v := by
  induction x with
  | gen q => exact h _ q
  | zero => exact .zero
  | lin a b _ _ i j => exact .lin a b i j
  | div hd _ i => exact .div hd i
theorem Sat.sub {S : Vec → Prop} {w : Nat} (h : ∀ v, S v → ∀ i, w ≤ i → v i = 0) : Sub w (Sat S) :=
  ⟨.zero, fun a b _ _ hu hv => .lin a b hu hv, fun v hv => by
    induction hv with
    | gen q => exact h _ q
    | zero => exact fun _ _ => rfl
    | lin a b _ _ i j => exact fun k hk => by show a * _ + b * _ = 0; rw [i k hk, j k hk]; simp
    | div hd _ i => exact fun k hk => (Int.mul_eq_zero.mp (i k hk)).resolve_left hd⟩
theorem Sat.mul {S : Vec → Prop} {v : Vec} (a : Int) (h : Sat S v) : Sat S fun i => a * v i := by
  have := Sat.lin a 0 h h
  have e : (fun i => a * v i + 0 * v i) = fun i => a * v i := by funext i; simp
  rwa [e] at this
/-- a row that is proportional to a sum -/
theorem Sat.of {S : Vec → Prop} {u v x : Vec} {a b c : Int} (hc : c ≠ 0) (hu : Sat S u) (hv : Sat S v) (e : ∀ i, c * x i = a * u i + b * v i) : Sat S x := by
  refine .div hc ?_
  have : (fun i => c * x i) = fun i => a * u i + b * v i := by funext i; exact e i
  rw [this]
  exact .lin a b hu hv
theorem Sat.prop {S : Vec → Prop} {u x : Vec} {a c : Int} (hc : c ≠ 0) (hu : Sat S u) (e : ∀ i, c * x i = a * u i) : Sat S x :=
  .of (a := a) (b := 0) hc hu hu fun i => by rw [e i]; simp
theorem Sat.sum {S : Vec → Prop} {f : Nat → Vec} : ∀ {n : Nat}, (∀ j, j < n → Sat S (f j)) → Sat S fun i => sm (fun j => f j i) n
  | 0, _ => .zero
  | n + 1, h => by
    have a := Sat.sum (S := S) (f := f) (n := n) fun j hj => h j (by omega)
    have b := h n (by omega)
    have e : (fun i => sm (fun j => f j i) (n + 1)) = fun i => 1 * sm (fun j => f j i) n + 1 * f n i := by
      funext i
      show sm (fun j => f j i) n + f n i = _
      simp
    rw [e]
    exact .lin 1 1 a b
def Rows (E : List (List Int)) : Vec → Prop := fun v => ∃ r, r ∈ E ∧ v = fn r
abbrev Sp (E : List (List Int)) : Vec → Prop := Sat (Rows E)
theorem Sp.of {E : List (List Int)} {r : List Int} (h : r ∈ E) : Sp E (fn r) := .gen ⟨r, h, rfl⟩
theorem Sp.mono {E F : List (List Int)} (h : ∀ r, r ∈ E → Sp F (fn r)) {v : Vec} (x : Sp E v) : Sp F v := Sat.mono (fun v ⟨r, hr, e⟩ => by rw [e]; exact h r hr) x
theorem Sp.sub {E : List (List Int)} {w : Nat} (h : ∀ r, r ∈ E → r.length = w) : Sub w (Sp E) := Sat.sub fun v ⟨r, hr, e⟩ i hi => by rw [e]; exact fn_out (by rw [h r hr]; exact hi)

/-! ### a way of lessening -/
structure LessOk (less : List Int → List Int → Nat → List Int) : Prop where
  len : ∀ {row head : List Int} {p : Nat}, row.length = head.length → fn head p ≠ 0 → (less row head p).length = row.length
  is : ∀ {row head : List Int} {p : Nat}, row.length = head.length → fn head p ≠ 0 → ∃ a b c : Int, a ≠ 0 ∧ c ≠ 0 ∧ (∀ i, c * fn (less row head p) i = a * fn row i + b * fn head i) ∧ fn (less row head p) p = 0
abbrev St := List (List Int) × List (List Int)
def step (less : List Int → List Int → Nat → List Int) (s : St) (p : Nat) : St :=
  match s.1.findIdx? (fun row => decide (row.getD p 0 ≠ 0)) with
  | none => s
  | some k => ((s.1.eraseIdx k).map (fun row => less row (s.1.getD k []) p), s.2.map (fun row => less row (s.1.getD k []) p) ++ [s.1.getD k []])
def run (less : List Int → List Int → Nat → List Int) (rows : List (List Int)) (w : Nat) : St := (List.range w).foldl (step less) (rows, [])
theorem run_succ (less : List Int → List Int → Nat → List Int) (rows : List (List Int)) (w : Nat) : run less rows (w + 1) = step less (run less rows w) w := by
  unfold run
  rw [List.range_succ, List.foldl_append]
  rfl

/-- rows with leads that ascend, each alone at its lead -/
structure Led (F : List (List Int)) (ls : List Nat) (w : Nat) : Prop where
  same : ls.length = F.length
  len : ∀ r, r ∈ F → r.length = w
  up : ls.Pairwise (· < ·)
  lt : ∀ l, l ∈ ls → l < w
  at_ : ∀ (j l : Nat) (r : List Int), F[j]? = some r → ls[j]? = some l → fn r l ≠ 0
  before : ∀ (j l : Nat) (r : List Int), F[j]? = some r → ls[j]? = some l → ∀ i, i < l → fn r i = 0
  alone : ∀ (j k l : Nat) (r : List Int), F[j]? = some r → ls[k]? = some l → j ≠ k → fn r l = 0

structure Going (rows : List (List Int)) (w p : Nat) (s : St) (ls : List Nat) : Prop where
  led : Led s.2 ls w
  below : ∀ l, l ∈ ls → l < p
  len : ∀ r, r ∈ s.1 → r.length = w
  zero : ∀ r, r ∈ s.1 → ∀ i, i < p → fn r i = 0
  to : ∀ v, Sp rows v → Sp (s.2 ++ s.1) v
  fro : ∀ v, Sp (s.2 ++ s.1) v → Sp rows v

section
variable {less : List Int → List Int → Nat → List Int} {rows : List (List Int)} {w p : Nat} {s : St} {ls : List Nat}
theorem getD_of {α : Type} {l : List α} {i : Nat} {d x : α} (h : l[i]? = some x) : l.getD i d = x := by
  rw [List.getD_eq_getElem?_getD, h]; rfl
theorem mem_erase {α : Type} {l : List α} {k : Nat} {x h : α} (hk : l[k]? = some h) (hx : x ∈ l) : x = h ∨ x ∈ l.eraseIdx k := by
  obtain ⟨i, hi⟩ := List.mem_iff_getElem?.mp hx
  by_cases e : i = k
  · subst e; rw [hk] at hi; exact .inl (Option.some.inj hi).symm
  · exact .inr (List.mem_eraseIdx_iff_getElem?.mpr ⟨i, e, hi⟩)
theorem Going.step (L : LessOk less) (G : Going rows w p s ls) (hp : p < w) : ∃ ls', Going rows w (p + 1) (step less s p) ls' ∧ (ls' = ls ∨ ls' = ls ++ [p]) := by
  unfold Lin.step
  split
  · rename_i hn
    have hn' := List.findIdx?_eq_none_iff.mp hn
    refine ⟨ls, ⟨G.led, fun l hl => Nat.lt_succ_of_lt (G.below l hl), G.len, fun r hr i hi => ?_, G.to, G.fro⟩, .inl rfl⟩
    rcases Nat.lt_or_eq_of_le (Nat.lt_succ_iff.mp hi) with q | q
    · exact G.zero r hr i q
    · have := hn' r hr
      rw [q]
      exact Classical.byContradiction fun z => by simp at this; exact z (by unfold fn; simpa using this)
  · rename_i k hk
    obtain ⟨hkl, hkp, _⟩ := List.findIdx?_eq_some_iff_getElem.mp hk
    have hk1 : s.1[k]? = some s.1[k] := List.getElem?_eq_getElem hkl
    rw [getD_of hk1]
    generalize hh : s.1[k] = head at hkp hk1
    have hmem : head ∈ s.1 := List.mem_of_getElem? hk1
    have hlen : head.length = w := G.len _ hmem
    have hne : fn head p ≠ 0 := of_decide_eq_true hkp
    have hz := G.zero _ hmem
    have lessLen : ∀ r : List Int, r.length = w → (less r head p).length = w := fun r hr => (L.len (hr.trans hlen.symm) hne).trans hr
    have memF : ∀ r, r ∈ s.2.map (fun row => less row head p) → ∃ r0, r0 ∈ s.2 ∧ r = less r0 head p := fun r hr => by
      obtain ⟨r0, a, b⟩ := List.mem_map.mp hr; exact ⟨r0, a, b.symm⟩
    have memL : ∀ r, r ∈ (s.1.eraseIdx k).map (fun row => less row head p) → ∃ r0, r0 ∈ s.1 ∧ r = less r0 head p := fun r hr => by
      obtain ⟨r0, a, b⟩ := List.mem_map.mp hr; exact ⟨r0, List.mem_of_mem_eraseIdx a, b.symm⟩
    have atF : ∀ (j : Nat) (r : List Int), (s.2.map (fun row => less row head p) ++ [head])[j]? = some r → (∃ r0, s.2[j]? = some r0 ∧ r = less r0 head p) ∨ (j = s.2.length ∧ r = head) := fun j r h => by
      by_cases e : j < s.2.length
      · rw [List.getElem?_append_left (by rw [List.length_map]; exact e), List.getElem?_map, List.getElem?_eq_getElem e] at h
        exact .inl ⟨_, List.getElem?_eq_getElem e, (Option.some.inj h).symm⟩
      · rw [List.getElem?_append_right (by rw [List.length_map]; omega), List.length_map] at h
        have : j - s.2.length = 0 := by
          have := (List.getElem?_eq_some_iff.mp h).1
          simp at this; omega
        rw [this] at h
        exact .inr ⟨by omega, (Option.some.inj h).symm⟩
    have atl : ∀ (j l : Nat), (ls ++ [p])[j]? = some l → (j < s.2.length ∧ ls[j]? = some l ∧ l < p) ∨ (j = s.2.length ∧ l = p) := fun j l h => by
      by_cases e : j < ls.length
      · rw [List.getElem?_append_left e] at h
        exact .inl ⟨by rw [← G.led.same]; exact e, h, G.below l (List.mem_of_getElem? h)⟩
      · rw [List.getElem?_append_right (by omega)] at h
        have hj := (List.getElem?_eq_some_iff.mp h).1
        simp at hj
        have : j - ls.length = 0 := by omega
        rw [this] at h
        exact .inr ⟨by rw [← G.led.same]; omega, (Option.some.inj h).symm⟩
    refine ⟨ls ++ [p], ⟨⟨?_, ?_, ?_, ?_, ?_, ?_, ?_⟩, ?_, ?_, ?_, ?_, ?_⟩, .inr rfl⟩
    · simp [G.led.same]
    · intro r hr
      rcases List.mem_append.mp hr with h | h
      · obtain ⟨r0, a, rfl⟩ := memF r h
        exact lessLen r0 (G.led.len r0 a)
      · rw [List.mem_singleton.mp h]; exact hlen
    · rw [List.pairwise_append]
      exact ⟨G.led.up, by simp, fun a ha b hb => by rw [List.mem_singleton.mp hb]; exact G.below a ha⟩
    · intro l hl
      rcases List.mem_append.mp hl with h | h
      · exact G.led.lt l h
      · rw [List.mem_singleton.mp h]; exact hp
    · intro j l r hr hl
      rcases atF j r hr with ⟨r0, a, rfl⟩ | ⟨rfl, rfl⟩
      · rcases atl j l hl with ⟨_, b, c⟩ | ⟨b, _⟩
        · obtain ⟨x, y, z, hx, hzz, e, _⟩ := L.is (row := r0) (head := head) (p := p) ((G.led.len r0 (List.mem_of_getElem? a)).trans hlen.symm) hne
          intro q
          have := e l
          rw [q, hz l c, Int.mul_zero, Int.mul_zero, Int.add_zero] at this
          exact Int.mul_ne_zero hx (G.led.at_ j l r0 a b) this.symm
        · have := (List.getElem?_eq_some_iff.mp a).1; omega
      · rcases atl _ l hl with ⟨b, _⟩ | ⟨_, rfl⟩
        · omega
        · exact hne
    · intro j l r hr hl i hi
      rcases atF j r hr with ⟨r0, a, rfl⟩ | ⟨rfl, rfl⟩
      · rcases atl j l hl with ⟨_, b, c⟩ | ⟨b, _⟩
        · obtain ⟨x, y, z, hx, hzz, e, _⟩ := L.is (row := r0) (head := head) (p := p) ((G.led.len r0 (List.mem_of_getElem? a)).trans hlen.symm) hne
          have := e i
          rw [hz i (by omega), G.led.before j l r0 a b i hi, Int.mul_zero, Int.mul_zero, Int.add_zero] at this
          exact (Int.mul_eq_zero.mp this).resolve_left hzz
        · have := (List.getElem?_eq_some_iff.mp a).1; omega
      · rcases atl _ l hl with ⟨b, _⟩ | ⟨_, rfl⟩
        · omega
        · exact hz i hi
    · intro j m l r hr hl hjm
      rcases atF j r hr with ⟨r0, a, rfl⟩ | ⟨rfl, rfl⟩
      · obtain ⟨x, y, z, hx, hzz, e, e0⟩ := L.is (row := r0) (head := head) (p := p) ((G.led.len r0 (List.mem_of_getElem? a)).trans hlen.symm) hne
        rcases atl m l hl with ⟨_, b, c⟩ | ⟨_, rfl⟩
        · have := e l
          rw [hz l c, G.led.alone j m l r0 a b hjm, Int.mul_zero, Int.mul_zero, Int.add_zero] at this
          exact (Int.mul_eq_zero.mp this).resolve_left hzz
        · exact e0
      · rcases atl m l hl with ⟨_, b, c⟩ | ⟨q, _⟩
        · exact hz l c
        · exact absurd q.symm hjm
    · intro l hl
      rcases List.mem_append.mp hl with h | h
      · exact Nat.lt_succ_of_lt (G.below l h)
      · rw [List.mem_singleton.mp h]; omega
    · intro r hr
      obtain ⟨r0, a, rfl⟩ := memL r hr
      exact lessLen r0 (G.len r0 a)
    · intro r hr i hi
      obtain ⟨r0, a, rfl⟩ := memL r hr
      obtain ⟨x, y, z, hx, hzz, e, e0⟩ := L.is (row := r0) (head := head) (p := p) ((G.len r0 a).trans hlen.symm) hne
      rcases Nat.lt_or_eq_of_le (Nat.lt_succ_iff.mp hi) with q | q
      · have := e i
        rw [hz i q, G.zero r0 a i q, Int.mul_zero, Int.mul_zero, Int.add_zero] at this
        exact (Int.mul_eq_zero.mp this).resolve_left hzz
      · rw [q]; exact e0
    · intro v hv
      refine Sp.mono (fun r hr => ?_) (G.to v hv)
      have hH : Sp (s.2.map (fun row => less row head p) ++ [head] ++ (s.1.eraseIdx k).map (fun row => less row head p)) (fn head) := Sp.of (by simp)
      have key : r.length = w → Sp (s.2.map (fun row => less row head p) ++ [head] ++ (s.1.eraseIdx k).map (fun row => less row head p)) (fn (less r head p)) → Sp (s.2.map (fun row => less row head p) ++ [head] ++ (s.1.eraseIdx k).map (fun row => less row head p)) (fn r) := fun hr h => by
        obtain ⟨x, y, z, hx, hzz, e, e0⟩ := L.is (row := r) (head := head) (p := p) (hr.trans hlen.symm) hne
        exact Sat.of (a := z) (b := -y) hx h hH fun i => by rw [e i]; grind
      rcases List.mem_append.mp hr with h | h
      · exact key (G.led.len r h) (Sp.of (by simp only [List.mem_append, List.mem_map]; exact .inl (.inl ⟨r, h, rfl⟩)))
      · rcases mem_erase hk1 h with q | q
        · rw [q]; exact hH
        · exact key (G.len r h) (Sp.of (by simp only [List.mem_append, List.mem_map]; exact .inr ⟨r, q, rfl⟩))
    · intro v hv
      refine G.fro v (Sp.mono (fun r hr => ?_) hv)
      have hH : Sp (s.2 ++ s.1) (fn head) := Sp.of (List.mem_append_right _ hmem)
      have key : ∀ r0 : List Int, r0.length = w → r0 ∈ s.2 ++ s.1 → Sp (s.2 ++ s.1) (fn (less r0 head p)) := fun r0 h0 hm => by
        obtain ⟨x, y, z, hx, hzz, e, e0⟩ := L.is (row := r0) (head := head) (p := p) (h0.trans hlen.symm) hne
        exact Sat.of (a := x) (b := y) hzz (Sp.of hm) hH e
      rcases List.mem_append.mp hr with h | h
      · rcases List.mem_append.mp h with h | h
        · obtain ⟨r0, a, rfl⟩ := memF r h
          exact key r0 (G.led.len r0 a) (List.mem_append_left _ a)
        · rw [List.mem_singleton.mp h]; exact hH
      · obtain ⟨r0, a, rfl⟩ := memL r h
        exact key r0 (G.len r0 a) (List.mem_append_right _ a)
theorem going (L : LessOk less) (hr : ∀ r, r ∈ rows → r.length = w) : ∀ p, p ≤ w → ∃ ls, Going rows w p (run less rows p) ls
  | 0, _ => ⟨[], ⟨⟨rfl, by simp [run], .nil, by simp, by simp [run], by simp [run], by simp⟩, by simp, hr, fun _ _ _ h => by omega, fun v hv => hv, fun v hv => hv⟩⟩
  | p + 1, h => by
    obtain ⟨ls, G⟩ := going L hr p (by omega)
    obtain ⟨ls', G', _⟩ := G.step L (by omega)
    rw [run_succ]
    exact ⟨ls', G'⟩
/-- the end of the elimination -/
theorem run_end (L : LessOk less) (hr : ∀ r, r ∈ rows → r.length = w) : ∃ ls, Led (run less rows w).2 ls w ∧ ∀ v, Sp (run less rows w).2 v ↔ Sp rows v := by
  obtain ⟨ls, G⟩ := going L hr w (Nat.le_refl _)
  refine ⟨ls, G.led, fun v => ⟨fun h => G.fro v (Sp.mono (fun r hr => Sp.of (List.mem_append_left _ hr)) h), fun h => ?_⟩⟩
  refine Sp.mono (fun r hr => ?_) (G.to v h)
  rcases List.mem_append.mp hr with q | q
  · exact Sp.of q
  · have e : fn r = fun _ => 0 := by
      funext i
      by_cases hi : i < w
      · exact G.zero r q i hi
      · exact fn_out (by rw [G.len r q]; omega)
    rw [e]
    exact .zero
end

/-! ### what led rows make -/
theorem mults {F : List (List Int)} {ls : List Nat} {w : Nat} (L : Led F ls w) : ∀ n, n ≤ F.length → ∃ M : Int, M ≠ 0 ∧ ∃ m : Nat → Int, ∀ j, j < n → M = m j * fn (F.getD j []) (ls.getD j 0)
  | 0, _ => ⟨1, by decide, fun _ => 0, fun j hj => by omega⟩
  | n + 1, h => by
    obtain ⟨M, hM, m, hm⟩ := mults L n (by omega)
    have h1 : F[n]? = some F[n] := List.getElem?_eq_getElem (by omega)
    have h2 : ls[n]? = some (ls[n]'(by rw [L.same]; omega)) := List.getElem?_eq_getElem (by rw [L.same]; omega)
    have hn := L.at_ n _ _ h1 h2
    refine ⟨M * fn F[n] (ls[n]'(by rw [L.same]; omega)), Int.mul_ne_zero hM hn, fun j => if j = n then M else m j * fn F[n] (ls[n]'(by rw [L.same]; omega)), fun j hj => ?_⟩
    by_cases e : j = n
    · subst e
      show _ = (if j = j then M else _) * _
      rw [if_pos rfl, getD_of h1, getD_of h2]
    · show _ = (if j = n then M else _) * _
      rw [if_neg e, hm j (by omega)]
      grind
/-- each row that they make is told by its entries at the leads -/
theorem Led.told {F : List (List Int)} {ls : List Nat} {w : Nat} (L : Led F ls w) {M : Int} {m : Nat → Int} (hm : ∀ j, j < F.length → M = m j * fn (F.getD j []) (ls.getD j 0)) {v : Vec} (hv : Sp F v) :
    ∀ i, M * v i = sm (fun j => m j * v (ls.getD j 0) * fn (F.getD j []) i) F.length := by
  induction hv with
  | gen h =>
    obtain ⟨r, hr, rfl⟩ := h
    intro i
    obtain ⟨k, hk⟩ := List.mem_iff_getElem?.mp hr
    have hkl := (List.getElem?_eq_some_iff.mp hk).1
    rw [sm_one (p := k) hkl fun j hj hne => ?_]
    · rw [getD_of hk, hm k hkl, getD_of hk]
    · have h2 : ls[j]? = some (ls[j]'(by rw [L.same]; omega)) := List.getElem?_eq_getElem (by rw [L.same]; omega)
      rw [getD_of h2, L.alone k j _ r hk h2 (fun z => hne z.symm)]
      simp
  | zero => intro i; rw [sm_zero fun j _ => by simp]; simp
  | @lin a b u v _ _ hu hv' =>
    intro i
    have e : M * (a * u i + b * v i) = a * (M * u i) + b * (M * v i) := by grind
    show M * (a * u i + b * v i) = _
    rw [e, hu i, hv' i, ← sm_lin]
    exact sm_congr fun j _ => by grind
  | @div d v hd _ h =>
    intro i
    have := h i
    have e : sm (fun j => m j * (d * v (ls.getD j 0)) * fn (F.getD j []) i) F.length = d * sm (fun j => m j * v (ls.getD j 0) * fn (F.getD j []) i) F.length := by
      rw [← sm_mul]
      exact sm_congr fun j _ => by grind
    rw [e] at this
    refine Int.eq_of_mul_eq_mul_left hd ?_
    rw [← this]; grind
theorem Led.lead {F : List (List Int)} {ls : List Nat} {w : Nat} (L : Led F ls w) (p : Nat) : Lead (Sp F) p ↔ p ∈ ls := by
  constructor
  · rintro ⟨v, hv, h1, h2⟩
    obtain ⟨M, hM, m, hm⟩ := mults L F.length (Nat.le_refl _)
    have e := L.told hm hv p
    refine Classical.byContradiction fun hn => ?_
    rw [sm_zero fun j hj => ?_] at e
    · exact Int.mul_ne_zero hM h1 e
    · have h3 : ls[j]? = some (ls[j]'(by rw [L.same]; omega)) := List.getElem?_eq_getElem (by rw [L.same]; omega)
      have h4 : F[j]? = some F[j] := List.getElem?_eq_getElem hj
      rw [getD_of h3, getD_of h4]
      generalize hl : (ls[j]'(by rw [L.same]; omega)) = l at h3
      have hne : l ≠ p := fun z => hn (z ▸ List.mem_of_getElem? h3)
      rcases Nat.lt_or_gt_of_ne hne with q | q
      · rw [h2 l q]; simp
      · rw [L.before j l _ h4 h3 p q]; simp
  · intro hp
    obtain ⟨j, hj⟩ := List.mem_iff_getElem?.mp hp
    have hjl := (List.getElem?_eq_some_iff.mp hj).1
    have h4 : F[j]? = some (F[j]'(by rw [← L.same]; exact hjl)) := List.getElem?_eq_getElem _
    exact ⟨_, Sp.of (List.mem_of_getElem? h4), L.at_ j p _ h4 hj, L.before j p _ h4 hj⟩
theorem cnt_mem : ∀ {w : Nat} {ls : List Nat}, ls.Pairwise (· < ·) → (∀ l, l ∈ ls → l < w) → cnt (fun p => p ∈ ls) w = ls.length
  | 0, [], _, _ => rfl
  | 0, l :: _, _, h => by have := h l (by simp); omega
  | w + 1, ls, hp, hl => by
    by_cases hw : w ∈ ls
    · -- w is the last
      have hne : ls ≠ [] := fun e => by rw [e] at hw; simp at hw
      have hdl := List.dropLast_concat_getLast hne
      have hp' : (ls.dropLast ++ [ls.getLast hne]).Pairwise (· < ·) := by rw [hdl]; exact hp
      rw [List.pairwise_append] at hp'
      have hmx : ls.getLast hne = w := by
        have h1 : ls.getLast hne < w + 1 := hl _ (List.getLast_mem hne)
        have h2 : w ∈ ls.dropLast ++ [ls.getLast hne] := by rw [hdl]; exact hw
        rcases List.mem_append.mp h2 with q | q
        · have := hp'.2.2 w q (ls.getLast hne) (by simp); omega
        · exact (List.mem_singleton.mp q).symm
      have ih := cnt_mem (w := w) (ls := ls.dropLast) hp'.1 fun l h => by
        have := hp'.2.2 l h (ls.getLast hne) (by simp); omega
      have e1 : cnt (fun p => p ∈ ls) (w + 1) = cnt (fun p => p ∈ ls) w + 1 := cnt_succ_pos (P := fun p => p ∈ ls) hw
      rw [e1]
      have e2 : cnt (fun p => p ∈ ls) w = cnt (fun p => p ∈ ls.dropLast) w := cnt_congr fun p hpw => by
        constructor
        · intro h
          have h2 : p ∈ ls.dropLast ++ [ls.getLast hne] := by rw [hdl]; exact h
          rcases List.mem_append.mp h2 with q | q
          · exact q
          · rw [List.mem_singleton.mp q, hmx] at hpw; omega
        · exact fun h => List.dropLast_subset _ h
      rw [e2, ih, List.length_dropLast]
      have : 0 < ls.length := List.length_pos_iff.mpr hne
      omega
    · have e1 : cnt (fun p => p ∈ ls) (w + 1) = cnt (fun p => p ∈ ls) w := by
        exact cnt_succ_neg (P := fun p => p ∈ ls) hw
      rw [e1]
      exact cnt_mem hp fun l h => by
        have := hl l h
        have : l ≠ w := fun z => hw (z ▸ h)
        omega
theorem Led.count {F : List (List Int)} {ls : List Nat} {w : Nat} (L : Led F ls w) : dim (Sp F) w = F.length := by
  have e : dim (Sp F) w = cnt (fun p => p ∈ ls) w := cnt_congr fun p _ => L.lead p
  rw [e, cnt_mem L.up L.lt, L.same]

theorem eq_of_sorted : ∀ {l m : List Nat}, l.Pairwise (· < ·) → m.Pairwise (· < ·) → (∀ p, p ∈ l ↔ p ∈ m) → l = m
  | [], [], _, _, _ => rfl
  | [], b :: m, _, _, h => by have := (h b).mpr (by simp); simp at this
  | a :: l, [], _, _, h => by have := (h a).mp (by simp); simp at this
  | a :: l, b :: m, h1, h2, h => by
    obtain ⟨h1a, h1b⟩ := List.pairwise_cons.mp h1
    obtain ⟨h2a, h2b⟩ := List.pairwise_cons.mp h2
    have e : a = b := by
      have x := (h a).mp (by simp)
      have y := (h b).mpr (by simp)
      rcases List.mem_cons.mp x with x | x
      · exact x
      · rcases List.mem_cons.mp y with y | y
        · exact y.symm
        · have := h2a a x; have := h1a b y; omega
    subst e
    rw [eq_of_sorted h1b h2b fun p => ⟨fun q => ?_, fun q => ?_⟩]
    · rcases List.mem_cons.mp ((h p).mp (List.mem_cons_of_mem _ q)) with z | z
      · have := h1a p q; omega
      · exact z
    · rcases List.mem_cons.mp ((h p).mpr (List.mem_cons_of_mem _ q)) with z | z
      · have := h2a p q; omega
      · exact z
end Lin

/-! Rows without common divisors; the echelon is the only one; kernels. -/
namespace Lin
open Classical

/-! ### what numbers share -/
def shN (xs : List Int) : Nat := xs.foldl (fun f n => Nat.gcd f n.natAbs) 0
theorem shN_from : ∀ (xs : List Int) (a : Nat), xs.foldl (fun f n => Nat.gcd f n.natAbs) a = Nat.gcd a (shN xs)
  | [], a => by show a = Nat.gcd a 0; rw [Nat.gcd_zero_right]
  | x :: xs, a => by
    show xs.foldl _ (Nat.gcd a x.natAbs) = Nat.gcd a (xs.foldl _ (Nat.gcd 0 x.natAbs))
    rw [shN_from xs, shN_from xs (Nat.gcd 0 x.natAbs), Nat.gcd_zero_left, Nat.gcd_assoc]
theorem shN_cons (x : Int) (xs : List Int) : shN (x :: xs) = Nat.gcd x.natAbs (shN xs) := by
  show xs.foldl _ (Nat.gcd 0 x.natAbs) = _
  rw [shN_from, Nat.gcd_zero_left]
theorem shN_dvd : ∀ {xs : List Int} {x : Int}, x ∈ xs → shN xs ∣ x.natAbs
  | y :: ys, x, h => by
    rw [shN_cons]
    rcases List.mem_cons.mp h with e | e
    · rw [e]; exact Nat.gcd_dvd_left _ _
    · exact Nat.dvd_trans (Nat.gcd_dvd_right _ _) (shN_dvd e)
theorem dvd_shN : ∀ {xs : List Int} {d : Nat}, (∀ x, x ∈ xs → d ∣ x.natAbs) → d ∣ shN xs
  | [], d, _ => by show d ∣ 0; exact Nat.dvd_zero d
  | y :: ys, d, h => by
    rw [shN_cons]
    exact Nat.dvd_gcd (h y (by simp)) (dvd_shN fun x hx => h x (List.mem_cons_of_mem _ hx))
theorem shN_zero {xs : List Int} : shN xs = 0 ↔ ∀ x, x ∈ xs → x = 0 := by
  constructor
  · intro h x hx
    have := shN_dvd hx
    rw [h] at this
    have := Nat.eq_zero_of_zero_dvd this
    omega
  · intro h
    refine Nat.eq_zero_of_zero_dvd (dvd_shN fun x hx => ?_)
    rw [h x hx]; exact Nat.dvd_refl 0
theorem shN_mul (a : Int) : ∀ xs : List Int, shN (xs.map (a * ·)) = a.natAbs * shN xs
  | [] => by show (0 : Nat) = a.natAbs * 0; simp
  | x :: xs => by
    rw [List.map_cons, shN_cons, shN_cons, shN_mul a xs, Int.natAbs_mul, Nat.gcd_mul_left]
theorem shN_neg (xs : List Int) : shN (xs.map (-·)) = shN xs := by
  have := shN_mul (-1) xs
  rw [show (-1 : Int).natAbs = 1 from rfl, Nat.one_mul] at this
  rw [← this]
  congr 1
  exact List.map_congr_left fun x _ => by omega
theorem shN_map_dvd {xs : List Int} {x : Int} (h : x ∈ xs) : (shN xs : Int) ∣ x := Int.ofNat_dvd_left.mpr (shN_dvd h)

/-- the first one that is not 0, or 0 -/
def fst0 (xs : List Int) : Int := (xs.find? (fun x => decide (x ≠ 0))).getD 0
theorem fst0_cons_zero {xs : List Int} : fst0 (0 :: xs) = fst0 xs := rfl
theorem fst0_cons {x : Int} {xs : List Int} (h : x ≠ 0) : fst0 (x :: xs) = x := by
  unfold fst0
  rw [List.find?_cons_of_pos (by simpa using h)]
  rfl
theorem fn_cons_succ (x : Int) (xs : List Int) (i : Nat) : fn (x :: xs) (i + 1) = fn xs i := rfl
theorem fn_cons_zero (x : Int) (xs : List Int) : fn (x :: xs) 0 = x := rfl
theorem fst0_lead : ∀ {xs : List Int} {l : Nat}, fn xs l ≠ 0 → (∀ i, i < l → fn xs i = 0) → fst0 xs = fn xs l
  | [], l, h, _ => absurd (fn_out (by simp)) h
  | x :: xs, 0, h, _ => fst0_cons h
  | x :: xs, l + 1, h, hb => by
    have : x = 0 := hb 0 (by omega)
    subst this
    rw [fst0_cons_zero]
    exact fst0_lead (xs := xs) (l := l) h fun i hi => hb (i + 1) (by omega)
theorem fst0_zero : ∀ {xs : List Int}, (∀ x, x ∈ xs → x = 0) → fst0 xs = 0
  | [], _ => rfl
  | x :: xs, h => by
    have : x = 0 := h x (by simp)
    subst this
    rw [fst0_cons_zero]
    exact fst0_zero fun x hx => h x (List.mem_cons_of_mem _ hx)

/-- without common divisors, the first one above 0 -/
def prim (xs : List Int) : List Int :=
  if shN xs = 0 then xs else xs.map fun n => Int.fdiv n (if fst0 xs > 0 then (shN xs : Int) else -(shN xs : Int))
theorem prim_len (xs : List Int) : (prim xs).length = xs.length := by
  unfold prim
  split
  · rfl
  · rw [List.length_map]
structure Nrm (r : List Int) : Prop where
  one : shN r = 1
  pos : ∀ l, fn r l ≠ 0 → (∀ i, i < l → fn r i = 0) → 0 < fn r l
theorem prim_of {xs : List Int} (h : shN xs ≠ 0) : ∃ c : Int, c ≠ 0 ∧ xs = (prim xs).map (c * ·) ∧ c.natAbs = shN xs ∧ (0 < c ↔ 0 < fst0 xs) := by
  refine ⟨if fst0 xs > 0 then (shN xs : Int) else -(shN xs : Int), ?_, ?_, ?_, ?_⟩
  · split <;> omega
  · unfold prim
    rw [if_neg h, List.map_map]
    refine (List.map_id xs).symm.trans (List.map_congr_left fun x hx => ?_)
    have hd : (if fst0 xs > 0 then (shN xs : Int) else -(shN xs : Int)) ∣ x := by
      split
      · exact shN_map_dvd hx
      · exact Int.neg_dvd.mpr (shN_map_dvd hx)
    obtain ⟨q, hq⟩ := hd
    have hc : (if fst0 xs > 0 then (shN xs : Int) else -(shN xs : Int)) ≠ 0 := by split <;> omega
    show x = _ * Int.fdiv x _
    generalize (if fst0 xs > 0 then (shN xs : Int) else -(shN xs : Int)) = c at hq hc
    rw [hq, Int.mul_fdiv_cancel_left q hc]
  · split <;> omega
  · split
    · constructor <;> omega
    · constructor <;> omega
theorem fn_mul {r s : List Int} {c : Int} (e : r = s.map (c * ·)) (i : Nat) : fn r i = c * fn s i := by
  rw [e, fn_map (by simp)]
theorem prim_fn {xs : List Int} (h : shN xs ≠ 0) : ∃ c : Int, c ≠ 0 ∧ ∀ i, fn xs i = c * fn (prim xs) i :=
  let ⟨c, h1, h2, _⟩ := prim_of h
  ⟨c, h1, fn_mul h2⟩
theorem prim_nrm {xs : List Int} (h : shN xs ≠ 0) : Nrm (prim xs) := by
  obtain ⟨c, h1, h2, h3, h4⟩ := prim_of h
  refine ⟨?_, fun l hl hb => ?_⟩
  · have := shN_mul c (prim xs)
    rw [← h2, h3] at this
    have e : shN xs * 1 = shN xs * shN (prim xs) := by rw [Nat.mul_one]; exact this
    exact (Nat.eq_of_mul_eq_mul_left (Nat.pos_of_ne_zero h) e).symm
  · have e := fn_mul h2
    have hf : fst0 xs = fn xs l := fst0_lead (by rw [e]; exact Int.mul_ne_zero h1 hl) fun i hi => by rw [e, hb i hi]; simp
    rw [hf, e] at h4
    rcases Int.lt_or_lt_of_ne h1 with q | q
    · have h5 : ¬ 0 < c * fn (prim xs) l := fun z => by have := h4.mpr z; omega
      rcases Int.lt_or_lt_of_ne hl with z | z
      · exact absurd (Int.mul_pos_of_neg_of_neg q z) h5
      · exact z
    · have h5 := h4.mp q
      exact Classical.byContradiction fun z => by
        have : fn (prim xs) l < 0 := by omega
        have := Int.mul_neg_of_pos_of_neg q this
        omega
theorem shN_ne {r : List Int} {l : Nat} (h : fn r l ≠ 0) : shN r ≠ 0 := fun z => h (by
  have := shN_zero.mp z
  by_cases hl : l < r.length
  · rw [fn_in hl]; exact this _ (List.getElem_mem hl)
  · exact fn_out (by omega))
/-- two rows without common divisors that are multiples are one -/
theorem nrm_eq {r s : List Int} {a b : Int} {l : Nat} (hr : Nrm r) (hs : Nrm s) (hlen : r.length = s.length) (ha : a ≠ 0) (hb : b ≠ 0) (e : ∀ i, a * fn r i = b * fn s i) (hl : fn r l ≠ 0) : r = s := by
  obtain ⟨l, hle, hl1, hl2⟩ := first_nonzero (fn r) l hl
  have p1 := hr.pos l hl1 hl2
  have hs1 : fn s l ≠ 0 := fun z => by
    have := e l
    rw [z, Int.mul_zero] at this
    exact Int.mul_ne_zero ha hl1 this
  have p2 := hs.pos l hs1 fun i hi => by
    have := e i
    rw [hl2 i hi, Int.mul_zero] at this
    exact (Int.mul_eq_zero.mp this.symm).resolve_left hb
  have el : r.map (a * ·) = s.map (b * ·) := fn_ext (by simp [hlen]) fun i => by rw [fn_map (by simp), fn_map (by simp)]; exact e i
  have e1 := shN_mul a r
  rw [el, shN_mul, hr.one, hs.one] at e1
  have hab : a.natAbs = b.natAbs := by omega
  have h3 := e l
  have : a = b := by
    rcases Int.natAbs_eq_natAbs_iff.mp hab with z | z
    · exact z
    · exfalso
      rw [z] at h3
      have h4 : b * (fn s l + fn r l) = 0 := by grind
      rcases Int.mul_eq_zero.mp h4 with q | q
      · exact hb q
      · omega
  subst this
  exact fn_ext hlen fun i => Int.eq_of_mul_eq_mul_left ha (e i)

/-! ### the echelon -/
def Ech (E : List (List Int)) (w : Nat) : Prop := ∃ ls, Led E ls w ∧ ∀ r, r ∈ E → Nrm r
theorem Led.ne {F : List (List Int)} {ls : List Nat} {w : Nat} (L : Led F ls w) {r : List Int} (h : r ∈ F) : shN r ≠ 0 := by
  obtain ⟨j, hj⟩ := List.mem_iff_getElem?.mp h
  have hjl := (List.getElem?_eq_some_iff.mp hj).1
  exact shN_ne (L.at_ j _ r hj (List.getElem?_eq_getElem (by rw [L.same]; exact hjl)))
theorem Led.prims {F : List (List Int)} {ls : List Nat} {w : Nat} (L : Led F ls w) : Led (F.map prim) ls w := by
  have at' : ∀ (j : Nat) (r : List Int), (F.map prim)[j]? = some r → ∃ r0 c, F[j]? = some r0 ∧ c ≠ 0 ∧ ∀ i, fn r0 i = c * fn r i := fun j r h => by
    rw [List.getElem?_map] at h
    cases e : F[j]? with
    | none => rw [e] at h; cases h
    | some r0 =>
      rw [e] at h
      have h' := Option.some.inj h
      obtain ⟨c, h1, h2⟩ := prim_fn (L.ne (List.mem_of_getElem? e))
      exact ⟨r0, c, rfl, h1, by rw [← h']; exact h2⟩
  refine ⟨by rw [List.length_map]; exact L.same, fun r hr => ?_, L.up, L.lt, fun j l r hr hl => ?_, fun j l r hr hl i hi => ?_, fun j k l r hr hl hne => ?_⟩
  · obtain ⟨r0, a, rfl⟩ := List.mem_map.mp hr
    rw [prim_len]; exact L.len r0 a
  · obtain ⟨r0, c, h1, h2, h3⟩ := at' j r hr
    intro z
    exact L.at_ j l r0 h1 hl (by rw [h3, z, Int.mul_zero])
  · obtain ⟨r0, c, h1, h2, h3⟩ := at' j r hr
    have := L.before j l r0 h1 hl i hi
    rw [h3] at this
    exact (Int.mul_eq_zero.mp this).resolve_left h2
  · obtain ⟨r0, c, h1, h2, h3⟩ := at' j r hr
    have := L.alone j k l r0 h1 hl hne
    rw [h3] at this
    exact (Int.mul_eq_zero.mp this).resolve_left h2
theorem prims_span {F : List (List Int)} (h : ∀ r, r ∈ F → shN r ≠ 0) (v : Vec) : Sp (F.map prim) v ↔ Sp F v := by
  constructor
  · refine Sp.mono fun r hr => ?_
    obtain ⟨r0, a, rfl⟩ := List.mem_map.mp hr
    obtain ⟨c, h1, h2⟩ := prim_fn (h r0 a)
    exact Sat.prop (a := 1) h1 (Sp.of a) fun i => by rw [← h2 i]; simp
  · refine Sp.mono fun r hr => ?_
    obtain ⟨c, h1, h2⟩ := prim_fn (h r hr)
    exact Sat.prop (a := c) (c := 1) (by decide) (Sp.of (List.mem_map.mpr ⟨r, hr, rfl⟩)) fun i => by rw [← h2 i]; simp
def echelon (less : List Int → List Int → Nat → List Int) (rows : List (List Int)) (w : Nat) : List (List Int) := (run less rows w).2.map prim
theorem echelon_ok {less : List Int → List Int → Nat → List Int} {rows : List (List Int)} {w : Nat} (L : LessOk less) (hr : ∀ r, r ∈ rows → r.length = w) : Ech (echelon less rows w) w ∧ ∀ v, Sp (echelon less rows w) v ↔ Sp rows v := by
  obtain ⟨ls, h1, h2⟩ := run_end L hr
  refine ⟨⟨ls, h1.prims, fun r hr => ?_⟩, fun v => (prims_span (fun r hr => h1.ne hr) v).trans (h2 v)⟩
  obtain ⟨r0, a, rfl⟩ := List.mem_map.mp hr
  exact prim_nrm (h1.ne a)
/-- THE ONLY ONE -/
theorem ech_unique {E F : List (List Int)} {w : Nat} (hE : Ech E w) (hF : Ech F w) (h : ∀ v, Sp E v ↔ Sp F v) : E = F := by
  obtain ⟨ls, L, N⟩ := hE
  obtain ⟨ms, M, N'⟩ := hF
  have els : ls = ms := eq_of_sorted L.up M.up fun p => by
    rw [← L.lead p, ← M.lead p]
    exact ⟨fun ⟨v, a, b⟩ => ⟨v, (h v).mp a, b⟩, fun ⟨v, a, b⟩ => ⟨v, (h v).mpr a, b⟩⟩
  subst els
  have hl : E.length = F.length := by rw [← L.same, M.same]
  refine List.ext_getElem? fun j => ?_
  by_cases hj : j < E.length
  · have e1 : E[j]? = some E[j] := List.getElem?_eq_getElem hj
    have e2 : F[j]? = some (F[j]'(by omega)) := List.getElem?_eq_getElem (by omega)
    have e3 : ls[j]? = some (ls[j]'(by rw [L.same]; exact hj)) := List.getElem?_eq_getElem _
    rw [e1, e2]
    generalize E[j] = r at e1
    generalize (F[j]'(by omega)) = s at e2
    generalize (ls[j]'(by rw [L.same]; exact hj)) = l at e3
    have hr := L.at_ j l r e1 e3
    have hs := M.at_ j l s e2 e3
    let x : Vec := fun i => fn s l * fn r i + (- fn r l) * fn s i
    have hx : Sp E x := .lin _ _ (Sp.of (List.mem_of_getElem? e1)) ((h _).mpr (Sp.of (List.mem_of_getElem? e2)))
    obtain ⟨D, hD, m, hm⟩ := mults L E.length (Nat.le_refl _)
    have x0 : ∀ i, x i = 0 := fun i => by
      have t := L.told hm hx i
      rw [sm_zero fun k hk => ?_] at t
      · exact (Int.mul_eq_zero.mp t).resolve_left hD
      · have e5 : ls[k]? = some (ls[k]'(by rw [L.same]; exact hk)) := List.getElem?_eq_getElem _
        rw [getD_of e5]
        generalize (ls[k]'(by rw [L.same]; exact hk)) = q at e5
        have : x q = 0 := by
          show fn s l * fn r q + (- fn r l) * fn s q = 0
          by_cases ek : j = k
          · subst ek
            rw [e3] at e5
            have := Option.some.inj e5
            subst this
            grind
          · rw [L.alone j k q r e1 e5 ek, M.alone j k q s e2 e5 ek]; simp
        rw [this]; simp
    congr 1
    refine nrm_eq (N r (List.mem_of_getElem? e1)) (N' s (List.mem_of_getElem? e2)) ((L.len r (List.mem_of_getElem? e1)).trans (M.len s (List.mem_of_getElem? e2)).symm) hs hr (fun i => ?_) hr
    have := x0 i
    show fn s l * fn r i = fn r l * fn s i
    have : fn s l * fn r i + (- fn r l) * fn s i = 0 := this
    grind
  · rw [List.getElem?_eq_none (by omega), List.getElem?_eq_none (by omega)]
theorem echelon_eq {less less' : List Int → List Int → Nat → List Int} {rows rows' : List (List Int)} {w : Nat} (L : LessOk less) (L' : LessOk less') (hr : ∀ r, r ∈ rows → r.length = w) (hr' : ∀ r, r ∈ rows' → r.length = w)
    (h : ∀ v, Sp rows v ↔ Sp rows' v) : echelon less rows w = echelon less' rows' w := by
  obtain ⟨a, b⟩ := echelon_ok L hr
  obtain ⟨a', b'⟩ := echelon_ok L' hr'
  exact ech_unique a a' fun v => (b v).trans ((h v).trans (b' v).symm)

/-! ### kernels -/
def KerR (rows : List (List Int)) (w : Nat) : Vec → Prop := fun v => (∀ i, w ≤ i → v i = 0) ∧ ∀ r, r ∈ rows → dot w (fn r) v = 0
theorem kerR_sp {rows : List (List Int)} {w : Nat} {v : Vec} (h : KerR rows w v) {u : Vec} (hu : Sp rows u) : dot w u v = 0 := by
  induction hu with
  | gen q => obtain ⟨r, hr, rfl⟩ := q; exact h.2 r hr
  | zero => exact sm_zero fun i _ => Int.zero_mul _
  | lin a b _ _ i j => rw [dot_comm, dot_lin, dot_comm, i, dot_comm, j]; simp
  | @div d x hd _ i =>
    have e : dot w (fun i => d * x i) v = d * dot w x v := by
      unfold dot
      rw [← sm_mul]
      exact sm_congr fun i _ => by grind
    rw [e] at i
    exact (Int.mul_eq_zero.mp i).resolve_left hd
theorem kerR_congr {rows rows' : List (List Int)} {w : Nat} (h : ∀ v, Sp rows v ↔ Sp rows' v) (v : Vec) : KerR rows w v ↔ KerR rows' w v :=
  ⟨fun k => ⟨k.1, fun r hr => kerR_sp k ((h _).mpr (Sp.of hr))⟩, fun k => ⟨k.1, fun r hr => kerR_sp k ((h _).mp (Sp.of hr))⟩⟩
theorem kerR_sub (rows : List (List Int)) (w : Nat) : Sub w (KerR rows w) :=
  ⟨⟨fun _ _ => rfl, fun r _ => sm_zero fun i _ => Int.mul_zero _⟩, fun a b u v hu hv => ⟨fun i hi => by show a * u i + b * v i = 0; rw [hu.1 i hi, hv.1 i hi]; simp, fun r hr => by rw [dot_lin, hu.2 r hr, hv.2 r hr]; simp⟩, fun v hv => hv.1⟩
theorem kerR_sat {rows : List (List Int)} {w : Nat} {F : List (List Int)} (h : ∀ r, r ∈ F → KerR rows w (fn r)) {v : Vec} (hv : Sp F v) : KerR rows w v := by
  induction hv with
  | gen q => obtain ⟨r, hr, rfl⟩ := q; exact h r hr
  | zero => exact (kerR_sub rows w).zero
  | lin a b _ _ i j => exact (kerR_sub rows w).lin a b _ _ i j
  | @div d x hd _ i =>
    refine ⟨fun k hk => (Int.mul_eq_zero.mp (i.1 k hk)).resolve_left hd, fun r hr => ?_⟩
    have := i.2 r hr
    have e : dot w (fn r) (fun i => d * x i) = d * dot w (fn r) x := by
      unfold dot
      rw [← sm_mul]
      exact sm_congr fun i _ => by grind
    rw [e] at this
    exact (Int.mul_eq_zero.mp this).resolve_left hd

/-- a row for each free place: W there, at each lead what makes the products 0 -/
structure Frees (T : List (List Int)) (ls : List Nat) (w : Nat) (W : Int) (m : Nat → Int) (free : List Nat) (found : List (List Int)) : Prop where
  ne : W ≠ 0
  mul : ∀ j, j < T.length → W = m j * fn (T.getD j []) (ls.getD j 0)
  mem : ∀ p, p ∈ free ↔ p < w ∧ p ∉ ls
  up : free.Pairwise (· < ·)
  same : found.length = free.length
  len : ∀ r, r ∈ found → r.length = w
  own : ∀ (k f : Nat) (r : List Int), found[k]? = some r → free[k]? = some f → fn r f = W
  other : ∀ (k f : Nat) (r : List Int), found[k]? = some r → free[k]? = some f → ∀ p, p ∉ ls → p ≠ f → fn r p = 0
  lead : ∀ (k f : Nat) (r : List Int), found[k]? = some r → free[k]? = some f → ∀ (j l : Nat) (t : List Int), T[j]? = some t → ls[j]? = some l → fn r l = - (m j) * fn t f
section
variable {T : List (List Int)} {ls : List Nat} {w : Nat} {W : Int} {m : Nat → Int} {free : List Nat} {found : List (List Int)}
/-- each of these rows is in the kernel -/
theorem Frees.in_ker (L : Led T ls w) (F : Frees T ls w W m free found) {r : List Int} (hr : r ∈ found) : KerR T w (fn r) := by
  obtain ⟨k, hk⟩ := List.mem_iff_getElem?.mp hr
  have hkl := (List.getElem?_eq_some_iff.mp hk).1
  have hf : free[k]? = some (free[k]'(by rw [← F.same]; exact hkl)) := List.getElem?_eq_getElem _
  generalize (free[k]'(by rw [← F.same]; exact hkl)) = f at hf
  have hfm := (F.mem f).mp (List.mem_of_getElem? hf)
  refine ⟨fun i hi => fn_out (by rw [F.len r hr]; exact hi), fun t ht => ?_⟩
  obtain ⟨j, hj⟩ := List.mem_iff_getElem?.mp ht
  have hjl := (List.getElem?_eq_some_iff.mp hj).1
  have hl : ls[j]? = some (ls[j]'(by rw [L.same]; exact hjl)) := List.getElem?_eq_getElem _
  generalize (ls[j]'(by rw [L.same]; exact hjl)) = l at hl
  have hlw := L.lt l (List.mem_of_getElem? hl)
  have hlf : l ≠ f := fun e => hfm.2 (e ▸ List.mem_of_getElem? hl)
  -- only l and f matter
  have hz : ∀ i, i < w → i ≠ l → i ≠ f → fn t i * fn r i = 0 := fun i _ h1 h2 => by
    by_cases hi : i ∈ ls
    · obtain ⟨q, hq⟩ := List.mem_iff_getElem?.mp hi
      have : q ≠ j := fun e => h1 (by rw [e, hl] at hq; exact (Option.some.inj hq).symm)
      rw [L.alone j q i t hj hq (fun e => this e.symm)]; simp
    · rw [F.other k f r hk hf i hi h2]; simp
  have e1 : dot w (fn t) (fn r) = sm (fun i => (if i = l then fn t l * fn r l else 0) + (if i = f then fn t f * fn r f else 0)) w := sm_congr fun i hi => by
    by_cases a : i = l
    · rw [if_pos a, if_neg (fun z => hlf (a ▸ z)), a]; simp
    · by_cases b : i = f
      · rw [if_neg a, if_pos b, b]; simp
      · rw [if_neg a, if_neg b, hz i hi a b]; simp
  rw [e1, sm_add, sm_one (p := l) hlw fun i _ h => if_neg h, sm_one (p := f) hfm.1 fun i _ h => if_neg h, if_pos rfl, if_pos rfl, F.lead k f r hk hf j l t hj hl, F.own k f r hk hf, F.mul j hjl, getD_of hj, getD_of hl]
  grind
/-- and they make all of it -/
theorem Frees.span (L : Led T ls w) (F : Frees T ls w W m free found) (v : Vec) : Sp found v ↔ KerR T w v := by
  refine ⟨fun h => kerR_sat (fun r hr => F.in_ker L hr) h, fun h => ?_⟩
  have hs : Sp found fun i => sm (fun k => v (free.getD k 0) * fn (found.getD k []) i) found.length := Sat.sum (f := fun k i => v (free.getD k 0) * fn (found.getD k []) i) fun k hk => by
    have := List.getElem?_eq_getElem hk
    rw [getD_of this]
    exact Sat.mul _ (Sp.of (List.mem_of_getElem? this))
  -- W v - that sum is in the kernel and 0 at all free places
  let x : Vec := fun i => W * v i + (-1) * sm (fun k => v (free.getD k 0) * fn (found.getD k []) i) found.length
  have hx : KerR T w x := (kerR_sub T w).lin W (-1) _ _ h (kerR_sat (fun r hr => F.in_ker L hr) hs)
  have hfree : ∀ p, p ∉ ls → x p = 0 := fun p hp => by
    by_cases hpw : p < w
    · obtain ⟨k, hk⟩ := List.mem_iff_getElem?.mp ((F.mem p).mpr ⟨hpw, hp⟩)
      have hkl := (List.getElem?_eq_some_iff.mp hk).1
      show W * v p + (-1) * sm _ found.length = 0
      rw [sm_one (p := k) (by rw [F.same]; exact hkl) fun i hi hne => ?_]
      · have hr : found[k]? = some (found[k]'(by rw [F.same]; exact hkl)) := List.getElem?_eq_getElem _
        rw [getD_of hk, getD_of hr, F.own k p _ hr hk]
        grind
      · have hr : found[i]? = some found[i] := List.getElem?_eq_getElem hi
        have hf : free[i]? = some (free[i]'(by rw [← F.same]; exact hi)) := List.getElem?_eq_getElem _
        rw [getD_of hr, F.other i _ _ hr hf p hp fun e => hne ?_]
        · simp
        · rw [← e] at hf
          have hn : free.Nodup := F.up.imp fun h => Nat.ne_of_lt h
          have h1 := (List.getElem?_eq_some_iff.mp hk)
          have h2 := (List.getElem?_eq_some_iff.mp hf)
          exact (List.getElem_inj hn).mp (h2.2.trans h1.2.symm)
    · exact hx.1 p (by omega)
  have hlead : ∀ l, l ∈ ls → x l = 0 := fun l hl => by
    obtain ⟨j, hj⟩ := List.mem_iff_getElem?.mp hl
    have hjl := (List.getElem?_eq_some_iff.mp hj).1
    have ht : T[j]? = some (T[j]'(by rw [← L.same]; exact hjl)) := List.getElem?_eq_getElem _
    have := hx.2 _ (List.mem_of_getElem? ht)
    unfold dot at this
    rw [sm_one (p := l) (L.lt l hl) fun i hi hne => ?_] at this
    · exact (Int.mul_eq_zero.mp this).resolve_left (L.at_ j l _ ht hj)
    · by_cases hi : i ∈ ls
      · obtain ⟨q, hq⟩ := List.mem_iff_getElem?.mp hi
        rw [L.alone j q i _ ht hq fun e => hne ?_]
        · simp
        · rw [← e, hj] at hq; exact (Option.some.inj hq).symm
      · rw [hfree i hi]; simp
  have x0 : ∀ i, x i = 0 := fun i => by
    by_cases hi : i ∈ ls
    · exact hlead i hi
    · exact hfree i hi
  refine Sat.prop (a := 1) F.ne hs fun i => ?_
  have : W * v i + (-1) * sm (fun k => v (free.getD k 0) * fn (found.getD k []) i) found.length = 0 := x0 i
  show W * v i = 1 * sm (fun k => v (free.getD k 0) * fn (found.getD k []) i) found.length
  omega
/-- as many as free places -/
theorem Frees.count (L : Led T ls w) (F : Frees T ls w W m free found) : dim (KerR T w) w = free.length ∧ free.length + T.length = w := by
  have e1 : dim (KerR T w) w = cnt (fun p => p ∉ ls) w := by
    rw [dim_trails (kerR_sub T w)]
    refine cnt_congr fun p hp => ⟨fun ⟨v, hv, h1, h2⟩ hl => ?_, fun hn => ?_⟩
    · obtain ⟨j, hj⟩ := List.mem_iff_getElem?.mp hl
      have hjl := (List.getElem?_eq_some_iff.mp hj).1
      have ht : T[j]? = some (T[j]'(by rw [← L.same]; exact hjl)) := List.getElem?_eq_getElem _
      have := hv.2 _ (List.mem_of_getElem? ht)
      unfold dot at this
      rw [sm_one (p := p) hp fun i hi hne => ?_] at this
      · exact Int.mul_ne_zero (L.at_ j p _ ht hj) h1 this
      · rcases Nat.lt_or_gt_of_ne hne with q | q
        · rw [L.before j p _ ht hj i q]; simp
        · rw [h2 i q]; simp
    · obtain ⟨k, hk⟩ := List.mem_iff_getElem?.mp ((F.mem p).mpr ⟨hp, hn⟩)
      have hkl := (List.getElem?_eq_some_iff.mp hk).1
      have hr : found[k]? = some (found[k]'(by rw [F.same]; exact hkl)) := List.getElem?_eq_getElem _
      refine ⟨_, F.in_ker L (List.mem_of_getElem? hr), by rw [F.own k p _ hr hk]; exact F.ne, fun i hi => ?_⟩
      by_cases hi2 : i ∈ ls
      · obtain ⟨j, hj⟩ := List.mem_iff_getElem?.mp hi2
        have hjl := (List.getElem?_eq_some_iff.mp hj).1
        have ht : T[j]? = some (T[j]'(by rw [← L.same]; exact hjl)) := List.getElem?_eq_getElem _
        rw [F.lead k p _ hr hk j i _ ht hj, L.before j i _ ht hj p hi]; simp
      · exact F.other k p _ hr hk i hi2 (by omega)
  have e2 : cnt (fun p => p ∉ ls) w = free.length := by
    rw [← cnt_mem F.up fun p h => ((F.mem p).mp h).1]
    exact cnt_congr fun p hp => ⟨fun h => (F.mem p).mpr ⟨hp, h⟩, fun h => ((F.mem p).mp h).2⟩
  have e3 := cnt_not (fun p => p ∈ ls) w
  rw [cnt_mem L.up L.lt, L.same] at e3
  exact ⟨e1.trans e2, by rw [← e2]; omega⟩
end
end Lin

/-! Level tables: ranks and the least degree of a killer. -/
namespace Lin
open Classical

theorem fn_range (w : Nat) (f : Nat → Int) (i : Nat) : fn ((List.range w).map f) i = if i < w then f i else 0 := by
  by_cases h : i < w
  · rw [if_pos h, fn_in (by simpa using h)]; simp
  · rw [if_neg h, fn_out (by simpa using h)]
/-- the level table of a degree, n the degree of the form, a its level entries -/
def lev (a : Nat → Int) (n d : Nat) : List (List Int) := (List.range (n + 1 - d)).map fun l => (List.range (d + 1)).map fun i => a (l + i)
theorem lev_len {a : Nat → Int} {n d : Nat} : ∀ r, r ∈ lev a n d → r.length = d + 1 := fun r h => by
  obtain ⟨l, _, rfl⟩ := List.mem_map.mp h
  simp
def KH (a : Nat → Int) (n d : Nat) : Vec → Prop := Ker (fun l i => a (l + i)) (n + 1 - d) (d + 1)
theorem KH_sub (a : Nat → Int) (n d : Nat) : Sub (d + 1) (KH a n d) := ker_sub _ _ _
theorem kerR_lev (a : Nat → Int) (n d : Nat) (v : Vec) : KerR (lev a n d) (d + 1) v ↔ KH a n d v := by
  have e : ∀ l, dot (d + 1) (fn ((List.range (d + 1)).map fun i => a (l + i))) v = dot (d + 1) (fun i => a (l + i)) v := fun l => sm_congr fun i hi => by rw [fn_range, if_pos hi]
  constructor
  · rintro ⟨h1, h2⟩
    exact ⟨h1, fun l hl => by rw [← e]; exact h2 _ (List.mem_map.mpr ⟨l, List.mem_range.mpr hl, rfl⟩)⟩
  · rintro ⟨h1, h2⟩
    refine ⟨h1, fun r hr => ?_⟩
    obtain ⟨l, hl, rfl⟩ := List.mem_map.mp hr
    rw [e]
    exact h2 l (List.mem_range.mp hl)
noncomputable def kd (a : Nat → Int) (n d : Nat) : Nat := dim (KH a n d) (d + 1)
theorem kd_le (a : Nat → Int) (n d : Nat) : kd a n d ≤ d + 1 := dim_le _ _
/-- the rows of the other table are what this one makes -/
theorem img_lev (a : Nat → Int) {n d : Nat} (h : d ≤ n) : dim (Sp (lev a n (n - d))) (n - d + 1) + kd a n d = d + 1 := by
  have key := img_ker (fun l i => a (l + i)) (n + 1 - d) (d + 1)
  have e : dim (Sp (lev a n (n - d))) (n - d + 1) = dim (Img (fun l i => a (l + i)) (n + 1 - d) (d + 1)) (n + 1 - d) := by
    rw [show n + 1 - d = n - d + 1 by omega]
    have row : ∀ j, j < d + 1 → (List.range (n - d + 1)).map (fun i => a (j + i)) ∈ lev a n (n - d) := fun j hj => List.mem_map.mpr ⟨j, List.mem_range.mpr (by omega), rfl⟩
    have S := img_sub (fun l i => a (l + i)) (n - d + 1) (d + 1)
    have one : ∀ v, Sp (lev a n (n - d)) v → ∃ c : Int, c ≠ 0 ∧ Img (fun l i => a (l + i)) (n - d + 1) (d + 1) (fun i => c * v i) := fun v hv => by
      induction hv with
      | gen q =>
        obtain ⟨r, hr, rfl⟩ := q
        obtain ⟨j, hj, rfl⟩ := List.mem_map.mp hr
        have hj' : j < d + 1 := by have := List.mem_range.mp hj; omega
        refine ⟨1, by decide, unit j, fun i hi => ?_, fun l hl => ?_, fun l hl => ?_⟩
        · unfold unit; rw [if_neg (by omega)]
        · show 1 * fn _ l = dot (d + 1) (fun i => a (l + i)) (unit j)
          unfold dot
          rw [sm_one (p := j) hj' fun i _ h => by unfold unit; rw [if_neg h]; simp, fn_range, if_pos hl]
          unfold unit
          rw [if_pos rfl]
          show 1 * a (j + l) = a (l + j) * 1
          rw [Nat.add_comm l j]; simp
        · show 1 * fn _ l = 0
          rw [fn_range, if_neg (by omega)]; simp
      | zero => exact ⟨1, by decide, by have := S.zero; simpa using this⟩
      | @lin x y u v _ _ hu hv =>
        obtain ⟨c, hc, h1⟩ := hu
        obtain ⟨c', hc', h2⟩ := hv
        refine ⟨c * c', Int.mul_ne_zero hc hc', ?_⟩
        have := S.lin (x * c') (y * c) _ _ h1 h2
        have e : (fun i => x * c' * (c * u i) + y * c * (c' * v i)) = fun i => c * c' * (x * u i + y * v i) := by funext i; grind
        rwa [e] at this
      | @div x v hx _ hv =>
        obtain ⟨c, hc, h1⟩ := hv
        refine ⟨c * x, Int.mul_ne_zero hc hx, ?_⟩
        have e : (fun i => c * (x * v i)) = fun i => c * x * v i := by funext i; rw [Int.mul_assoc]
        rwa [e] at h1
    refine cnt_congr fun p hp => ⟨fun ⟨v, hv, h1, h2⟩ => ?_, fun ⟨y, ⟨v, v1, v2, v3⟩, h1, h2⟩ => ?_⟩
    · obtain ⟨c, hc, hi⟩ := one v hv
      exact ⟨_, hi, Int.mul_ne_zero hc h1, fun i hi => by show c * v i = 0; rw [h2 i hi]; simp⟩
    · refine ⟨y, ?_, h1, h2⟩
      have hs : Sp (lev a n (n - d)) fun l => sm (fun j => v j * fn ((List.range (n - d + 1)).map (fun i => a (j + i))) l) (d + 1) := Sat.sum (f := fun j l => v j * fn ((List.range (n - d + 1)).map (fun i => a (j + i))) l) fun j hj => Sat.mul _ (Sp.of (row j hj))
      have e : y = fun l => sm (fun j => v j * fn ((List.range (n - d + 1)).map (fun i => a (j + i))) l) (d + 1) := by
        funext l
        by_cases hl : l < n - d + 1
        · rw [v2 l hl]
          exact sm_congr fun j _ => by
            rw [fn_range, if_pos hl]
            show a (l + j) * v j = v j * a (j + l)
            rw [Nat.add_comm l j, Int.mul_comm]
        · rw [v3 l (by omega)]
          exact (sm_zero fun j _ => by rw [fn_range, if_neg hl]; simp).symm
      rw [e]
      exact hs
  rw [e]
  exact key

/-! ### a killer, times x, times y -/
theorem KH_up {a : Nat → Int} {n d : Nat} (h : d < n) {v : Vec} (hv : KH a n d v) : KH a n (d + 1) v := by
  refine ⟨fun i hi => hv.1 i (by omega), fun l hl => ?_⟩
  have := hv.2 l (by omega)
  unfold dot at this ⊢
  rw [← this]
  exact sm_more (by omega) fun i h1 h2 => by rw [hv.1 i (by omega)]; simp
theorem KH_shift {a : Nat → Int} {n d : Nat} (h : d < n) {v : Vec} (hv : KH a n d v) : KH a n (d + 1) fun i => if i = 0 then 0 else v (i - 1) := by
  refine ⟨fun i hi => ?_, fun l hl => ?_⟩
  · show (if i = 0 then 0 else v (i - 1)) = 0
    rw [if_neg (by omega), hv.1 (i - 1) (by omega)]
  · have := hv.2 (l + 1) (by omega)
    unfold dot at this ⊢
    rw [sm_first]
    show a (l + 0) * (if 0 = 0 then 0 else v (0 - 1)) + _ = 0
    rw [if_pos rfl, Int.mul_zero, Int.zero_add, ← this]
    exact sm_congr fun i _ => by
      show a (l + (i + 1)) * (if i + 1 = 0 then 0 else v (i + 1 - 1)) = a (l + 1 + i) * v i
      rw [if_neg (by omega), show l + (i + 1) = l + 1 + i by omega, Nat.add_sub_cancel]
/-- at least one more at the next degree -/
theorem kd_grow {a : Nat → Int} {n d : Nat} (h : d < n) (hk : 0 < kd a n d) : kd a n d + 1 ≤ kd a n (d + 1) := by
  have hex : ∃ p, p < d + 1 ∧ Lead (KH a n d) p := by
    refine Classical.byContradiction fun z => ?_
    have : kd a n d = 0 := cnt_none fun p hp hl => z ⟨p, hp, hl⟩
    omega
  obtain ⟨p, hp, hl, hmax⟩ := greatest hex
  have e : kd a n d = cnt (Lead (KH a n d)) (d + 2) := by
    refine (cnt_succ_neg fun hl => ?_).symm
    obtain ⟨v, hv, h1, _⟩ := hl
    exact h1 (hv.1 _ (Nat.le_refl _))
  rw [e]
  refine cnt_grow (p0 := p + 1) (fun q _ ⟨v, hv, h1, h2⟩ => ⟨v, KH_up h hv, h1, h2⟩) (by omega) ?_ ?_
  · obtain ⟨v, hv, h1, h2⟩ := hl
    refine ⟨_, KH_shift h hv, ?_, fun i hi => ?_⟩
    · show (if p + 1 = 0 then 0 else v (p + 1 - 1)) ≠ 0
      rw [if_neg (by omega), Nat.add_sub_cancel]
      exact h1
    · show (if i = 0 then 0 else v (i - 1)) = 0
      by_cases h0 : i = 0
      · rw [if_pos h0]
      · rw [if_neg h0, h2 (i - 1) (by omega)]
  · intro hl2
    by_cases hb : p + 1 < d + 1
    · have := hmax (p + 1) hb hl2; omega
    · obtain ⟨v, hv, h1, _⟩ := hl2
      exact h1 (hv.1 _ (by omega))

/-! ### the shape of the ranks -/
theorem rank_shape {n r : Nat} {ρ : Nat → Nat} (h1 : ∀ d, d < r → d ≤ n → ρ d = d + 1) (h2 : ∀ d, r ≤ d → d < n → ρ (d + 1) ≤ ρ d) (h2' : r ≤ n → ρ r ≤ r) (h3 : ∀ d, d ≤ n → ρ (n - d) = ρ d) (h4 : 1 ≤ r) (h5 : r ≤ n + 1) :
    2 * r ≤ n + 2 ∧ ∀ d, d ≤ n → ρ d = min (d + 1) (min r (n + 1 - d)) := by
  have a : 2 * r ≤ n + 2 := by
    refine Classical.byContradiction fun z => ?_
    have e1 := h1 (r - 1) (by omega) (by omega)
    have e2 := h3 (r - 1) (by omega)
    have e3 := h1 (n - (r - 1)) (by omega) (by omega)
    omega
  refine ⟨a, fun d hd => ?_⟩
  by_cases c1 : d < r
  · rw [h1 d c1 hd]; omega
  · by_cases c2 : n - d < r
    · have e1 := h3 d hd
      have e2 := h1 (n - d) c2 (by omega)
      omega
    · have dn : ∀ k, r + k ≤ n → ρ (r + k) ≤ r := fun k => by
        induction k with
        | zero => intro h; exact h2' h
        | succ k ih => intro h; exact Nat.le_trans (h2 (r + k) (by omega) (by omega)) (ih (by omega))
      have up : ∀ k, d + k ≤ n → ρ (d + k) ≤ ρ d := fun k => by
        induction k with
        | zero => intro _; exact Nat.le_refl _
        | succ k ih => intro h; exact Nat.le_trans (h2 (d + k) (by omega) (by omega)) (ih (by omega))
      have x := dn (d - r) (by omega)
      rw [show r + (d - r) = d by omega] at x
      have y := up (n - (r - 1) - d) (by omega)
      rw [show d + (n - (r - 1) - d) = n - (r - 1) by omega] at y
      have e1 := h3 (r - 1) (by omega)
      have e2 := h1 (r - 1) (by omega) (by omega)
      omega

/-! ### together -/
section
variable {less : List Int → List Int → Nat → List Int} {a : Nat → Int} {n d : Nat}
/-- the rank that the program tells -/
def rk (less : List Int → List Int → Nat → List Int) (a : Nat → Int) (n d : Nat) : Nat := (echelon less (lev a n d) (d + 1)).length
theorem rk_dim (L : LessOk less) (a : Nat → Int) (n d : Nat) : rk less a n d = dim (Sp (lev a n d)) (d + 1) := by
  obtain ⟨⟨ls, h1, _⟩, h2⟩ := echelon_ok (w := d + 1) L (lev_len (a := a) (n := n) (d := d))
  unfold rk
  rw [← h1.count]
  exact cnt_congr fun p _ => ⟨fun ⟨v, x, y⟩ => ⟨v, (h2 v).mp x, y⟩, fun ⟨v, x, y⟩ => ⟨v, (h2 v).mpr x, y⟩⟩
/-- free rows always are -/
theorem frees_ex {T : List (List Int)} {ls : List Nat} {w : Nat} (L : Led T ls w) : ∃ W m free found, Frees T ls w W m free found := by
  obtain ⟨W, hW, m, hm⟩ := mults L T.length (Nat.le_refl _)
  let free := (List.range w).filter fun p => decide (p ∉ ls)
  let row : Nat → List Int := fun f => (List.range w).map fun i => if i = f then W else match ls.findIdx? (fun l => decide (l = i)) with
    | some j => - m j * fn (T.getD j []) f
    | none => 0
  have hfree : ∀ p, p ∈ free ↔ p < w ∧ p ∉ ls := fun p => by simp [free]
  have at' : ∀ (k f : Nat) (r : List Int), (free.map row)[k]? = some r → free[k]? = some f → r = row f := fun k f r h1 h2 => by
    rw [List.getElem?_map, h2] at h1
    exact (Option.some.inj h1).symm
  have hup : free.Pairwise (· < ·) := List.Pairwise.filter _ List.pairwise_lt_range
  refine ⟨W, m, free, free.map row, hW, hm, hfree, hup, by simp, fun r hr => ?_, fun k f r h1 h2 => ?_, fun k f r h1 h2 p hp hne => ?_, fun k f r h1 h2 j l t h3 h4 => ?_⟩
  · obtain ⟨f, _, rfl⟩ := List.mem_map.mp hr
    simp [row]
  · have hf := (hfree f).mp (List.mem_of_getElem? h2)
    rw [at' k f r h1 h2]
    show fn ((List.range w).map _) f = W
    rw [fn_range, if_pos hf.1, if_pos rfl]
  · rw [at' k f r h1 h2]
    show fn ((List.range w).map _) p = 0
    rw [fn_range]
    by_cases hpw : p < w
    · rw [if_pos hpw, if_neg hne]
      have : ls.findIdx? (fun l => decide (l = p)) = none := List.findIdx?_eq_none_iff.mpr fun x hx => by
        simp only [decide_eq_false_iff_not]
        exact fun e => hp (e ▸ hx)
      rw [this]
    · rw [if_neg hpw]
  · have hf := (hfree f).mp (List.mem_of_getElem? h2)
    rw [at' k f r h1 h2]
    show fn ((List.range w).map _) l = _
    have hlm := List.mem_of_getElem? h4
    rw [fn_range, if_pos (L.lt l hlm), if_neg fun (e : l = f) => hf.2 (e ▸ hlm)]
    have hj := (List.getElem?_eq_some_iff.mp h4)
    cases q : ls.findIdx? (fun x => decide (x = l)) with
    | none =>
      have := List.findIdx?_eq_none_iff.mp q l hlm
      simp at this
    | some j' =>
      obtain ⟨x1, x2, _⟩ := List.findIdx?_eq_some_iff_getElem.mp q
      have x3 : ls[j'] = l := of_decide_eq_true x2
      have hn : ls.Nodup := L.up.imp fun h => Nat.ne_of_lt h
      have : j' = j := (List.getElem_inj hn).mp (x3.trans hj.2.symm)
      subst this
      show - m j' * fn (T.getD j' []) f = _
      rw [getD_of h3]
theorem led_nullity {T : List (List Int)} {ls : List Nat} {w : Nat} (L : Led T ls w) : dim (KerR T w) w + T.length = w := by
  obtain ⟨W, m, free, found, F⟩ := frees_ex L
  obtain ⟨h1, h2⟩ := F.count L
  omega
theorem rk_kd (L : LessOk less) (a : Nat → Int) (n d : Nat) : rk less a n d + kd a n d = d + 1 := by
  obtain ⟨⟨ls, h1, _⟩, h2⟩ := echelon_ok (w := d + 1) L (lev_len (a := a) (n := n) (d := d))
  have := led_nullity h1
  have e : dim (KerR (echelon less (lev a n d) (d + 1)) (d + 1)) (d + 1) = kd a n d := by
    refine cnt_congr fun p _ => ?_
    have q : ∀ v, KerR (echelon less (lev a n d) (d + 1)) (d + 1) v ↔ KH a n d v := fun v => (kerR_congr h2 v).trans (kerR_lev a n d v)
    exact ⟨fun ⟨v, x, y⟩ => ⟨v, (q v).mp x, y⟩, fun ⟨v, x, y⟩ => ⟨v, (q v).mpr x, y⟩⟩
  unfold rk
  omega
theorem rk_pal (L : LessOk less) (a : Nat → Int) {n d : Nat} (h : d ≤ n) : rk less a n (n - d) = rk less a n d := by
  have e1 := rk_dim L a n (n - d)
  have e2 := img_lev a h
  have e3 := rk_kd L a n d
  omega
theorem rk_zero (L : LessOk less) {a : Nat → Int} {n : Nat} (h : ∀ i, i ≤ n → a i = 0) {d : Nat} (hd : d ≤ n) : rk less a n d = 0 := by
  have e := rk_kd L a n d
  have : kd a n d = d + 1 := cnt_all fun p hp => ⟨unit p, ⟨fun i hi => by unfold unit; rw [if_neg (by omega)], fun l hl => sm_zero fun i hi => by show a (l + i) * _ = 0; rw [h (l + i) (by omega)]; simp⟩, by unfold unit; rw [if_pos rfl]; decide, fun i hi => by unfold unit; rw [if_neg (by omega)]⟩
  omega
/-- THE SHAPE, for a form other than zero: r the least degree of a killer -/
theorem rk_shape (L : LessOk less) {a : Nat → Int} {n r : Nat} (h : ∃ i, i ≤ n ∧ a i ≠ 0) (hr : ∀ d, d < r → d ≤ n → kd a n d = 0) (hr2 : r ≤ n → 0 < kd a n r) (h5 : r ≤ n + 1) :
    1 ≤ r ∧ 2 * r ≤ n + 2 ∧ ∀ d, d ≤ n → rk less a n d = min (d + 1) (min r (n + 1 - d)) := by
  have k0 : kd a n 0 = 0 := by
    obtain ⟨i, hi, hne⟩ := h
    refine cnt_none fun p hp ⟨v, hv, h1, h2⟩ => ?_
    have := hv.2 i (by omega)
    unfold dot at this
    have e : sm (fun i_1 => (fun i_1 => a (i + i_1)) i_1 * v i_1) (0 + 1) = a i * v 0 := by
      show 0 + a (i + 0) * v 0 = _
      simp
    rw [e] at this
    have p0 : p = 0 := by omega
    subst p0
    exact Int.mul_ne_zero hne h1 this
  have h1r : 1 ≤ r := by
    refine Classical.byContradiction fun z => ?_
    have : r = 0 := by omega
    subst this
    have := hr2 (by omega)
    omega
  refine ⟨h1r, rank_shape (ρ := rk less a n) (fun d h1 h2 => ?_) (fun d h1 h2 => ?_) (fun h1 => ?_) (fun d h1 => rk_pal L a h1) h1r h5⟩
  · have e := rk_kd L a n d
    rw [hr d h1 h2] at e
    omega
  · have mono : ∀ k, r + k ≤ n → 0 < kd a n (r + k) := fun k => by
      induction k with
      | zero => intro h; exact hr2 h
      | succ k ih => intro h; have := kd_grow (a := a) (n := n) (d := r + k) (by omega) (ih (by omega)); exact Nat.lt_of_lt_of_le (Nat.succ_pos _) this
    have hp := mono (d - r) (by omega)
    rw [show r + (d - r) = d by omega] at hp
    have g := kd_grow h2 hp
    have e1 := rk_kd L a n d
    have e2 := rk_kd L a n (d + 1)
    omega
  · have e1 := rk_kd L a n r
    have := hr2 h1
    omega
end
end Lin

/-! Sums of powers of points: killed by the lines' product, and by its multiples alone. -/
namespace Lin
open Classical

/-- a form times p x + q y -/
def mul2 (v : Vec) (p q : Int) : Vec := fun k => v k * p + if k = 0 then 0 else v (k - 1) * q
theorem mul2_zero (v : Vec) (p q : Int) : mul2 v p q 0 = v 0 * p := by unfold mul2; simp
theorem mul2_succ (v : Vec) (p q : Int) (k : Nat) : mul2 v p q (k + 1) = v (k + 1) * p + v k * q := by unfold mul2; simp
theorem mul2_out {v : Vec} {m : Nat} (p q : Int) (h : ∀ i, m < i → v i = 0) : ∀ i, m + 1 < i → mul2 v p q i = 0 := fun i hi => by
  unfold mul2
  rw [if_neg (by omega), h i (by omega), h (i - 1) (by omega)]; simp
theorem mul2_smul (c : Int) (v : Vec) (p q : Int) (i : Nat) : mul2 (fun k => c * v k) p q i = c * mul2 v p q i := by
  unfold mul2
  split <;> grind
/-- the value of a form of degree m -/
def ev (v : Vec) (m : Nat) (x y : Int) : Int := sm (fun i => v i * (x ^ (m - i) * y ^ i)) (m + 1)
theorem ev_smul (c : Int) (v : Vec) (m : Nat) (x y : Int) : ev (fun i => c * v i) m x y = c * ev v m x y := by
  unfold ev
  rw [← sm_mul]
  exact sm_congr fun i _ => by rw [Int.mul_assoc]
theorem ev_mul2 {v : Vec} {m : Nat} (h : ∀ i, m < i → v i = 0) (p q x y : Int) : ev (mul2 v p q) (m + 1) x y = ev v m x y * (p * x + q * y) := by
  have e1 : ev (mul2 v p q) (m + 1) x y = sm (fun i => p * x * (v i * (x ^ (m - i) * y ^ i))) (m + 1) + sm (fun i => q * y * (v i * (x ^ (m - i) * y ^ i))) (m + 1) := by
    have a : ev (mul2 v p q) (m + 1) x y = sm (fun i => v i * p * (x ^ (m + 1 - i) * y ^ i)) (m + 1 + 1) + sm (fun i => (if i = 0 then 0 else v (i - 1) * q) * (x ^ (m + 1 - i) * y ^ i)) (m + 1 + 1) := by
      rw [← sm_add]
      exact sm_congr fun i _ => by unfold mul2; rw [Int.add_mul]
    have b : sm (fun i => v i * p * (x ^ (m + 1 - i) * y ^ i)) (m + 1 + 1) = sm (fun i => p * x * (v i * (x ^ (m - i) * y ^ i))) (m + 1) := by
      show sm (fun i => v i * p * (x ^ (m + 1 - i) * y ^ i)) (m + 1) + v (m + 1) * p * _ = _
      rw [h (m + 1) (by omega), Int.zero_mul, Int.zero_mul, Int.add_zero]
      exact sm_congr fun i hi => by
        rw [show m + 1 - i = (m - i) + 1 by omega, Int.pow_succ]
        grind
    have c : sm (fun i => (if i = 0 then 0 else v (i - 1) * q) * (x ^ (m + 1 - i) * y ^ i)) (m + 1 + 1) = sm (fun i => q * y * (v i * (x ^ (m - i) * y ^ i))) (m + 1) := by
      rw [sm_first, if_pos rfl, Int.zero_mul, Int.zero_add]
      exact sm_congr fun i _ => by
        rw [if_neg (by omega), Nat.add_sub_cancel, show m + 1 - (i + 1) = m - i by omega, Int.pow_succ]
        grind
    rw [a, b, c]
  rw [e1, sm_mul, sm_mul]
  unfold ev
  grind

/-! ### powers -/
def pw (a b : Int) : Nat → Vec
  | 0 => unit 0
  | n + 1 => mul2 (pw a b n) a b
theorem pw_out (a b : Int) : ∀ n i, n < i → pw a b n i = 0
  | 0, i, h => by show unit 0 i = 0; unfold unit; rw [if_neg (by omega)]
  | n + 1, i, h => mul2_out a b (pw_out a b n) i h
def fac : Nat → Int
  | 0 => 1
  | n + 1 => (n + 1 : Int) * fac n
theorem fac_pos : ∀ n, 0 < fac n
  | 0 => by decide
  | n + 1 => Int.mul_pos (by omega) (fac_pos n)
/-- the level entries of a power -/
theorem pw_level (a b : Int) : ∀ n i, i ≤ n → fac i * fac (n - i) * pw a b n i = fac n * (a ^ (n - i) * b ^ i)
  | 0, i, h => by
    have : i = 0 := by omega
    subst this
    show fac 0 * fac 0 * unit 0 0 = fac 0 * (a ^ 0 * b ^ 0)
    unfold unit
    simp [fac]
  | n + 1, 0, _ => by
    have ih := pw_level a b n 0 (by omega)
    show fac 0 * fac (n + 1) * mul2 (pw a b n) a b 0 = fac (n + 1) * (a ^ (n + 1) * b ^ 0)
    rw [mul2_zero, Int.pow_succ]
    simp only [Nat.sub_zero, Int.pow_zero, fac] at ih ⊢
    grind
  | n + 1, i + 1, h => by
    have ih2 := pw_level a b n i (by omega)
    show fac (i + 1) * fac (n + 1 - (i + 1)) * mul2 (pw a b n) a b (i + 1) = fac (n + 1) * (a ^ (n + 1 - (i + 1)) * b ^ (i + 1))
    rw [mul2_succ, show n + 1 - (i + 1) = n - i by omega, Int.pow_succ]
    have ef : fac (i + 1) = (i + 1 : Int) * fac i := rfl
    have efn : fac (n + 1) = (n + 1 : Int) * fac n := rfl
    by_cases hi : i + 1 ≤ n
    · have ih1 := pw_level a b n (i + 1) hi
      rw [show n - i = (n - (i + 1)) + 1 by omega] at ih2 ⊢
      have ef2 : fac ((n - (i + 1)) + 1) = ((n - (i + 1) : Nat) + 1 : Int) * fac (n - (i + 1)) := rfl
      rw [ef2, Int.pow_succ] at ih2 ⊢
      rw [ef] at ih1 ⊢
      rw [efn]
      rw [Int.pow_succ] at ih1
      have hc : ((n - (i + 1) : Nat) : Int) = (n : Int) - (i + 1) := by omega
      rw [hc] at ih2 ⊢
      generalize a ^ (n - (i + 1)) = A at *
      generalize b ^ i = B at *
      generalize fac (n - (i + 1)) = F at *
      generalize fac i = G at *
      generalize fac n = N at *
      generalize pw a b n (i + 1) = u at *
      generalize pw a b n i = v at *
      generalize (n : Int) = z at *
      generalize (i : Int) = k at *
      -- (k+1) G (z - (k+1) + 1) F (u a + v b) = (z + 1) N (A a B b)
      have e1 : (k + 1) * G * ((z - (k + 1) + 1) * F) * (u * a + v * b) = (z - k) * a * ((k + 1) * G * F * u) + (k + 1) * b * (G * ((z - (k + 1) + 1) * F) * v) := by grind
      rw [e1, ih1, ih2]
      grind
    · have : i = n := by omega
      subst this
      rw [pw_out a b i (i + 1) (by omega), Int.zero_mul, Int.zero_add]
      simp only [Nat.sub_self, Int.pow_zero] at ih2 ⊢
      rw [ef]
      generalize fac i = G at *
      generalize fac 0 = F at *
      generalize b ^ i = B at *
      generalize pw a b i i = v at *
      grind

/-! ### points and their lines -/
section
variable {P : Nat → Int × Int} {m : Nat}
def lp (P : Nat → Int × Int) : Nat → Vec
  | 0 => unit 0
  | j + 1 => mul2 (lp P j) (P j).2 (-(P j).1)
theorem lp_out (P : Nat → Int × Int) : ∀ m i, m < i → lp P m i = 0
  | 0, i, h => by show unit 0 i = 0; unfold unit; rw [if_neg (by omega)]
  | m + 1, i, h => mul2_out _ _ (lp_out P m) i h
theorem lp_root (P : Nat → Int × Int) : ∀ m j, j < m → ev (lp P m) m (P j).1 (P j).2 = 0
  | m + 1, j, h => by
    show ev (mul2 (lp P m) _ _) (m + 1) _ _ = 0
    rw [ev_mul2 (lp_out P m)]
    by_cases e : j = m
    · subst e; grind
    · rw [lp_root P m j (by omega), Int.zero_mul]
/-- different points, none of them (0, 0) -/
structure Pts (P : Nat → Int × Int) (m : Nat) : Prop where
  ne : ∀ j, j < m → (P j).1 ≠ 0 ∨ (P j).2 ≠ 0
  apart : ∀ j k, j < m → k < m → j ≠ k → (P k).2 * (P j).1 + -(P k).1 * (P j).2 ≠ 0
theorem lp_ne (h : ∀ j, j < m → (P j).1 ≠ 0 ∨ (P j).2 ≠ 0) : ∃ i, i ≤ m ∧ lp P m i ≠ 0 := by
  induction m with
  | zero => exact ⟨0, Nat.le_refl _, by show unit 0 0 ≠ 0; unfold unit; decide⟩
  | succ m ih =>
    obtain ⟨i, hi, hne⟩ := ih fun j hj => h j (by omega)
    by_cases e : (P m).2 = 0
    · have h1 := (h m (by omega)).resolve_right (fun z => z e)
      refine ⟨i + 1, by omega, ?_⟩
      show mul2 (lp P m) (P m).2 (-(P m).1) (i + 1) ≠ 0
      rw [mul2_succ, e, Int.mul_zero, Int.zero_add]
      exact Int.mul_ne_zero hne (by omega)
    · obtain ⟨q, hq, h1, h2⟩ := first_nonzero (lp P m) i hne
      refine ⟨q, by omega, ?_⟩
      show mul2 (lp P m) (P m).2 (-(P m).1) q ≠ 0
      cases q with
      | zero => rw [mul2_zero]; exact Int.mul_ne_zero h1 e
      | succ q => rw [mul2_succ, h2 q (by omega), Int.zero_mul, Int.add_zero]; exact Int.mul_ne_zero h1 e
/-- a form that is 0 at all of the points but one -/
theorem probe (hP : ∀ j k, j < m → k < m → j ≠ k → (P k).2 * (P j).1 + -(P k).1 * (P j).2 ≠ 0) {j0 : Nat} (h0 : j0 < m) (hne : (P j0).1 ≠ 0 ∨ (P j0).2 ≠ 0) : ∀ t, t ≤ m → ∀ N, t ≤ N + (if j0 < t then 1 else 0) →
    ∃ q : Vec, (∀ i, N < i → q i = 0) ∧ (∀ j, j < t → j ≠ j0 → ev q N (P j).1 (P j).2 = 0) ∧ ev q N (P j0).1 (P j0).2 ≠ 0
  | 0, _, N, _ => by
    have sp : ∀ p, p ≤ N → ∀ x y : Int, ev (unit p) N x y = x ^ (N - p) * y ^ p := fun p hp x y => by
      unfold ev
      rw [sm_one (p := p) (by omega) fun i _ h => by unfold unit; rw [if_neg h]; simp]
      unfold unit
      rw [if_pos rfl]; simp
    rcases hne with h | h
    · refine ⟨unit 0, fun i hi => by unfold unit; rw [if_neg (by omega)], fun j hj => by omega, ?_⟩
      rw [sp 0 (by omega)]
      simpa using Int.pow_ne_zero h
    · refine ⟨unit N, fun i hi => by unfold unit; rw [if_neg (by omega)], fun j hj => by omega, ?_⟩
      rw [sp N (by omega)]
      simpa using Int.pow_ne_zero h
  | t + 1, ht, N, hN => by
    by_cases e : t = j0
    · subst e
      rw [if_pos (by omega)] at hN
      obtain ⟨q, h1, h2, h3⟩ := probe hP h0 hne t (by omega) N (by rw [if_neg (by omega)]; omega)
      exact ⟨q, h1, fun j hj hn => h2 j (by omega) hn, h3⟩
    · have hN1 : 0 < N := by
        by_cases c : j0 < t + 1
        · rw [if_pos c] at hN; omega
        · rw [if_neg c] at hN; omega
      obtain ⟨q, h1, h2, h3⟩ := probe hP h0 hne t (by omega) (N - 1) (by
        by_cases c : j0 < t + 1
        · rw [if_pos c] at hN; rw [if_pos (by omega)]; omega
        · rw [if_neg c] at hN; rw [if_neg (by omega)]; omega)
      have eN : N - 1 + 1 = N := by omega
      refine ⟨mul2 q (P t).2 (-(P t).1), fun i hi => mul2_out _ _ h1 i (by omega), fun j hj hn => ?_, ?_⟩
      · rw [← eN, ev_mul2 h1]
        by_cases ej : j = t
        · subst ej; grind
        · rw [h2 j (by omega) hn, Int.zero_mul]
      · rw [← eN, ev_mul2 h1]
        exact Int.mul_ne_zero h3 (hP j0 t h0 (by omega) fun z => e z.symm)
/-- dividing by a line -/
theorem divide {v : Vec} {m : Nat} {x y : Int} (hv : ∀ i, m + 1 < i → v i = 0) (hr : ev v (m + 1) x y = 0) (hne : x ≠ 0 ∨ y ≠ 0) : ∃ (D : Int) (u : Vec), D ≠ 0 ∧ (∀ i, m < i → u i = 0) ∧ ∀ i, D * v i = mul2 u y (-x) i := by
  by_cases hy : y = 0
  · have hx := hne.resolve_right fun z => z hy
    subst hy
    have h0 : v 0 = 0 := by
      unfold ev at hr
      rw [sm_one (p := 0) (by omega) fun i _ h => by rw [Int.zero_pow h]; simp] at hr
      simp only [Nat.sub_zero, Int.pow_zero, Int.mul_one] at hr
      exact (Int.mul_eq_zero.mp hr).resolve_right (Int.pow_ne_zero hx)
    refine ⟨-x, fun i => v (i + 1), by omega, fun i hi => hv _ (by omega), fun i => ?_⟩
    cases i with
    | zero => rw [mul2_zero, h0]; simp
    | succ i => rw [mul2_succ]; grind
  · let u : Vec := fun i => if i ≤ m then y ^ (m - i) * sm (fun k => v k * (x ^ (i - k) * y ^ k)) (i + 1) else 0
    refine ⟨y ^ (m + 1), u, Int.pow_ne_zero hy, fun i hi => if_neg (by omega), fun i => ?_⟩
    have step : ∀ i, sm (fun k => v k * (x ^ (i + 1 - k) * y ^ k)) (i + 1 + 1) = x * sm (fun k => v k * (x ^ (i - k) * y ^ k)) (i + 1) + v (i + 1) * y ^ (i + 1) := fun i => by
      show sm (fun k => v k * (x ^ (i + 1 - k) * y ^ k)) (i + 1) + v (i + 1) * (x ^ (i + 1 - (i + 1)) * y ^ (i + 1)) = _
      rw [Nat.sub_self, Int.pow_zero, Int.one_mul, ← sm_mul]
      congr 1
      exact sm_congr fun k hk => by
        rw [show i + 1 - k = (i - k) + 1 by omega, Int.pow_succ]
        grind
    cases i with
    | zero =>
      rw [mul2_zero]
      show y ^ (m + 1) * v 0 = (if 0 ≤ m then y ^ (m - 0) * (0 + v 0 * (x ^ 0 * y ^ 0)) else 0) * y
      rw [if_pos (Nat.zero_le m), Int.pow_succ]
      simp
      grind
    | succ i =>
      rw [mul2_succ]
      show y ^ (m + 1) * v (i + 1) = (if i + 1 ≤ m then _ else 0) * y + (if i ≤ m then _ else 0) * -x
      by_cases c : i + 1 ≤ m
      · rw [if_pos c, if_pos (by omega), step i]
        generalize sm (fun k => v k * (x ^ (i - k) * y ^ k)) (i + 1) = S
        have e1 : y ^ (m - i) = y ^ (m - (i + 1)) * y := by rw [show m - i = (m - (i + 1)) + 1 by omega, Int.pow_succ]
        have e2 : y ^ (m + 1) = y ^ (m - (i + 1)) * y * y ^ (i + 1) := by
          rw [← e1, ← Int.pow_add]
          congr 1
          omega
        rw [e2, e1]
        grind
      · by_cases c2 : i ≤ m
        · have : i = m := by omega
          subst this
          rw [if_neg c, if_pos c2]
          have := step i
          unfold ev at hr
          rw [this] at hr
          rw [Nat.sub_self, Int.pow_zero]
          grind
        · rw [if_neg c, if_neg c2, hv (i + 1) (by omega)]; simp
/-- a form that is 0 at all of the points is a multiple of the lines' product -/
theorem only_lp : ∀ {m : Nat} {v : Vec}, Pts P m → (∀ i, m < i → v i = 0) → (∀ j, j < m → ev v m (P j).1 (P j).2 = 0) → ∃ c c' : Int, c ≠ 0 ∧ ∀ i, c * v i = c' * lp P m i
  | 0, v, _, hv, _ => ⟨1, v 0, by decide, fun i => by
      show 1 * v i = v 0 * unit 0 i
      unfold unit
      by_cases e : i = 0
      · subst e; simp
      · rw [if_neg e, hv i (by omega)]; simp⟩
  | m + 1, v, hP, hv, hr => by
    obtain ⟨D, u, hD, hu, e⟩ := divide hv (hr m (by omega)) (hP.ne m (by omega))
    have hP' : Pts P m := ⟨fun j hj => hP.ne j (by omega), fun j k hj hk => hP.apart j k (by omega) (by omega)⟩
    have hu0 : ∀ j, j < m → ev u m (P j).1 (P j).2 = 0 := fun j hj => by
      have h1 := hr j (by omega)
      have h2 : ev (mul2 u (P m).2 (-(P m).1)) (m + 1) (P j).1 (P j).2 = 0 := by
        rw [show mul2 u (P m).2 (-(P m).1) = fun i => D * v i by funext i; exact (e i).symm, ev_smul, h1, Int.mul_zero]
      rw [ev_mul2 hu] at h2
      exact (Int.mul_eq_zero.mp h2).resolve_right (hP.apart j m (by omega) (by omega) (by omega))
    obtain ⟨c, c', hc, ec⟩ := only_lp hP' hu hu0
    refine ⟨c * D, c', Int.mul_ne_zero hc hD, fun i => ?_⟩
    show _ = c' * mul2 (lp P m) _ _ i
    rw [← mul2_smul, show (fun k => c' * lp P m k) = fun k => c * u k by funext k; exact (ec k).symm, mul2_smul, ← e i, Int.mul_assoc]

/-! ### what kills a sum of powers -/
variable {a : Nat → Int} {n : Nat} {w : Nat → Int}
theorem sum_kill (ha : ∀ i, i ≤ n → a i = sm (fun j => w j * ((P j).1 ^ (n - i) * (P j).2 ^ i)) m) (hm : m ≤ n) (v : Vec) (l : Nat) (hl : l < n + 1 - m) :
    dot (m + 1) (fun i => a (l + i)) v = sm (fun j => w j * ((P j).1 ^ (n - m - l) * (P j).2 ^ l) * ev v m (P j).1 (P j).2) m := by
  have e1 : dot (m + 1) (fun i => a (l + i)) v = sm (fun i => sm (fun j => w j * ((P j).1 ^ (n - m - l) * (P j).2 ^ l) * (v i * ((P j).1 ^ (m - i) * (P j).2 ^ i))) m) (m + 1) := sm_congr fun i hi => by
    show a (l + i) * v i = _
    rw [ha (l + i) (by omega), Int.mul_comm, ← sm_mul]
    exact sm_congr fun j _ => by
      rw [show n - (l + i) = (n - m - l) + (m - i) by omega, Int.pow_add, Int.pow_add]
      grind
  rw [e1, sm_swap]
  exact sm_congr fun j _ => by
    rw [sm_mul]
    rfl
theorem lp_kills (ha : ∀ i, i ≤ n → a i = sm (fun j => w j * ((P j).1 ^ (n - i) * (P j).2 ^ i)) m) (hm : m ≤ n) : KH a n m (lp P m) := by
  refine ⟨fun i hi => lp_out P m i (by omega), fun l hl => ?_⟩
  rw [sum_kill ha hm _ l hl]
  exact sm_zero fun j hj => by rw [lp_root P m j hj, Int.mul_zero]
theorem kills_lp (ha : ∀ i, i ≤ n → a i = sm (fun j => w j * ((P j).1 ^ (n - i) * (P j).2 ^ i)) m) (hw : ∀ j, j < m → w j ≠ 0) (hP : Pts P m) (h1 : 1 ≤ m) (hm : 2 * m ≤ n + 1) {v : Vec} (hv : KH a n m v) : ∃ c c' : Int, c ≠ 0 ∧ ∀ i, c * v i = c' * lp P m i := by
  refine only_lp hP (fun i hi => hv.1 i (by omega)) fun j0 h0 => ?_
  obtain ⟨q, q1, q2, q3⟩ := probe hP.apart h0 (hP.ne j0 h0) m (Nat.le_refl _) (n - m) (by rw [if_pos h0]; omega)
  have e0 : sm (fun l => q l * dot (m + 1) (fun i => a (l + i)) v) (n - m + 1) = 0 := sm_zero fun l hl => by rw [hv.2 l (by omega), Int.mul_zero]
  have e1 : sm (fun l => q l * dot (m + 1) (fun i => a (l + i)) v) (n - m + 1) = sm (fun j => w j * ev v m (P j).1 (P j).2 * ev q (n - m) (P j).1 (P j).2) m := by
    have : sm (fun l => q l * dot (m + 1) (fun i => a (l + i)) v) (n - m + 1) = sm (fun l => sm (fun j => w j * ev v m (P j).1 (P j).2 * (q l * ((P j).1 ^ (n - m - l) * (P j).2 ^ l))) m) (n - m + 1) := sm_congr fun l hl => by
      rw [sum_kill ha (by omega) v l (by omega), ← sm_mul]
      exact sm_congr fun j _ => by grind
    rw [this, sm_swap]
    exact sm_congr fun j _ => by
      rw [sm_mul]
      rfl
  rw [e1, sm_one (p := j0) h0 fun j hj hn => by rw [q2 j hj hn, Int.mul_zero]] at e0
  have := (Int.mul_eq_zero.mp e0).resolve_right q3
  exact (Int.mul_eq_zero.mp this).resolve_left (hw j0 h0)
end
end Lin

/-! The two ways of lessening; how large the numbers grow. -/
namespace Lin
open Classical

/-! ### the two ways of lessening -/
def tidy (xs : List Int) : List Int := if 1 < (shN xs : Int) then xs.map fun e => e.fdiv (shN xs : Int) else xs
def mixed (row head : List Int) (p : Nat) : List Int :=
  List.zipWith (fun e t => e * (fn head p).fdiv (Nat.gcd (fn head p).natAbs (fn row p).natAbs : Nat) - (fn row p).fdiv (Nat.gcd (fn head p).natAbs (fn row p).natAbs : Nat) * t) row head
def lessP (row head : List Int) (p : Nat) : List Int := if fn row p = 0 then row else tidy (mixed row head p)
def lessL (row head : List Int) (p : Nat) : List Int := tidy (mixed row head p)
theorem tidy_len (xs : List Int) : (tidy xs).length = xs.length := by
  unfold tidy
  split
  · rw [List.length_map]
  · rfl
theorem tidy_is (xs : List Int) : ∃ c : Int, c ≠ 0 ∧ (∀ i, fn xs i = c * fn (tidy xs) i) ∧ (shN (tidy xs) = 1 ∨ shN xs = 0) := by
  unfold tidy
  split
  · rename_i h
    have hc : (shN xs : Int) ≠ 0 := by omega
    have e : xs = (xs.map fun e => e.fdiv (shN xs : Int)).map ((shN xs : Int) * ·) := by
      rw [List.map_map]
      refine (List.map_id xs).symm.trans (List.map_congr_left fun x hx => ?_)
      obtain ⟨q, hq⟩ := shN_map_dvd hx
      show x = (shN xs : Int) * Int.fdiv x _
      generalize (shN xs : Int) = c at hq hc
      rw [hq, Int.mul_fdiv_cancel_left q hc]
    refine ⟨shN xs, hc, fn_mul e, .inl ?_⟩
    have h2 := shN_mul (shN xs : Int) (xs.map fun e => e.fdiv (shN xs : Int))
    rw [← e, Int.natAbs_natCast] at h2
    have h3 : shN xs * 1 = shN xs * shN (xs.map fun e => e.fdiv (shN xs : Int)) := by rw [Nat.mul_one]; exact h2
    exact (Nat.eq_of_mul_eq_mul_left (by omega) h3).symm
  · rename_i h
    refine ⟨1, by decide, fun i => by simp, ?_⟩
    omega
theorem mixed_is {row head : List Int} {p : Nat} (hl : row.length = head.length) (hh : fn head p ≠ 0) :
    (mixed row head p).length = row.length ∧ ∃ x y : Int, x ≠ 0 ∧ (∀ i, fn (mixed row head p) i = x * fn row i + y * fn head i) ∧ fn (mixed row head p) p = 0 := by
  have hg : (Nat.gcd (fn head p).natAbs (fn row p).natAbs : Nat) ≠ 0 := by
    have := Nat.gcd_pos_of_pos_left (fn row p).natAbs (Int.natAbs_pos.mpr hh)
    omega
  have hd1 : ((Nat.gcd (fn head p).natAbs (fn row p).natAbs : Nat) : Int) ∣ fn head p := Int.ofNat_dvd_left.mpr (Nat.gcd_dvd_left _ _)
  have hd2 : ((Nat.gcd (fn head p).natAbs (fn row p).natAbs : Nat) : Int) ∣ fn row p := Int.ofNat_dvd_left.mpr (Nat.gcd_dvd_right _ _)
  unfold mixed
  refine ⟨by rw [List.length_zipWith]; omega, ?_⟩
  generalize Nat.gcd (fn head p).natAbs (fn row p).natAbs = g at hg hd1 hd2
  obtain ⟨h', e1⟩ := hd1
  obtain ⟨r', e2⟩ := hd2
  have hg' : (g : Int) ≠ 0 := by omega
  have f1 : (fn head p).fdiv (g : Int) = h' := by rw [e1, Int.mul_fdiv_cancel_left h' hg']
  have f2 : (fn row p).fdiv (g : Int) = r' := by rw [e2, Int.mul_fdiv_cancel_left r' hg']
  refine ⟨h', -r', fun z => hh (by rw [e1, z, Int.mul_zero]), fun i => ?_, ?_⟩
  · rw [fn_zipWith hl (by simp), f1, f2]; grind
  · rw [fn_zipWith hl (by simp), f1, f2]; grind
theorem lessP_ok : LessOk lessP := by
  refine ⟨fun {row head p} hl hh => ?_, fun {row head p} hl hh => ?_⟩
  · unfold lessP
    split
    · rfl
    · rw [tidy_len]; exact (mixed_is hl hh).1
  · unfold lessP
    split
    · rename_i h0
      exact ⟨1, 0, 1, by decide, by decide, fun i => by simp, h0⟩
    · obtain ⟨_, x, y, hx, e, e0⟩ := mixed_is hl hh
      obtain ⟨c, hc, ec, _⟩ := tidy_is (mixed row head p)
      exact ⟨x, y, c, hx, hc, fun i => by rw [← ec, e], (Int.mul_eq_zero.mp ((ec p).symm.trans e0)).resolve_left hc⟩
theorem lessL_ok : LessOk lessL := by
  refine ⟨fun {row head p} hl hh => ?_, fun {row head p} hl hh => ?_⟩
  · unfold lessL
    rw [tidy_len]; exact (mixed_is hl hh).1
  · unfold lessL
    obtain ⟨_, x, y, hx, e, e0⟩ := mixed_is hl hh
    obtain ⟨c, hc, ec, _⟩ := tidy_is (mixed row head p)
    exact ⟨x, y, c, hx, hc, fun i => by rw [← ec, e], (Int.mul_eq_zero.mp ((ec p).symm.trans e0)).resolve_left hc⟩

/-! ### bounds -/
def Bd (B : Nat) (r : List Int) : Prop := ∀ i, (fn r i).natAbs < 2 ^ B
theorem Bd.mono {B C : Nat} {r : List Int} (h : Bd B r) (l : B ≤ C) : Bd C r := fun i => Nat.lt_of_lt_of_le (h i) (Nat.pow_le_pow_right (by decide) l)
theorem fdiv_le (a b : Int) (hb : b ≠ 0) (hd : b ∣ a) : (a.fdiv b).natAbs ≤ a.natAbs := by
  obtain ⟨q, e⟩ := hd
  rw [e, Int.mul_fdiv_cancel_left q hb, Int.natAbs_mul]
  exact Nat.le_mul_of_pos_left _ (Int.natAbs_pos.mpr hb)
theorem mul_lt_pow {a b A B : Nat} (ha : a < 2 ^ A) (hb : b < 2 ^ B) : a * b < 2 ^ (A + B) := by
  rw [Nat.pow_add]
  exact Nat.mul_lt_mul'' ha hb
theorem mixed_bd {row head : List Int} {p A B C : Nat} (hl : row.length = head.length) (hh : fn head p ≠ 0) (ha : Bd A row) (hb : Bd B head) (hC : A + B + 1 ≤ C) : Bd C (mixed row head p) := fun i => by
  have hg : (Nat.gcd (fn head p).natAbs (fn row p).natAbs : Nat) ≠ 0 := by
    have := Nat.gcd_pos_of_pos_left (fn row p).natAbs (Int.natAbs_pos.mpr hh)
    omega
  have q1 := fdiv_le (fn head p) _ (by omega) (Int.ofNat_dvd_left.mpr (Nat.gcd_dvd_left (fn head p).natAbs (fn row p).natAbs))
  have q2 := fdiv_le (fn row p) _ (by omega) (Int.ofNat_dvd_left.mpr (Nat.gcd_dvd_right (fn head p).natAbs (fn row p).natAbs))
  unfold mixed
  rw [fn_zipWith hl (by simp)]
  generalize (fn head p).fdiv _ = u at q1
  generalize (fn row p).fdiv _ = v at q2
  have m1 : (fn row i * u).natAbs < 2 ^ (A + B) := by
    rw [Int.natAbs_mul]
    exact mul_lt_pow (ha i) (Nat.lt_of_le_of_lt q1 (hb p))
  have m2 : (v * fn head i).natAbs < 2 ^ (A + B) := by
    rw [Int.natAbs_mul]
    exact mul_lt_pow (Nat.lt_of_le_of_lt q2 (ha p)) (hb i)
  have m3 := Int.natAbs_sub_le (fn row i * u) (v * fn head i)
  have m4 : 2 ^ (A + B + 1) = 2 ^ (A + B) + 2 ^ (A + B) := by rw [Nat.pow_succ]; omega
  have m5 : (2 : Nat) ^ (A + B + 1) ≤ 2 ^ C := Nat.pow_le_pow_right (by decide) hC
  omega
theorem tidy_bd {xs : List Int} {B : Nat} (h : Bd B xs) : Bd B (tidy xs) := fun i => by
  obtain ⟨c, hc, e, _⟩ := tidy_is xs
  refine Nat.lt_of_le_of_lt ?_ (h i)
  rw [e i, Int.natAbs_mul]
  exact Nat.le_mul_of_pos_left _ (Int.natAbs_pos.mpr hc)
theorem prim_bd {xs : List Int} {B : Nat} (h : Bd B xs) : Bd B (prim xs) := fun i => by
  by_cases h0 : shN xs = 0
  · unfold prim; rw [if_pos h0]; exact h i
  · obtain ⟨c, hc, e⟩ := prim_fn h0
    refine Nat.lt_of_le_of_lt ?_ (h i)
    rw [e i, Int.natAbs_mul]
    exact Nat.le_mul_of_pos_left _ (Int.natAbs_pos.mpr hc)
/-- what both ways have in common -/
structure Grows (less : List Int → List Int → Nat → List Int) : Prop where
  ok : LessOk less
  bd : ∀ {row head : List Int} {p A B C : Nat}, row.length = head.length → fn head p ≠ 0 → Bd A row → Bd B head → A + B + 1 ≤ C → Bd C (less row head p)
  tidy : ∀ {row head : List Int} {p : Nat}, row.length = head.length → fn head p ≠ 0 → less row head p = row ∨ shN (less row head p) = 1 ∨ ∀ i, fn (less row head p) i = 0
theorem zero_of_shN {r : List Int} (h : shN r = 0) (i : Nat) : fn r i = 0 := by
  by_cases hi : i < r.length
  · rw [fn_in hi]; exact shN_zero.mp h _ (List.getElem_mem hi)
  · exact fn_out (by omega)
theorem tidy_tidy (xs : List Int) : shN (tidy xs) = 1 ∨ ∀ i, fn (tidy xs) i = 0 := by
  obtain ⟨c, hc, e, h⟩ := tidy_is xs
  rcases h with h | h
  · exact .inl h
  · exact .inr fun i => (Int.mul_eq_zero.mp ((e i).symm.trans (zero_of_shN h i))).resolve_left hc
theorem growsP : Grows lessP := by
  refine ⟨lessP_ok, fun {row head p A B C} hl hh ha hb hC => ?_, fun {row head p} hl hh => ?_⟩
  · unfold lessP
    split
    · exact ha.mono (by omega)
    · exact tidy_bd (mixed_bd hl hh ha hb hC)
  · unfold lessP
    split
    · exact .inl rfl
    · exact .inr (tidy_tidy _)
theorem growsL : Grows lessL := ⟨lessL_ok, fun {row head p A B C} hl hh ha hb hC => tidy_bd (mixed_bd hl hh ha hb hC), fun {row head p} hl hh => .inr (tidy_tidy _)⟩

/-! ### all states of an elimination within a bound -/
def Fits (less : List Int → List Int → Nat → List Int) (rows : List (List Int)) (w B : Nat) : Prop := ∀ p, p ≤ w → ∀ r, r ∈ (run less rows p).1 ∨ r ∈ (run less rows p).2 → Bd B r
/-- one turn, told -/
theorem step_cases {less : List Int → List Int → Nat → List Int} (s : St) (p : Nat) : step less s p = s ∨ ∃ k head, s.1[k]? = some head ∧ fn head p ≠ 0 ∧ (∀ (j : Nat) (r : List Int), j < k → s.1[j]? = some r → fn r p = 0) ∧
    step less s p = ((s.1.eraseIdx k).map (fun row => less row head p), s.2.map (fun row => less row head p) ++ [head]) := by
  unfold step
  split
  · exact .inl rfl
  · rename_i k hk
    obtain ⟨hkl, hkp, hb⟩ := List.findIdx?_eq_some_iff_getElem.mp hk
    have hk1 : s.1[k]? = some s.1[k] := List.getElem?_eq_getElem hkl
    refine .inr ⟨k, s.1[k], hk1, of_decide_eq_true hkp, fun j r hj hr => ?_, by rw [getD_of hk1]⟩
    have h1 := hb j hj
    obtain ⟨h2, h3⟩ := List.getElem?_eq_some_iff.mp hr
    rw [h3] at h1
    exact Classical.byContradiction fun z => by simp at h1; exact z (by unfold fn; simpa using h1)
theorem run_len {less : List Int → List Int → Nat → List Int} (G : Grows less) {rows : List (List Int)} {w : Nat} (hr : ∀ r, r ∈ rows → r.length = w) : ∀ p, p ≤ w → (∀ r, r ∈ (run less rows p).1 ∨ r ∈ (run less rows p).2 → r.length = w) ∧ (run less rows p).1.length + (run less rows p).2.length = rows.length ∧ (run less rows p).2.length ≤ p := fun p hp => by
  obtain ⟨ls, g⟩ := going G.ok hr p hp
  refine ⟨fun r h => h.elim (g.len r) (g.led.len r), ?_, ?_⟩
  · clear g
    induction p with
    | zero => simp [run]
    | succ p ih =>
      have ih := ih (by omega)
      rw [run_succ]
      rcases step_cases (less := less) (run less rows p) p with e | ⟨k, head, h1, _, _, e⟩
      · rw [e]; exact ih
      · rw [e]
        have := (List.getElem?_eq_some_iff.mp h1).1
        simp only [List.length_map, List.length_append, List.length_singleton, List.length_eraseIdx_of_lt this]
        omega
  · clear g
    induction p with
    | zero => simp [run]
    | succ p ih =>
      have ih := ih (by omega)
      rw [run_succ]
      rcases step_cases (less := less) (run less rows p) p with e | ⟨k, head, h1, _, _, e⟩
      · rw [e]; omega
      · rw [e]
        simp only [List.length_map, List.length_append, List.length_singleton]
        omega
/-- by doubling: (b + 1) 2 ^ pivots - 1 -/
theorem double {less : List Int → List Int → Nat → List Int} (G : Grows less) {rows : List (List Int)} {w b : Nat} (hr : ∀ r, r ∈ rows → r.length = w) (hb : ∀ r, r ∈ rows → Bd b r) :
    ∀ p, p ≤ w → ∀ r, r ∈ (run less rows p).1 ∨ r ∈ (run less rows p).2 → Bd ((b + 1) * 2 ^ (run less rows p).2.length - 1) r
  | 0, _, r, h => by
    rcases h with h | h
    · have : r ∈ rows := h
      exact (hb r this).mono (by simp [run])
    · simp [run] at h
  | p + 1, hp, r, h => by
    have ih := double G hr hb p (by omega)
    obtain ⟨hl, _, _⟩ := run_len G hr p (by omega)
    rw [run_succ] at h ⊢
    rcases step_cases (less := less) (run less rows p) p with e | ⟨k, head, h1, h2, _, e⟩
    · rw [e] at h ⊢; exact ih r h
    · rw [e] at h ⊢
      have hm := List.mem_of_getElem? h1
      have hh := ih head (.inl hm)
      have hlen := hl head (.inl hm)
      have len : ((run less rows p).2.map (fun row => less row head p) ++ [head]).length = (run less rows p).2.length + 1 := by simp
      have pp : 0 < 2 ^ (run less rows p).2.length := Nat.two_pow_pos _
      have up : (b + 1) * 2 ^ (run less rows p).2.length - 1 + ((b + 1) * 2 ^ (run less rows p).2.length - 1) + 1 ≤ (b + 1) * 2 ^ ((run less rows p).2.length + 1) - 1 := by
        rw [Nat.pow_succ]
        have : 0 < (b + 1) * 2 ^ (run less rows p).2.length := Nat.mul_pos (by omega) pp
        have e2 : (b + 1) * (2 ^ (run less rows p).2.length * 2) = (b + 1) * 2 ^ (run less rows p).2.length * 2 := by rw [Nat.mul_assoc]
        rw [e2]
        omega
      show Bd ((b + 1) * 2 ^ ((run less rows p).2.map (fun row => less row head p) ++ [head]).length - 1) r
      rw [len]
      have one : ∀ r0, r0 ∈ (run less rows p).1 ∨ r0 ∈ (run less rows p).2 → Bd ((b + 1) * 2 ^ ((run less rows p).2.length + 1) - 1) (less r0 head p) := fun r0 h0 => G.bd ((hl r0 h0).trans hlen.symm) h2 (ih r0 h0) hh up
      rcases h with h | h
      · obtain ⟨r0, a, rfl⟩ := List.mem_map.mp h
        exact one r0 (.inl (List.mem_of_mem_eraseIdx a))
      · rcases List.mem_append.mp h with h | h
        · obtain ⟨r0, a, rfl⟩ := List.mem_map.mp h
          exact one r0 (.inr a)
        · rw [List.mem_singleton.mp h]
          exact hh.mono (by omega)
theorem fits_double {less : List Int → List Int → Nat → List Int} (G : Grows less) {rows : List (List Int)} {w b k B : Nat} (hr : ∀ r, r ∈ rows → r.length = w) (hb : ∀ r, r ∈ rows → Bd b r) (hk : rows.length ≤ k ∨ w ≤ k) (hB : (b + 1) * 2 ^ k ≤ B) : Fits less rows w B := fun p hp r h => by
  obtain ⟨_, h1, h2⟩ := run_len G hr p hp
  refine (double G hr hb p hp r h).mono ?_
  have : (b + 1) * 2 ^ (run less rows p).2.length ≤ (b + 1) * 2 ^ k := Nat.mul_le_mul_left _ (Nat.pow_le_pow_right (by decide) (by omega))
  omega

/-! ### small solutions -/
def smL (f : Nat → Int) (J : List Nat) : Int := (J.map f).sum
theorem smL_cons (f : Nat → Int) (j : Nat) (J : List Nat) : smL f (j :: J) = f j + smL f J := by
  unfold smL; rw [List.map_cons, List.sum_cons]
theorem smL_congr {f g : Nat → Int} : ∀ {J : List Nat}, (∀ i, i ∈ J → f i = g i) → smL f J = smL g J
  | [], _ => rfl
  | j :: J, h => by rw [smL_cons, smL_cons, h j (by simp), smL_congr fun i hi => h i (List.mem_cons_of_mem _ hi)]
theorem smL_lin (a b : Int) (f g : Nat → Int) : ∀ J : List Nat, smL (fun i => a * f i + b * g i) J = a * smL f J + b * smL g J
  | [] => by show (0 : Int) = a * 0 + b * 0; simp
  | j :: J => by rw [smL_cons, smL_cons, smL_cons, smL_lin a b f g J]; grind
theorem smL_zero {f : Nat → Int} : ∀ {J : List Nat}, (∀ i, i ∈ J → f i = 0) → smL f J = 0
  | [], _ => rfl
  | j :: J, h => by rw [smL_cons, h j (by simp), smL_zero fun i hi => h i (List.mem_cons_of_mem _ hi)]; rfl
theorem smL_le {f : Nat → Int} {M : Nat} : ∀ {J : List Nat}, (∀ i, i ∈ J → (f i).natAbs ≤ M) → (smL f J).natAbs ≤ J.length * M
  | [], _ => by show (0 : Int).natAbs ≤ 0 * M; simp
  | j :: J, h => by
    rw [smL_cons]
    have a := h j (by simp)
    have b := smL_le (f := f) (M := M) (J := J) fun i hi => h i (List.mem_cons_of_mem _ hi)
    have c := Int.natAbs_add_le (f j) (smL f J)
    have e : (j :: J).length * M = J.length * M + M := by rw [List.length_cons, Nat.succ_mul]
    rw [e]
    omega
/-- a sum over all places of what is 0 off J -/
theorem sm_smL {f : Nat → Int} {J : List Nat} {w : Nat} (hn : J.Nodup) (hJ : ∀ i, i ∈ J → i < w) (hz : ∀ i, i < w → i ∉ J → f i = 0) : sm f w = smL f J := by
  induction J generalizing f with
  | nil => exact sm_zero fun i hi => hz i hi (by simp)
  | cons j J ih =>
    obtain ⟨h1, h2⟩ := List.nodup_cons.mp hn
    have e1 : sm f w = sm (fun i => (if i = j then f j else 0) + (if i = j then 0 else f i)) w := sm_congr fun i _ => by
      by_cases e : i = j
      · rw [if_pos e, if_pos e, e]; simp
      · rw [if_neg e, if_neg e]; simp
    rw [e1, sm_add, sm_one (p := j) (hJ j (by simp)) fun i _ h => if_neg h, if_pos rfl, smL_cons, ih (f := fun i => if i = j then 0 else f i) h2 (fun i hi => hJ i (List.mem_cons_of_mem _ hi)) fun i hi hn' => ?_]
    · congr 1
      exact smL_congr fun i hi => if_neg fun (e : i = j) => h1 (e ▸ hi)
    · show (if i = j then 0 else f i) = 0
      by_cases e : i = j
      · rw [if_pos e]
      · rw [if_neg e]
        exact hz i hi fun z => (List.mem_cons.mp z).elim e hn'
/-- how many bits a solution in c unknowns has -/
def sz : Nat → Nat → Nat
  | 0, _ => 1
  | 1, _ => 1
  | c + 2, b => sz (c + 1) (2 * b + 1) + b + 4
theorem small_solution : ∀ (J : List Nat) (b : Nat) (R : Vec → Prop), J.length ≤ 16 → J.Nodup → (∀ r, R r → ∀ i, i ∈ J → (r i).natAbs < 2 ^ b) → (∃ x : Vec, (∃ i, i ∈ J ∧ x i ≠ 0) ∧ ∀ r, R r → smL (fun i => r i * x i) J = 0) →
    ∃ y : Vec, (∀ i, i ∉ J → y i = 0) ∧ (∃ i, i ∈ J ∧ y i ≠ 0) ∧ (∀ r, R r → smL (fun i => r i * y i) J = 0) ∧ ∀ i, (y i).natAbs < 2 ^ sz J.length b
  | [], b, R, _, _, _, ⟨x, ⟨i, hi, _⟩, _⟩ => by simp at hi
  | j :: J, b, R, hJ, hn, hb, ⟨x, ⟨i0, hi0, hx0⟩, hx⟩ => by
    obtain ⟨n1, n2⟩ := List.nodup_cons.mp hn
    by_cases hex : ∃ r, R r ∧ r j ≠ 0
    · obtain ⟨r0, hr0, hj0⟩ := hex
      have e0 := hx r0 hr0
      rw [smL_cons] at e0
      -- x is not 0 on J alone
      have hxJ : ∃ i, i ∈ J ∧ x i ≠ 0 := Classical.byContradiction fun z => by
        have hz : ∀ i, i ∈ J → x i = 0 := fun i hi => Classical.byContradiction fun q => z ⟨i, hi, q⟩
        rw [smL_zero fun i hi => by rw [hz i hi]; simp, Int.add_zero] at e0
        rcases List.mem_cons.mp hi0 with q | q
        · rw [q] at hx0
          exact (Int.mul_ne_zero hj0 hx0) e0
        · exact hx0 (hz i0 q)
      have two : ∀ r, R r → ∀ i, i ∈ J → (r0 j * r i + (-(r j)) * r0 i).natAbs < 2 ^ (2 * b + 1) := fun r hr i hi => by
        have a1 := mul_lt_pow (hb r0 hr0 j (by simp)) (hb r hr i (List.mem_cons_of_mem _ hi))
        have a2 := mul_lt_pow (hb r hr j (by simp)) (hb r0 hr0 i (List.mem_cons_of_mem _ hi))
        have a3 := Int.natAbs_add_le (r0 j * r i) (-(r j) * r0 i)
        rw [Int.natAbs_mul, Int.natAbs_mul, Int.natAbs_neg] at a3
        have a4 : 2 ^ (2 * b + 1) = 2 ^ (b + b) + 2 ^ (b + b) := by rw [Nat.pow_succ, show 2 * b = b + b by omega]; omega
        omega
      obtain ⟨y, y1, y2, y3, y4⟩ := small_solution J (2 * b + 1) (fun v => ∃ r, R r ∧ v = fun i => r0 j * r i + (-(r j)) * r0 i) (by simp at hJ; omega) n2 (fun v ⟨r, hr, e⟩ i hi => by rw [e]; exact two r hr i hi)
        ⟨x, hxJ, fun v ⟨r, hr, e⟩ => by
          have e1 := hx r hr
          rw [smL_cons] at e1
          have e2 : smL (fun i => v i * x i) J = r0 j * smL (fun i => r i * x i) J + (-(r j)) * smL (fun i => r0 i * x i) J := by
            rw [← smL_lin, e]
            exact smL_congr fun i _ => by grind
          rw [e2]
          grind⟩
      obtain ⟨S, hS⟩ : ∃ S, smL (fun i => r0 i * y i) J = S := ⟨_, rfl⟩
      refine ⟨fun i => if i = j then -S else r0 j * y i, fun i hi => ?_, ?_, fun r hr => ?_, fun i => ?_⟩
      · show (if i = j then -S else r0 j * y i) = 0
        rw [if_neg fun e => hi (by rw [e]; simp), y1 i fun z => hi (List.mem_cons_of_mem _ z), Int.mul_zero]
      · obtain ⟨i, hi, hy⟩ := y2
        exact ⟨i, List.mem_cons_of_mem _ hi, by
          show (if i = j then -S else r0 j * y i) ≠ 0
          rw [if_neg fun (e : i = j) => n1 (e ▸ hi)]
          exact Int.mul_ne_zero hj0 hy⟩
      · rw [smL_cons]
        show r j * (if j = j then -S else _) + _ = 0
        rw [if_pos rfl]
        have e1 : smL (fun i => r i * (if i = j then -S else r0 j * y i)) J = r0 j * smL (fun i => r i * y i) J := by
          have := smL_lin (r0 j) 0 (fun i => r i * y i) (fun i => r i * y i) J
          rw [Int.zero_mul, Int.add_zero] at this
          rw [← this]
          exact smL_congr fun i hi => by
            rw [if_neg fun (e : i = j) => n1 (e ▸ hi)]
            grind
        rw [e1]
        have e2 := y3 _ ⟨r, hr, rfl⟩
        have e3 : smL (fun i => (r0 j * r i + (-(r j)) * r0 i) * y i) J = r0 j * smL (fun i => r i * y i) J + (-(r j)) * smL (fun i => r0 i * y i) J := by
          rw [← smL_lin]
          exact smL_congr fun i _ => by grind
        have e4 : smL (fun i => (r0 j * r i + (-(r j)) * r0 i) * y i) J = 0 := e2
        rw [e3, hS] at e4
        generalize smL (fun i => r i * y i) J = U at e4
        clear e1 e2 e3 hS
        grind
      · have hJ1 : J ≠ [] := fun e => by
          obtain ⟨i, hi, _⟩ := hxJ
          rw [e] at hi; simp at hi
        obtain ⟨c, hc⟩ : ∃ c, J.length = c + 1 := ⟨J.length - 1, by have := List.length_pos_iff.mpr hJ1; omega⟩
        have esz : sz (j :: J).length b = sz J.length (2 * b + 1) + b + 4 := by
          rw [List.length_cons, hc]; rfl
        have hJ16 : J.length ≤ 16 := by simp at hJ; omega
        rw [esz]
        show (if i = j then -S else r0 j * y i).natAbs < _
        have bj := hb r0 hr0 j (by simp)
        by_cases e : i = j
        · rw [if_pos e, Int.natAbs_neg, ← hS]
          have l1 : (smL (fun i => r0 i * y i) J).natAbs ≤ J.length * (2 ^ (b + sz J.length (2 * b + 1)) - 1) := smL_le fun i hi => by
            have := mul_lt_pow (hb r0 hr0 i (List.mem_cons_of_mem _ hi)) (y4 i)
            rw [← Int.natAbs_mul] at this
            omega
          have l2 : J.length * (2 ^ (b + sz J.length (2 * b + 1)) - 1) ≤ 16 * (2 ^ (b + sz J.length (2 * b + 1)) - 1) := Nat.mul_le_mul_right _ hJ16
          have l3 : 2 ^ (sz J.length (2 * b + 1) + b + 4) = 16 * 2 ^ (b + sz J.length (2 * b + 1)) := by
            rw [Nat.pow_add, Nat.add_comm b]; omega
          have l4 : 0 < 2 ^ (b + sz J.length (2 * b + 1)) := Nat.two_pow_pos _
          omega
        · rw [if_neg e, Int.natAbs_mul]
          have := mul_lt_pow bj (y4 i)
          have l3 : 2 ^ (sz J.length (2 * b + 1) + b + 4) = 16 * 2 ^ (b + sz J.length (2 * b + 1)) := by
            rw [Nat.pow_add, Nat.add_comm b]; omega
          omega
    · have hz : ∀ r, R r → r j = 0 := fun r hr => Classical.byContradiction fun z => hex ⟨r, hr, z⟩
      refine ⟨unit j, fun i hi => ?_, ⟨j, by simp, ?_⟩, fun r hr => smL_zero fun i hi => ?_, fun i => ?_⟩
      · unfold unit; rw [if_neg fun e => hi (by rw [e]; simp)]
      · unfold unit; rw [if_pos rfl]; decide
      · rcases List.mem_cons.mp hi with q | q
        · rw [q, hz r hr]; simp
        · show r i * unit j i = 0
          unfold unit
          rw [if_neg fun (e : i = j) => n1 (e ▸ q)]; simp
      · have : 1 < 2 ^ sz (j :: J).length b := by
          have : 1 ≤ sz (j :: J).length b := by
            rw [List.length_cons]
            cases J.length with
            | zero => exact Nat.le_refl _
            | succ c => show 1 ≤ sz (c + 1) (2 * b + 1) + b + 4; omega
          exact Nat.lt_of_lt_of_le (by decide) (Nat.pow_le_pow_right (by decide) this)
        unfold unit
        split
        · exact this
        · show 0 < _; omega
end Lin

/-! The numbers of a kernel's elimination stay small; the kernel's rows as both programs make them. -/
namespace Lin
open Classical

theorem erase_perm {α : Type} : ∀ {l : List α} {k : Nat} {x : α}, l[k]? = some x → l.Perm (x :: l.eraseIdx k)
  | [], k, x, h => by simp at h
  | a :: l, 0, x, h => by
    have : a = x := Option.some.inj h
    rw [this]
    exact .refl _
  | a :: l, k + 1, x, h => by
    have ih := erase_perm (l := l) (k := k) (x := x) h
    show (a :: l).Perm (x :: a :: l.eraseIdx k)
    exact (ih.cons a).trans (.swap x a _)
theorem erase_map {α β : Type} (f : α → β) : ∀ (l : List α) (k : Nat), (l.map f).eraseIdx k = (l.eraseIdx k).map f
  | [], k => rfl
  | a :: l, 0 => rfl
  | a :: l, k + 1 => by
    show f a :: (l.map f).eraseIdx k = f a :: (l.eraseIdx k).map f
    rw [erase_map f l k]

/-! ### rows, each alone at a place of its own -/
abbrev RC := List Int × Nat
def Off (a b : RC) : Prop := fn a.1 b.2 = 0 ∧ fn b.1 a.2 = 0
theorem off_symm {a b : RC} (h : Off a b) : Off b a := ⟨h.2, h.1⟩
structure Dia (Q : List RC) (w : Nat) : Prop where
  off : Q.Pairwise Off
  at_ : ∀ q, q ∈ Q → fn q.1 q.2 ≠ 0
  lt : ∀ q, q ∈ Q → q.2 < w
  len : ∀ q, q ∈ Q → q.1.length = w
theorem Dia.perm {Q R : List RC} {w : Nat} (D : Dia Q w) (h : Q.Perm R) : Dia R w :=
  ⟨(List.Perm.pairwise_iff (fun h => off_symm h) h).mp D.off, fun q hq => D.at_ q (h.mem_iff.mpr hq), fun q hq => D.lt q (h.mem_iff.mpr hq), fun q hq => D.len q (h.mem_iff.mpr hq)⟩
theorem Dia.nodup {Q : List RC} {w : Nat} (D : Dia Q w) : (Q.map (·.2)).Nodup := by
  unfold List.Nodup
  rw [List.pairwise_map]
  refine List.Pairwise.imp_of_mem ?_ D.off
  intro a b ha hb h e
  exact D.at_ a ha (by rw [e]; exact h.1)
/-- a row that they make and that is 0 at all their places is 0 -/
theorem Dia.zero : ∀ {Q : List RC} {w : Nat}, Dia Q w → ∀ {v : Vec}, Sp (Q.map (·.1)) v → (∀ q, q ∈ Q → v q.2 = 0) → ∀ i, v i = 0 := fun {Q w} D {v} hv hz => by
  -- multipliers
  have hm : ∀ R : List RC, (∀ q, q ∈ R → fn q.1 q.2 ≠ 0) → ∃ M : Int, M ≠ 0 ∧ ∀ q, q ∈ R → ∃ m : Int, M = m * fn q.1 q.2 := fun R hR => by
    induction R with
    | nil => exact ⟨1, by decide, fun q hq => by simp at hq⟩
    | cons r R ih =>
      obtain ⟨M, h1, h2⟩ := ih fun q hq => hR q (List.mem_cons_of_mem _ hq)
      refine ⟨M * fn r.1 r.2, Int.mul_ne_zero h1 (hR r (by simp)), fun q hq => ?_⟩
      rcases List.mem_cons.mp hq with e | e
      · exact ⟨M, by rw [e]⟩
      · obtain ⟨m, e2⟩ := h2 q e
        exact ⟨m * fn r.1 r.2, by rw [e2]; grind⟩
  obtain ⟨M, hM, hq⟩ := hm Q D.at_
  let c : RC → Int := fun q => if h : q ∈ Q then (hq q h).choose else 0
  have hc : ∀ q, q ∈ Q → M = c q * fn q.1 q.2 := fun q h => by
    show M = (if h : q ∈ Q then (hq q h).choose else 0) * _
    rw [dif_pos h]
    exact (hq q h).choose_spec
  have told : ∀ {v : Vec}, Sp (Q.map (·.1)) v → ∀ i, M * v i = (Q.map fun q => c q * v q.2 * fn q.1 i).sum := fun {v} hv => by
    induction hv with
    | gen h =>
      obtain ⟨r, hr, rfl⟩ := h
      obtain ⟨q0, hq0, rfl⟩ := List.mem_map.mp hr
      intro i
      obtain ⟨A, B, e⟩ := List.append_of_mem hq0
      have D2 := D.perm (R := q0 :: (A ++ B)) (by rw [e]; exact List.perm_middle)
      obtain ⟨o1, _⟩ := List.pairwise_cons.mp D2.off
      have z : ∀ L : List RC, (∀ q, q ∈ L → q ∈ A ++ B) → (L.map fun q => c q * fn q0.1 q.2 * fn q.1 i).sum = 0 := fun L hL => by
        induction L with
        | nil => rfl
        | cons x L ih =>
          rw [List.map_cons, List.sum_cons, ih fun q h => hL q (List.mem_cons_of_mem _ h), (o1 x (hL x (by simp))).1]; simp
      rw [e, List.map_append, List.sum_append, List.map_cons, List.sum_cons, z A fun q h => List.mem_append_left _ h, z B fun q h => List.mem_append_right _ h, hc q0 hq0]
      simp
    | zero =>
      intro i
      have : (Q.map fun q => c q * (fun _ : Nat => (0 : Int)) q.2 * fn q.1 i).sum = 0 := by
        generalize Q = L
        induction L with
        | nil => rfl
        | cons x L ih => rw [List.map_cons, List.sum_cons, ih]; simp
      rw [this]; simp
    | @lin a b u v _ _ hu hv' =>
      intro i
      have e : (Q.map fun q => c q * (fun i => a * u i + b * v i) q.2 * fn q.1 i).sum = a * (Q.map fun q => c q * u q.2 * fn q.1 i).sum + b * (Q.map fun q => c q * v q.2 * fn q.1 i).sum := by
        generalize Q = L
        induction L with
        | nil => simp
        | cons x L ih => rw [List.map_cons, List.sum_cons, List.map_cons, List.sum_cons, List.map_cons, List.sum_cons, ih]; grind
      rw [e, ← hu i, ← hv' i]
      show M * (a * u i + b * v i) = _
      grind
    | @div d v hd _ h =>
      intro i
      have e : (Q.map fun q => c q * (fun i => d * v i) q.2 * fn q.1 i).sum = d * (Q.map fun q => c q * v q.2 * fn q.1 i).sum := by
        generalize Q = L
        induction L with
        | nil => simp
        | cons x L ih => rw [List.map_cons, List.sum_cons, List.map_cons, List.sum_cons, ih]; grind
      have h2 := h i
      rw [e] at h2
      refine Int.eq_of_mul_eq_mul_left hd ?_
      rw [← h2]
      show d * (M * v i) = M * (d * v i)
      grind
  intro i
  have := told hv i
  have z : (Q.map fun q => c q * v q.2 * fn q.1 i).sum = 0 := by
    have : ∀ L : List RC, (∀ q, q ∈ L → q ∈ Q) → (L.map fun q => c q * v q.2 * fn q.1 i).sum = 0 := fun L hL => by
      induction L with
      | nil => rfl
      | cons x L ih => rw [List.map_cons, List.sum_cons, ih fun q h => hL q (List.mem_cons_of_mem _ h), hz x (hL x (by simp))]; simp
    exact this Q fun _ h => h
  rw [z] at this
  exact (Int.mul_eq_zero.mp this).resolve_left hM

/-- a row without common divisors in a kernel, alone at its place: its numbers are small -/
theorem Dia.small {A : List (List Int)} {Q : List RC} {w b : Nat} (D : Dia Q w) (hw : w ≤ 16) (hA : ∀ r, r ∈ A → Bd b r) (hQ : ∀ v, KerR A w v → Sp (Q.map (·.1)) v) {q : RC} (hq : q ∈ Q) {r : List Int} (hr : KerR A w (fn r)) (hl : r.length = w) (h1 : shN r = 1)
    (hat : fn r q.2 ≠ 0) (hoff : ∀ q', q' ∈ Q → q' ≠ q → fn r q'.2 = 0) : Bd (sz (w - Q.length + 1) b) r := by
  obtain ⟨X, Y, e⟩ := List.append_of_mem hq
  have hp : Q.Perm (q :: (X ++ Y)) := by rw [e]; exact List.perm_middle
  have D2 := D.perm hp
  have hn := D2.nodup
  rw [List.map_cons] at hn
  obtain ⟨n1, n2⟩ := List.nodup_cons.mp hn
  let os := (X ++ Y).map (·.2)
  have hos : ∀ o, o ∈ os → o < w := fun o ho => by
    obtain ⟨x, hx, rfl⟩ := List.mem_map.mp ho
    exact D2.lt x (List.mem_cons_of_mem _ hx)
  have roff : ∀ o, o ∈ os → fn r o = 0 := fun o ho => by
    obtain ⟨x, hx, rfl⟩ := List.mem_map.mp ho
    refine hoff x (hp.mem_iff.mpr (List.mem_cons_of_mem _ hx)) fun z => n1 ?_
    rw [← z]
    exact List.mem_map.mpr ⟨x, hx, rfl⟩
  let J := (List.range w).filter fun i => decide (i ∉ os)
  have hJ : ∀ i, i ∈ J ↔ i < w ∧ i ∉ os := fun i => by simp [J]
  have hJn : J.Nodup := List.Pairwise.filter _ List.nodup_range
  have hqJ : q.2 ∈ J := (hJ _).mpr ⟨D.lt q hq, fun z => n1 z⟩
  have hJ0 : 0 < J.length := List.length_pos_of_mem hqJ
  have hlen : J.length = w - Q.length + 1 := by
    have p : (os ++ J).Perm (List.range w) := (List.perm_ext_iff_of_nodup (by
      rw [List.nodup_append]
      exact ⟨n2, hJn, fun a ha b hb e => by rw [e] at ha; exact ((hJ b).mp hb).2 ha⟩) List.nodup_range).mpr fun a => by
        rw [List.mem_append, hJ, List.mem_range]
        constructor
        · intro h; exact h.elim (hos a) (·.1)
        · intro h
          by_cases z : a ∈ os
          · exact .inl z
          · exact .inr ⟨h, z⟩
    have := p.length_eq
    have e3 : os.length + 1 = Q.length := by
      have := hp.length_eq
      simp only [List.length_cons] at this
      simp only [os, List.length_map]
      omega
    rw [List.length_append, List.length_range] at this
    omega
  have dotJ : ∀ (u v : Vec), (∀ i, i ∉ J → v i = 0) → dot w u v = smL (fun i => u i * v i) J := fun u v hv => sm_smL hJn (fun i hi => ((hJ i).mp hi).1) fun i _ hi => by rw [hv i hi, Int.mul_zero]
  have rJ : ∀ i, i ∉ J → fn r i = 0 := fun i hi => by
    by_cases c : i < w
    · by_cases c2 : i ∈ os
      · exact roff i c2
      · exact absurd ((hJ i).mpr ⟨c, c2⟩) hi
    · exact hr.1 i (by omega)
  obtain ⟨y, y1, ⟨i0, _, y2⟩, y3, y4⟩ := small_solution J b (Rows A) (by have := List.length_filter_le (fun i => decide (i ∉ os)) (List.range w); rw [List.length_range] at this; exact Nat.le_trans this hw) hJn (fun v ⟨s, hs, ev⟩ i _ => by rw [ev]; exact hA s hs i)
    ⟨fn r, ⟨q.2, hqJ, hat⟩, fun v ⟨s, hs, ev⟩ => by rw [← dotJ _ _ rJ, ev]; exact hr.2 s hs⟩
  rw [hlen] at y4
  have hy : KerR A w y := ⟨fun i hi => y1 i fun z => by have := ((hJ i).mp z).1; omega, fun s hs => by rw [dotJ _ _ y1]; exact y3 _ ⟨s, hs, rfl⟩⟩
  -- y and r are multiples
  have hz := D.zero (hQ _ ((kerR_sub A w).lin (fn r q.2) (-(y q.2)) _ _ hy hr)) fun q' hq' => by
    show fn r q.2 * y q'.2 + -(y q.2) * fn r q'.2 = 0
    by_cases c : q' = q
    · rw [c]; grind
    · rw [hoff q' hq' c, y1 q'.2 fun z => ?_]
      · simp
      · have : q' ∈ X ++ Y := (List.mem_cons.mp (hp.mem_iff.mp hq')).resolve_left c
        exact ((hJ _).mp z).2 (List.mem_map.mpr ⟨q', this, rfl⟩)
  have hprop : ∀ i, fn r q.2 * y i = y q.2 * fn r i := fun i => by
    have : fn r q.2 * y i + -(y q.2) * fn r i = 0 := hz i
    grind
  have hyq : y q.2 ≠ 0 := fun z => by
    have := hprop i0
    rw [z, Int.zero_mul] at this
    exact Int.mul_ne_zero hat y2 this
  -- r q divides y q
  have hd : fn r q.2 ∣ y q.2 := by
    have el : ((List.range w).map y).map (fn r q.2 * ·) = r.map (y q.2 * ·) := fn_ext (by simp [hl]) fun i => by
      rw [fn_map (by simp), fn_map (by simp), fn_range]
      by_cases c : i < w
      · rw [if_pos c]; exact hprop i
      · rw [if_neg c, hr.1 i (by omega)]; simp
    have e1 := shN_mul (y q.2) r
    rw [← el, h1, shN_mul, Nat.mul_one] at e1
    exact Int.natAbs_dvd_natAbs.mp ⟨_, e1.symm⟩
  obtain ⟨c, ec⟩ := hd
  have hc : c ≠ 0 := fun z => hyq (by rw [ec, z, Int.mul_zero])
  intro i
  refine Nat.lt_of_le_of_lt ?_ (y4 i)
  have := hprop i
  rw [ec] at this
  have e2 : y i = c * fn r i := Int.eq_of_mul_eq_mul_left hat (by rw [this]; grind)
  rw [e2, Int.natAbs_mul]
  exact Nat.le_mul_of_pos_left _ (Int.natAbs_pos.mpr hc)

/-! ### an elimination whose rows are each alone at a place -/
structure Diag (less : List Int → List Int → Nat → List Int) (rows : List (List Int)) (w B p : Nat) (L F : List RC) : Prop where
  l : (run less rows p).1 = L.map (·.1)
  f : (run less rows p).2 = F.map (·.1)
  dia : Dia (F ++ L) w
  bd : ∀ q, q ∈ F ++ L → Bd B q.1 ∨ shN q.1 = 1
theorem diag_step {less : List Int → List Int → Nat → List Int} (G : Grows less) {rows : List (List Int)} {w B p : Nat} {L F : List RC} (d : Diag less rows w B p L F) (hp : p < w) : ∃ L' F', Diag less rows w B (p + 1) L' F' ∧ (F' ++ L').length = (F ++ L).length := by
  rcases step_cases (less := less) (run less rows p) p with e | ⟨k, head, h1, h2, _, e⟩
  · exact ⟨L, F, ⟨by rw [run_succ, e]; exact d.l, by rw [run_succ, e]; exact d.f, d.dia, d.bd⟩, rfl⟩
  · rw [d.l, List.getElem?_map] at h1
    cases hk : L[k]? with
    | none => rw [hk] at h1; cases h1
    | some hq =>
      rw [hk] at h1
      have hh : hq.1 = head := Option.some.inj h1
      obtain ⟨hr, hc⟩ := hq
      have hh : hr = head := hh
      subst hh
      have hperm : (F ++ L).Perm ((hr, hc) :: (F ++ L.eraseIdx k)) := ((erase_perm hk).append_left F).trans List.perm_middle
      have D2 := d.dia.perm hperm
      obtain ⟨o1, o2⟩ := List.pairwise_cons.mp D2.off
      have hlen : hr.length = w := D2.len (hr, hc) (by simp)
      let g : RC → RC := fun q => (less q.1 hr p, q.2)
      have key : ∀ q, q ∈ F ++ L.eraseIdx k → q.1.length = w ∧ fn (less q.1 hr p) p = 0 ∧ ∃ x z : Int, x ≠ 0 ∧ z ≠ 0 ∧ ∀ q', q' ∈ F ++ L.eraseIdx k → z * fn (less q.1 hr p) q'.2 = x * fn q.1 q'.2 := fun q hq => by
        have ql : q.1.length = w := D2.len q (List.mem_cons_of_mem _ hq)
        obtain ⟨x, y, z, hx, hz, e1, e2⟩ := G.ok.is (row := q.1) (head := hr) (p := p) (ql.trans hlen.symm) h2
        refine ⟨ql, e2, x, z, hx, hz, fun q' hq' => ?_⟩
        rw [e1, (o1 q' hq').1, Int.mul_zero, Int.add_zero]
      refine ⟨(L.eraseIdx k).map g, F.map g ++ [(hr, p)], ⟨?_, ?_, ?_, ?_⟩, ?_⟩
      · rw [run_succ, e, d.l, erase_map, List.map_map, List.map_map]; rfl
      · rw [run_succ, e, d.f, List.map_append, List.map_map, List.map_map]; rfl
      · have hp2 : ((hr, p) :: (F ++ L.eraseIdx k).map g).Perm (F.map g ++ [(hr, p)] ++ (L.eraseIdx k).map g) := by
          rw [List.map_append, List.append_assoc]
          exact List.perm_middle.symm
        refine Dia.perm ?_ hp2
        refine ⟨?_, ?_, ?_, ?_⟩
        · refine List.pairwise_cons.mpr ⟨fun q hq => ?_, ?_⟩
          · obtain ⟨q0, h0, rfl⟩ := List.mem_map.mp hq
            exact ⟨(o1 q0 h0).1, (key q0 h0).2.1⟩
          · rw [List.pairwise_map]
            refine List.Pairwise.imp_of_mem ?_ o2
            intro a b ha hb hab
            obtain ⟨_, _, x, z, _, hz, e1⟩ := key a ha
            obtain ⟨_, _, x', z', _, hz', e1'⟩ := key b hb
            have h3 := e1 b hb
            have h4 := e1' a ha
            rw [hab.1, Int.mul_zero] at h3
            rw [hab.2, Int.mul_zero] at h4
            exact ⟨(Int.mul_eq_zero.mp h3).resolve_left hz, (Int.mul_eq_zero.mp h4).resolve_left hz'⟩
        · intro q hq
          rcases List.mem_cons.mp hq with z | z
          · rw [z]; exact h2
          · obtain ⟨q0, h0, rfl⟩ := List.mem_map.mp z
            obtain ⟨_, _, x, z, hx, hz, e1⟩ := key q0 h0
            intro c
            have h3 := e1 q0 h0
            have c' : fn (less q0.1 hr p) q0.2 = 0 := c
            rw [c', Int.mul_zero] at h3
            exact Int.mul_ne_zero hx (D2.at_ q0 (List.mem_cons_of_mem _ h0)) h3.symm
        · intro q hq
          rcases List.mem_cons.mp hq with z | z
          · rw [z]; exact hp
          · obtain ⟨q0, h0, rfl⟩ := List.mem_map.mp z
            exact D2.lt q0 (List.mem_cons_of_mem _ h0)
        · intro q hq
          rcases List.mem_cons.mp hq with z | z
          · rw [z]; exact hlen
          · obtain ⟨q0, h0, rfl⟩ := List.mem_map.mp z
            obtain ⟨ql, _⟩ := key q0 h0
            exact (G.ok.len (ql.trans hlen.symm) h2).trans ql
      · intro q hq
        have hg : ∀ q0, q0 ∈ F ++ L.eraseIdx k → Bd B (g q0).1 ∨ shN (g q0).1 = 1 := fun q0 h0 => by
          obtain ⟨ql, _, x, z, hx, hz, e1⟩ := key q0 h0
          rcases G.tidy (row := q0.1) (head := hr) (p := p) (ql.trans hlen.symm) h2 with t | t | t
          · show Bd B (less q0.1 hr p) ∨ shN (less q0.1 hr p) = 1
            rw [t]
            exact d.bd q0 (hperm.mem_iff.mpr (List.mem_cons_of_mem _ h0))
          · exact .inr t
          · exfalso
            have h3 := e1 q0 h0
            rw [t, Int.mul_zero] at h3
            exact Int.mul_ne_zero hx (D2.at_ q0 (List.mem_cons_of_mem _ h0)) h3.symm
        rcases List.mem_append.mp hq with h | h
        · rcases List.mem_append.mp h with h | h
          · obtain ⟨q0, h0, rfl⟩ := List.mem_map.mp h
            exact hg q0 (List.mem_append_left _ h0)
          · rw [List.mem_singleton.mp h]
            exact d.bd (hr, hc) (hperm.mem_iff.mpr (by simp))
        · obtain ⟨q0, h0, rfl⟩ := List.mem_map.mp h
          exact hg q0 (List.mem_append_right _ h0)
      · have := hperm.length_eq
        simp only [List.length_append, List.length_cons, List.length_map, List.length_nil] at this ⊢
        omega
theorem diag_all {less : List Int → List Int → Nat → List Int} (G : Grows less) {Q : List RC} {w B : Nat} (D : Dia Q w) (hB : ∀ q, q ∈ Q → Bd B q.1) : ∀ p, p ≤ w → ∃ L F, Diag less (Q.map (·.1)) w B p L F ∧ (F ++ L).length = Q.length
  | 0, _ => ⟨Q, [], ⟨rfl, rfl, D, fun q hq => .inl (hB q hq)⟩, rfl⟩
  | p + 1, hp => by
    obtain ⟨L, F, d, h⟩ := diag_all G D hB p (by omega)
    obtain ⟨L', F', d', h'⟩ := diag_step G d (by omega)
    exact ⟨L', F', d', h'.trans h⟩
/-- THE BOUND for a kernel's elimination -/
theorem kernel_fits {less : List Int → List Int → Nat → List Int} (G : Grows less) {A : List (List Int)} {Q : List RC} {w b B C : Nat} (D : Dia Q w) (hw : w ≤ 16) (hA : ∀ r, r ∈ A → Bd b r) (hQ : ∀ v, Sp (Q.map (·.1)) v ↔ KerR A w v) (hB : ∀ q, q ∈ Q → Bd B q.1)
    (h1 : B ≤ C) (h2 : sz (w - Q.length + 1) b ≤ C) : Fits less (Q.map (·.1)) w C ∧ ∀ r, r ∈ echelon less (Q.map (·.1)) w → Bd (sz (w - Q.length + 1) b) r := by
  have hlen : ∀ r, r ∈ Q.map (·.1) → r.length = w := fun r hr => by
    obtain ⟨q, hq, rfl⟩ := List.mem_map.mp hr
    exact D.len q hq
  have one : ∀ p, p ≤ w → ∀ (L F : List RC), Diag less (Q.map (·.1)) w B p L F → (F ++ L).length = Q.length → ∀ q, q ∈ F ++ L → ∀ r : List Int, r.length = w → shN r = 1 → (∃ x z : Int, x ≠ 0 ∧ z ≠ 0 ∧ ∀ i, z * fn r i = x * fn q.1 i) → Bd (sz (w - Q.length + 1) b) r := fun p hp L F d hl q hq r rl r1 ⟨x, z, hx, hz, e⟩ => by
    obtain ⟨ls, g⟩ := going G.ok hlen p hp
    have hsp : ∀ v, Sp ((F ++ L).map (·.1)) v ↔ KerR A w v := fun v => by
      rw [List.map_append, ← d.l, ← d.f, ← hQ v]
      exact ⟨g.fro v, g.to v⟩
    rw [← hl]
    have hk : KerR A w (fn r) := by
      refine (hsp _).mp (Sat.prop (a := x) hz (Sp.of (List.mem_map.mpr ⟨q, hq, rfl⟩)) e)
    refine d.dia.small hw hA (fun v hv => (hsp v).mpr hv) hq hk rl r1 (fun c => ?_) fun q' hq' hne => ?_
    · have := e q.2
      rw [c, Int.mul_zero] at this
      exact Int.mul_ne_zero hx (d.dia.at_ q hq) this.symm
    · have h3 := e q'.2
      have : fn q.1 q'.2 = 0 := by
        obtain ⟨X, Y, e4⟩ := List.append_of_mem hq
        have D2 := d.dia.perm (R := q :: (X ++ Y)) (by rw [e4]; exact List.perm_middle)
        have hq2 : q' ∈ X ++ Y := by
          have : q' ∈ q :: (X ++ Y) := (show (F ++ L).Perm (q :: (X ++ Y)) by rw [e4]; exact List.perm_middle).mem_iff.mp hq'
          exact (List.mem_cons.mp this).resolve_left hne
        exact ((List.pairwise_cons.mp D2.off).1 q' hq2).1
      rw [this, Int.mul_zero] at h3
      exact (Int.mul_eq_zero.mp h3).resolve_left hz
  constructor
  · intro p hp r hr
    obtain ⟨L, F, d, hl⟩ := diag_all G D hB p hp
    have : ∃ q, q ∈ F ++ L ∧ q.1 = r := by
      rcases hr with h | h
      · rw [d.l] at h
        obtain ⟨q, hq, e⟩ := List.mem_map.mp h
        exact ⟨q, List.mem_append_right _ hq, e⟩
      · rw [d.f] at h
        obtain ⟨q, hq, e⟩ := List.mem_map.mp h
        exact ⟨q, List.mem_append_left _ hq, e⟩
    obtain ⟨q, hq, rfl⟩ := this
    rcases d.bd q hq with h | h
    · exact h.mono h1
    · exact (one p hp L F d hl q hq q.1 (d.dia.len q hq) h ⟨1, 1, by decide, by decide, fun _ => rfl⟩).mono h2
  · intro r hr
    obtain ⟨r0, h0, rfl⟩ := List.mem_map.mp hr
    obtain ⟨L, F, d, hl⟩ := diag_all G D hB w (Nat.le_refl _)
    rw [d.f] at h0
    obtain ⟨q, hq, rfl⟩ := List.mem_map.mp h0
    have hq' : q ∈ F ++ L := List.mem_append_left _ hq
    have hne : shN q.1 ≠ 0 := shN_ne (d.dia.at_ q hq')
    obtain ⟨c, hc, e⟩ := prim_fn hne
    exact one w (Nat.le_refl _) L F d hl q hq' (prim q.1) ((prim_len _).trans (d.dia.len q hq')) (prim_nrm hne).one ⟨1, c, by decide, hc, fun i => by rw [← e i]; simp⟩

/-- the rows of the free places, each with its place -/
theorem frees_dia {T : List (List Int)} {ls : List Nat} {w : Nat} {W : Int} {m : Nat → Int} {free : List Nat} {found : List (List Int)} (F : Frees T ls w W m free found) : Dia (found.zip free) w ∧ (found.zip free).map (·.1) = found ∧ (found.zip free).length = free.length := by
  have at' : ∀ (k : Nat) (q : RC), (found.zip free)[k]? = some q → found[k]? = some q.1 ∧ free[k]? = some q.2 := fun k q h => List.getElem?_zip_eq_some.mp h
  have mem : ∀ q, q ∈ found.zip free → ∃ k, found[k]? = some q.1 ∧ free[k]? = some q.2 := fun q h => by
    obtain ⟨k, hk⟩ := List.mem_iff_getElem?.mp h
    exact ⟨k, at' k q hk⟩
  refine ⟨⟨?_, fun q hq => ?_, fun q hq => ?_, fun q hq => ?_⟩, ?_, ?_⟩
  · rw [List.pairwise_iff_getElem]
    intro i j hi hj hij
    obtain ⟨a1, a2⟩ := at' i _ (List.getElem?_eq_getElem hi)
    obtain ⟨b1, b2⟩ := at' j _ (List.getElem?_eq_getElem hj)
    have hne : (found.zip free)[i].2 ≠ (found.zip free)[j].2 := by
      have h1 := List.getElem?_eq_some_iff.mp a2
      have h2 := List.getElem?_eq_some_iff.mp b2
      have := List.pairwise_iff_getElem.mp F.up i j h1.1 h2.1 hij
      rw [h1.2, h2.2] at this
      omega
    exact ⟨F.other i _ _ a1 a2 _ ((F.mem _).mp (List.mem_of_getElem? b2)).2 fun e => hne e.symm, F.other j _ _ b1 b2 _ ((F.mem _).mp (List.mem_of_getElem? a2)).2 hne⟩
  · obtain ⟨k, h1, h2⟩ := mem q hq
    rw [F.own k _ _ h1 h2]; exact F.ne
  · obtain ⟨k, h1, h2⟩ := mem q hq
    exact ((F.mem _).mp (List.mem_of_getElem? h2)).1
  · obtain ⟨k, h1, h2⟩ := mem q hq
    exact F.len _ (List.mem_of_getElem? h1)
  · have := List.map_fst_zip (l₁ := found) (l₂ := free) (by rw [F.same]; exact Nat.le_refl _)
    exact this
  · rw [List.length_zip, F.same]; omega
end Lin

/-! What both programs make of rows: kernels, level tables. -/
namespace Lin
open Classical

def leadOf (r : List Int) : Nat := (((List.range r.length).filter fun i => decide (fn r i ≠ 0)).head?).getD 0
def wholeOf (T : List (List Int)) : Int := T.foldl (fun wh t => wh * (fn t (leadOf t)).fdiv (Nat.gcd wh.natAbs (fn t (leadOf t)).natAbs : Nat)) 1
def freeOf (T : List (List Int)) (w : Nat) : List Nat := (List.range w).filter fun p => decide (p ∉ T.map leadOf)
def oneP (T : List (List Int)) (W : Int) (w f : Nat) : List Int := T.foldl (fun one t => one.set (leadOf t) (-(W.fdiv (fn t (leadOf t))) * fn t f)) ((List.replicate w 0).set f W)
def oneL (T : List (List Int)) (W : Int) (w f : Nat) : List Int := T.foldl (fun one t => one.set (leadOf t) (0 - (W * fn t f).fdiv (fn t (leadOf t)))) ((List.replicate w 0).set f W)
def foundP (T : List (List Int)) (w : Nat) : List (List Int) := (freeOf T w).map (oneP T (wholeOf T) w)
def foundL (T : List (List Int)) (w : Nat) : List (List Int) := (freeOf T w).map (oneL T (wholeOf T) w)
def kerP (rows : List (List Int)) (w : Nat) : List (List Int) := echelon lessP (foundP (echelon lessP rows w) w) w
def kerL (rows : List (List Int)) (w : Nat) : List (List Int) := echelon lessL (foundL (echelon lessL rows w) w) w

theorem leadOf_eq {r : List Int} {l : Nat} (h : fn r l ≠ 0) (hb : ∀ i, i < l → fn r i = 0) : leadOf r = l := by
  have hl : l < r.length := Classical.byContradiction fun z => h (fn_out (by omega))
  unfold leadOf
  rw [List.head?_filter]
  have : (List.range r.length).find? (fun i => decide (fn r i ≠ 0)) = some l := by
    rw [List.find?_range_eq_some]
    exact ⟨by simpa using h, by simpa using hl, fun j hj => by simpa using hb j hj⟩
  rw [this]
  rfl
theorem fn_set {r : List Int} {k : Nat} {x : Int} (h : k < r.length) (i : Nat) : fn (r.set k x) i = if i = k then x else fn r i := by
  unfold fn
  rw [List.getD_eq_getElem?_getD, List.getD_eq_getElem?_getD, List.getElem?_set]
  by_cases e : i = k
  · subst e; rw [if_pos rfl, if_pos h, if_pos rfl]; rfl
  · rw [if_neg fun z => e z.symm, if_neg e]
theorem fn_replicate (w i : Nat) : fn (List.replicate w 0) i = 0 := by
  by_cases h : i < w
  · rw [fn_in (by simpa using h)]; simp
  · exact fn_out (by simpa using h)

section
variable {T : List (List Int)} {ls : List Nat} {w : Nat}
theorem Led.leads (L : Led T ls w) : T.map leadOf = ls := by
  refine List.ext_getElem? fun j => ?_
  rw [List.getElem?_map]
  by_cases h : j < T.length
  · have h1 : T[j]? = some T[j] := List.getElem?_eq_getElem h
    have h2 : ls[j]? = some (ls[j]'(by rw [L.same]; exact h)) := List.getElem?_eq_getElem _
    rw [h1, h2]
    show some (leadOf T[j]) = _
    rw [leadOf_eq (L.at_ j _ _ h1 h2) (L.before j _ _ h1 h2)]
  · rw [List.getElem?_eq_none (by omega), List.getElem?_eq_none (by rw [L.same]; omega)]; rfl
theorem Led.lead_at (L : Led T ls w) {j : Nat} {t : List Int} (h : T[j]? = some t) : ls[j]? = some (leadOf t) := by
  rw [← L.leads, List.getElem?_map, h]; rfl
theorem Led.lead_ne (L : Led T ls w) {t : List Int} (h : t ∈ T) : fn t (leadOf t) ≠ 0 := by
  obtain ⟨j, hj⟩ := List.mem_iff_getElem?.mp h
  exact L.at_ j _ t hj (L.lead_at hj)
theorem Led.lead_lt (L : Led T ls w) {t : List Int} (h : t ∈ T) : leadOf t < w := by
  obtain ⟨j, hj⟩ := List.mem_iff_getElem?.mp h
  exact L.lt _ (List.mem_of_getElem? (L.lead_at hj))

/-! ### the least common multiple -/
theorem whole_step {wh x : Int} (hx : x ≠ 0) (hw : wh ≠ 0) : wh * x.fdiv (Nat.gcd wh.natAbs x.natAbs : Nat) ≠ 0 ∧ wh ∣ wh * x.fdiv (Nat.gcd wh.natAbs x.natAbs : Nat) ∧ x ∣ wh * x.fdiv (Nat.gcd wh.natAbs x.natAbs : Nat) ∧ (x.fdiv (Nat.gcd wh.natAbs x.natAbs : Nat)).natAbs ≤ x.natAbs := by
  have hg : (Nat.gcd wh.natAbs x.natAbs : Nat) ≠ 0 := by
    have := Nat.gcd_pos_of_pos_left x.natAbs (Int.natAbs_pos.mpr hw)
    omega
  have d1 : ((Nat.gcd wh.natAbs x.natAbs : Nat) : Int) ∣ wh := Int.ofNat_dvd_left.mpr (Nat.gcd_dvd_left _ _)
  have d2 : ((Nat.gcd wh.natAbs x.natAbs : Nat) : Int) ∣ x := Int.ofNat_dvd_left.mpr (Nat.gcd_dvd_right _ _)
  have hb := fdiv_le x _ (by omega) d2
  generalize Nat.gcd wh.natAbs x.natAbs = g at hg d1 d2 hb
  obtain ⟨a, e1⟩ := d1
  obtain ⟨b, e2⟩ := d2
  have hg' : (g : Int) ≠ 0 := by omega
  have f : x.fdiv (g : Int) = b := by rw [e2, Int.mul_fdiv_cancel_left b hg']
  rw [f] at hb ⊢
  refine ⟨Int.mul_ne_zero hw fun z => hx (by rw [e2, z, Int.mul_zero]), ⟨b, rfl⟩, ⟨a, ?_⟩, hb⟩
  rw [e1, e2]; grind
theorem whole_fold {B : Nat} : ∀ (T : List (List Int)) (wh : Int) (n : Nat), (∀ t, t ∈ T → fn t (leadOf t) ≠ 0) → (∀ t, t ∈ T → Bd B t) → wh ≠ 0 → wh.natAbs ≤ 2 ^ (B * n) →
    let W := T.foldl (fun wh t => wh * (fn t (leadOf t)).fdiv (Nat.gcd wh.natAbs (fn t (leadOf t)).natAbs : Nat)) wh
    W ≠ 0 ∧ wh ∣ W ∧ (∀ t, t ∈ T → fn t (leadOf t) ∣ W) ∧ W.natAbs ≤ 2 ^ (B * (n + T.length))
  | [], wh, n, _, _, h0, hb => ⟨h0, ⟨1, by show wh = wh * 1; simp⟩, fun t ht => by simp at ht, hb⟩
  | t :: T, wh, n, hT, hB, h0, hb => by
    obtain ⟨s1, s2, s3, s4⟩ := whole_step (hT t (by simp)) h0
    have hb2 : (wh * (fn t (leadOf t)).fdiv (Nat.gcd wh.natAbs (fn t (leadOf t)).natAbs : Nat)).natAbs ≤ 2 ^ (B * (n + 1)) := by
      rw [Int.natAbs_mul, Nat.mul_add, Nat.mul_one, Nat.pow_add]
      exact Nat.mul_le_mul hb (Nat.le_of_lt (Nat.lt_of_le_of_lt s4 (hB t (by simp) _)))
    obtain ⟨r1, r2, r3, r4⟩ := whole_fold T _ (n + 1) (fun t h => hT t (List.mem_cons_of_mem _ h)) (fun t h => hB t (List.mem_cons_of_mem _ h)) s1 hb2
    refine ⟨r1, Int.dvd_trans s2 r2, fun x hx => ?_, ?_⟩
    · rcases List.mem_cons.mp hx with e | e
      · rw [e]; exact Int.dvd_trans s3 r2
      · exact r3 x e
    · rw [List.length_cons, show n + (T.length + 1) = n + 1 + T.length by omega]
      exact r4
theorem whole_ok (L : Led T ls w) {B : Nat} (hB : ∀ t, t ∈ T → Bd B t) : wholeOf T ≠ 0 ∧ (∀ t, t ∈ T → fn t (leadOf t) ∣ wholeOf T) ∧ (wholeOf T).natAbs ≤ 2 ^ (B * T.length) := by
  obtain ⟨a, _, b, c⟩ := whole_fold (B := B) T 1 0 (fun t h => L.lead_ne h) hB (by decide) (by simp)
  rw [Nat.zero_add] at c
  exact ⟨a, b, c⟩

/-! ### a row for a free place -/
theorem fold_set_len (val : List Int → Int) : ∀ (T : List (List Int)) (init : List Int), (T.foldl (fun one t => one.set (leadOf t) (val t)) init).length = init.length
  | [], _ => rfl
  | t :: T, init => by
    show (T.foldl _ (init.set (leadOf t) (val t))).length = _
    rw [fold_set_len val T, List.length_set]
theorem fold_set_off (val : List Int → Int) {i : Nat} : ∀ (T : List (List Int)) (init : List Int), (∀ t, t ∈ T → leadOf t < init.length) → i ∉ T.map leadOf → fn (T.foldl (fun one t => one.set (leadOf t) (val t)) init) i = fn init i
  | [], _, _, _ => rfl
  | t :: T, init, hl, hi => by
    show fn (T.foldl _ (init.set (leadOf t) (val t))) i = _
    rw [List.map_cons, List.mem_cons, not_or] at hi
    rw [fold_set_off val T _ (fun x hx => by rw [List.length_set]; exact hl x (List.mem_cons_of_mem _ hx)) hi.2, fn_set (hl t (by simp)), if_neg hi.1]
theorem fold_set_at (val : List Int → Int) : ∀ (T : List (List Int)) (init : List Int), (∀ t, t ∈ T → leadOf t < init.length) → (T.map leadOf).Nodup → ∀ t, t ∈ T → fn (T.foldl (fun one t => one.set (leadOf t) (val t)) init) (leadOf t) = val t
  | [], _, _, _, t, h => by simp at h
  | x :: T, init, hl, hn, t, h => by
    rw [List.map_cons] at hn
    obtain ⟨n1, n2⟩ := List.nodup_cons.mp hn
    show fn (T.foldl _ (init.set (leadOf x) (val x))) _ = _
    have hl' : ∀ y, y ∈ T → leadOf y < (init.set (leadOf x) (val x)).length := fun y hy => by rw [List.length_set]; exact hl y (List.mem_cons_of_mem _ hy)
    rcases List.mem_cons.mp h with e | e
    · rw [e, fold_set_off val T _ hl' n1, fn_set (hl x (by simp)), if_pos rfl]
    · exact fold_set_at val T _ hl' n2 t e
theorem foldl_congr {α β : Type} {f g : β → α → β} : ∀ {l : List α} {b : β}, (∀ b x, x ∈ l → f b x = g b x) → l.foldl f b = l.foldl g b
  | [], _, _ => rfl
  | x :: l, b, h => by
    show l.foldl f (f b x) = l.foldl g (g b x)
    rw [h b x (by simp)]
    exact foldl_congr fun b y hy => h b y (List.mem_cons_of_mem _ hy)
theorem oneL_eq {W : Int} (hne : ∀ t, t ∈ T → fn t (leadOf t) ≠ 0) (hd : ∀ t, t ∈ T → fn t (leadOf t) ∣ W) (w f : Nat) : oneL T W w f = oneP T W w f := by
  refine foldl_congr fun one t ht => ?_
  obtain ⟨q, hq⟩ := hd t ht
  have e1 : W.fdiv (fn t (leadOf t)) = q := by rw [hq, Int.mul_fdiv_cancel_left q (hne t ht)]
  have e2 : (W * fn t f).fdiv (fn t (leadOf t)) = q * fn t f := by rw [hq, Int.mul_assoc, Int.mul_fdiv_cancel_left _ (hne t ht)]
  rw [e1, e2]
  congr 1
  grind
theorem frees_P (L : Led T ls w) : Frees T ls w (wholeOf T) (fun j => (wholeOf T).fdiv (fn (T.getD j []) (ls.getD j 0))) (freeOf T w) (foundP T w) := by
  obtain ⟨B, hB⟩ : ∃ B, ∀ t, t ∈ T → Bd B t := by
    have one : ∀ r : List Int, ∃ B, Bd B r := fun r => by
      induction r with
      | nil => exact ⟨1, fun i => by rw [fn_out (by simp)]; decide⟩
      | cons x r ih =>
        obtain ⟨B, h⟩ := ih
        refine ⟨B + x.natAbs, fun i => ?_⟩
        cases i with
        | zero =>
          rw [fn_cons_zero]
          exact Nat.lt_of_lt_of_le Nat.lt_two_pow_self (Nat.pow_le_pow_right (by decide) (by omega))
        | succ i =>
          rw [fn_cons_succ]
          exact Nat.lt_of_lt_of_le (h i) (Nat.pow_le_pow_right (by decide) (by omega))
    clear L
    induction T with
    | nil => exact ⟨0, fun t h => by simp at h⟩
    | cons t T ih =>
      obtain ⟨B, h⟩ := ih
      obtain ⟨C, h2⟩ := one t
      refine ⟨B + C, fun x hx => ?_⟩
      rcases List.mem_cons.mp hx with e | e
      · rw [e]; exact h2.mono (by omega)
      · exact (h x e).mono (by omega)
  obtain ⟨w1, w2, _⟩ := whole_ok L hB
  have hfree : ∀ p, p ∈ freeOf T w ↔ p < w ∧ p ∉ ls := fun p => by
    unfold freeOf
    rw [L.leads]; simp
  have hlt : ∀ f, ∀ t, t ∈ T → leadOf t < ((List.replicate w (0 : Int)).set f (wholeOf T)).length := fun f t h => by
    simp only [List.length_set, List.length_replicate]; exact L.lead_lt h
  have hnd : (T.map leadOf).Nodup := by rw [L.leads]; exact L.up.imp fun h => Nat.ne_of_lt h
  have at' : ∀ (k f : Nat) (r : List Int), (foundP T w)[k]? = some r → (freeOf T w)[k]? = some f → r = oneP T (wholeOf T) w f := fun k f r h1 h2 => by
    unfold foundP at h1
    rw [List.getElem?_map, h2] at h1
    exact (Option.some.inj h1).symm
  refine ⟨w1, fun j hj => ?_, hfree, List.Pairwise.filter _ List.pairwise_lt_range, by simp [foundP], fun r hr => ?_, fun k f r h1 h2 => ?_, fun k f r h1 h2 p hp hne => ?_, fun k f r h1 h2 j l t h3 h4 => ?_⟩
  · have h1 : T[j]? = some T[j] := List.getElem?_eq_getElem hj
    have h2 := L.lead_at h1
    rw [getD_of h1, getD_of h2]
    obtain ⟨q, hq⟩ := w2 _ (List.mem_of_getElem? h1)
    rw [hq, Int.mul_fdiv_cancel_left q (L.lead_ne (List.mem_of_getElem? h1)), Int.mul_comm]
  · obtain ⟨f, _, rfl⟩ := List.mem_map.mp hr
    unfold oneP
    rw [fold_set_len (fun t => -((wholeOf T).fdiv (fn t (leadOf t))) * fn t f)]
    simp
  · have hf := (hfree f).mp (List.mem_of_getElem? h2)
    rw [at' k f r h1 h2]
    unfold oneP
    rw [fold_set_off (fun t => -((wholeOf T).fdiv (fn t (leadOf t))) * fn t f) T _ (hlt f) (by rw [L.leads]; exact hf.2), fn_set (by simpa using hf.1), if_pos rfl]
  · have hf := (hfree f).mp (List.mem_of_getElem? h2)
    rw [at' k f r h1 h2]
    unfold oneP
    rw [fold_set_off (fun t => -((wholeOf T).fdiv (fn t (leadOf t))) * fn t f) T _ (hlt f) (by rw [L.leads]; exact hp), fn_set (by simpa using hf.1), if_neg hne, fn_replicate]
  · have e := L.lead_at h3
    rw [h4] at e
    have el := Option.some.inj e
    rw [at' k f r h1 h2, getD_of h3, getD_of h4, el]
    unfold oneP
    rw [fold_set_at (fun t => -((wholeOf T).fdiv (fn t (leadOf t))) * fn t f) T _ (hlt f) hnd t (List.mem_of_getElem? h3)]
end

/-! ### a kernel, whole -/
structure KerOk (rows : List (List Int)) (w : Nat) : Prop where
  ech : Ech (kerP rows w) w
  sp : ∀ v, Sp (kerP rows w) v ↔ KerR rows w v
  len : (kerP rows w).length + (echelon lessP rows w).length = w
  eq : kerL rows w = kerP rows w
  told : echelon lessL rows w = echelon lessP rows w
theorem ker_ok {rows : List (List Int)} {w : Nat} (hr : ∀ r, r ∈ rows → r.length = w) : KerOk rows w := by
  have et := echelon_eq lessL_ok lessP_ok hr hr fun _ => Iff.rfl
  obtain ⟨⟨ls, L, N⟩, h2⟩ := echelon_ok lessP_ok hr
  have F := frees_P L
  have hf : ∀ r, r ∈ foundP (echelon lessP rows w) w → r.length = w := F.len
  obtain ⟨e1, e2⟩ := echelon_ok lessP_ok hf
  have sp : ∀ v, Sp (kerP rows w) v ↔ KerR rows w v := fun v => (e2 v).trans ((F.span L v).trans (kerR_congr h2 v))
  obtain ⟨c1, c2⟩ := F.count L
  refine ⟨e1, sp, ?_, ?_, et⟩
  · obtain ⟨ms, M, _⟩ := e1
    have e3 := M.count
    have e4 : dim (Sp (kerP rows w)) w = dim (KerR (echelon lessP rows w) w) w := cnt_congr fun p _ =>
      ⟨fun ⟨v, x, y⟩ => ⟨v, (kerR_congr h2 v).mpr ((sp v).mp x), y⟩, fun ⟨v, x, y⟩ => ⟨v, (sp v).mpr ((kerR_congr h2 v).mp x), y⟩⟩
    have e5 : (kerP rows w).length = (echelon lessP (foundP (echelon lessP rows w) w) w).length := rfl
    rw [e5, ← e3]
    have e6 : dim (Sp (echelon lessP (foundP (echelon lessP rows w) w) w)) w = dim (Sp (kerP rows w)) w := rfl
    rw [e6, e4, c1]
    omega
  · unfold kerL kerP
    rw [et]
    have : foundL (echelon lessP rows w) w = foundP (echelon lessP rows w) w := List.map_congr_left fun f _ => by
      have hd : ∀ t, t ∈ echelon lessP rows w → fn t (leadOf t) ∣ wholeOf (echelon lessP rows w) := fun t ht => by
        obtain ⟨j, hj⟩ := List.mem_iff_getElem?.mp ht
        have := F.mul j (List.getElem?_eq_some_iff.mp hj).1
        rw [getD_of hj, getD_of (L.lead_at hj)] at this
        exact ⟨_, by rw [Int.mul_comm]; exact this⟩
      exact oneL_eq (fun t ht => L.lead_ne ht) hd w f
    rw [this]
    exact echelon_eq lessL_ok lessP_ok hf hf fun _ => Iff.rfl

/-- the kernel's numbers, in a program with few rows | few columns -/
structure KerFits (rows : List (List Int)) (w s : Nat) : Prop where
  rowsP : Fits lessP rows w 6000
  rowsL : Fits lessL rows w 6000
  toldB : ∀ t, t ∈ echelon lessP rows w → Bd 2000 t
  toldN : (echelon lessP rows w).length ≤ 5
  toldL : ∀ t, t ∈ echelon lessP rows w → t.length = w ∧ leadOf t < w ∧ fn t (leadOf t) ≠ 0
  dvd : ∀ t, t ∈ echelon lessP rows w → fn t (leadOf t) ∣ wholeOf (echelon lessP rows w)
  fitP : Fits lessP (foundP (echelon lessP rows w) w) w 6000
  fitL : Fits lessL (foundP (echelon lessP rows w) w) w 6000
  foundE : foundL (echelon lessP rows w) w = foundP (echelon lessP rows w) w
  foundN : ∀ r, r ∈ foundP (echelon lessP rows w) w → r.length = w
  kerB : ∀ r, r ∈ kerP rows w → Bd s r
theorem sz_mono_b : ∀ c {b b' : Nat}, b ≤ b' → sz c b ≤ sz c b'
  | 0, _, _, _ => Nat.le_refl _
  | 1, _, _, _ => Nat.le_refl _
  | c + 2, b, b', h => by
    have := sz_mono_b (c + 1) (b := 2 * b + 1) (b' := 2 * b' + 1) (by omega)
    show sz (c + 1) (2 * b + 1) + b + 4 ≤ sz (c + 1) (2 * b' + 1) + b' + 4
    omega
theorem sz_step : ∀ c b : Nat, sz c b ≤ sz (c + 1) b
  | 0, _ => Nat.le_refl _
  | c + 1, b => by
    have h1 := sz_step c (2 * b + 1)
    have h2 := sz_mono_b (c + 1) (b := b) (b' := 2 * b + 1) (by omega)
    show sz (c + 1) b ≤ sz (c + 1) (2 * b + 1) + b + 4
    omega
theorem sz_mono_c {c c' : Nat} (b : Nat) (h : c ≤ c') : sz c b ≤ sz c' b := by
  induction c' with
  | zero => have : c = 0 := by omega
            subst this; exact Nat.le_refl _
  | succ c' ih =>
    by_cases e : c = c' + 1
    · subst e; exact Nat.le_refl _
    · exact Nat.le_trans (ih (by omega)) (sz_step c' b)
theorem ker_fits {rows : List (List Int)} {w b k : Nat} (hr : ∀ r, r ∈ rows → r.length = w) (hb : ∀ r, r ∈ rows → Bd b r) (hb56 : b ≤ 56) (hw : w ≤ 10) (hk : rows.length ≤ k ∨ w ≤ k) (hk4 : k ≤ 4 ∨ (k = 5 ∧ w ≤ 5)) : KerFits rows w (sz (k + 1) b) := by
  have hk5 : k ≤ 5 := by omega
  obtain ⟨⟨ls, L, N⟩, h2⟩ := echelon_ok lessP_ok hr
  have F := frees_P L
  obtain ⟨_, n1, n2⟩ := run_len growsP hr w (Nat.le_refl _)
  have tl : (echelon lessP rows w).length = (run lessP rows w).2.length := by unfold echelon; rw [List.length_map]
  have tk : (echelon lessP rows w).length ≤ k := by omega
  have tB : ∀ t, t ∈ echelon lessP rows w → Bd ((b + 1) * 2 ^ (echelon lessP rows w).length - 1) t := fun t ht => by
    obtain ⟨r, hr', rfl⟩ := List.mem_map.mp ht
    rw [tl]
    exact prim_bd (double growsP hr hb w (Nat.le_refl _) r (.inr hr'))
  have p5 : 2 ^ (echelon lessP rows w).length ≤ 2 ^ 5 := Nat.pow_le_pow_right (by decide) (by omega)
  have m5 : (b + 1) * 2 ^ (echelon lessP rows w).length ≤ 57 * 32 := Nat.mul_le_mul (by omega) p5
  have fit : ∀ less, Grows less → Fits less rows w 6000 := fun less G => fits_double G (b := b) (k := 5) hr hb (by omega) (by have : (b + 1) * 2 ^ 5 ≤ 57 * 2 ^ 5 := Nat.mul_le_mul_right _ (by omega); omega)
  have hd : ∀ t, t ∈ echelon lessP rows w → fn t (leadOf t) ∣ wholeOf (echelon lessP rows w) := fun t ht => by
    obtain ⟨j, hj⟩ := List.mem_iff_getElem?.mp ht
    have := F.mul j (List.getElem?_eq_some_iff.mp hj).1
    rw [getD_of hj, getD_of (L.lead_at hj)] at this
    exact ⟨_, by rw [Int.mul_comm]; exact this⟩
  obtain ⟨D, d1, d2⟩ := frees_dia F
  -- the rows of the free places
  have fB : ∀ q, q ∈ (foundP (echelon lessP rows w) w).zip (freeOf (echelon lessP rows w) w) → Bd 6000 q.1 := fun q hq i => by
    -- a free place: at most four leads
    obtain ⟨kq, hkq⟩ := List.mem_iff_getElem?.mp hq
    obtain ⟨a1, a2⟩ := List.getElem?_zip_eq_some.mp hkq
    have hfm := (F.mem _).mp (List.mem_of_getElem? a2)
    have t4 : (echelon lessP rows w).length ≤ 4 := by
      have := F.count L
      have : 0 < (freeOf (echelon lessP rows w) w).length := List.length_pos_of_mem (List.mem_of_getElem? a2)
      omega
    have p4 : 2 ^ (echelon lessP rows w).length ≤ 2 ^ 4 := Nat.pow_le_pow_right (by decide) t4
    have m4 : (b + 1) * 2 ^ (echelon lessP rows w).length ≤ 57 * 16 := Nat.mul_le_mul (by omega) p4
    have tB4 : ∀ t, t ∈ echelon lessP rows w → Bd 912 t := fun t ht => (tB t ht).mono (by omega)
    obtain ⟨w1, w2, w3⟩ := whole_ok L tB4
    have w4 : (wholeOf (echelon lessP rows w)).natAbs ≤ 2 ^ 3648 := Nat.le_trans w3 (Nat.pow_le_pow_right (by decide) (by omega))
    have w5 : (2 : Nat) ^ 3648 < 2 ^ 6000 := Nat.pow_lt_pow_right (by decide) (by decide)
    by_cases hi : i ∈ ls
    · obtain ⟨j, hj⟩ := List.mem_iff_getElem?.mp hi
      have hjl := (List.getElem?_eq_some_iff.mp hj).1
      have ht : (echelon lessP rows w)[j]? = some ((echelon lessP rows w)[j]'(by rw [← L.same]; exact hjl)) := List.getElem?_eq_getElem _
      generalize ((echelon lessP rows w)[j]'(by rw [← L.same]; exact hjl)) = t at ht
      have htm := List.mem_of_getElem? ht
      rw [F.lead kq q.2 q.1 a1 a2 j i t ht hj, getD_of ht, getD_of hj, Int.natAbs_mul, Int.natAbs_neg]
      have el := L.lead_at ht
      rw [hj] at el
      have el := Option.some.inj el
      have x1 := fdiv_le (wholeOf (echelon lessP rows w)) _ (L.lead_ne htm) (w2 t htm)
      rw [el]
      have x2 := tB4 t htm q.2
      have x3 : ((wholeOf (echelon lessP rows w)).fdiv (fn t (leadOf t))).natAbs < 2 ^ 3649 := Nat.lt_of_le_of_lt (Nat.le_trans x1 w4) (Nat.pow_lt_pow_right (by decide) (by decide))
      exact Nat.lt_of_lt_of_le (mul_lt_pow x3 x2) (Nat.pow_le_pow_right (by decide) (by decide))
    · by_cases hif : i = q.2
      · rw [hif, F.own kq q.2 q.1 a1 a2]
        exact Nat.lt_of_le_of_lt w4 w5
      · rw [F.other kq q.2 q.1 a1 a2 i hi hif]
        exact Nat.two_pow_pos _
  have hcount := F.count L
  have hQ : ∀ v, Sp (((foundP (echelon lessP rows w) w).zip (freeOf (echelon lessP rows w) w)).map (·.1)) v ↔ KerR rows w v := fun v => by
    rw [d1]
    exact (F.span L v).trans (kerR_congr h2 v)
  have szk : sz (w - ((foundP (echelon lessP rows w) w).zip (freeOf (echelon lessP rows w) w)).length + 1) b ≤ sz (k + 1) b := sz_mono_c b (by rw [d2]; omega)
  have sz6 : sz (k + 1) b ≤ 6000 := by
    refine Nat.le_trans (Nat.le_trans (sz_mono_c b (show k + 1 ≤ 6 by omega)) (sz_mono_b 6 hb56)) ?_
    decide
  have kf := fun less (G : Grows less) => kernel_fits (less := less) G (A := rows) (b := b) (B := 6000) (C := 6000) D (by omega) hb hQ fB (Nat.le_refl _) (Nat.le_trans szk sz6)
  simp only [d1] at kf
  refine ⟨fit lessP growsP, fit lessL growsL, fun t ht => (tB t ht).mono (by omega), by omega, fun t ht => ⟨L.len t ht, L.lead_lt ht, L.lead_ne ht⟩, hd, (kf lessP growsP).1, (kf lessL growsL).1, List.map_congr_left fun f _ => oneL_eq (fun t ht => L.lead_ne ht) hd w f, F.len, fun r hr' => ((kf lessP growsP).2 r hr').mono szk⟩
end Lin

/-! The plain law: what is asked of ranks and killers; of sums of powers. -/
namespace Lin
open Classical

/-! ### level tables of a form -/
def levels (es : List Int) : List Int := (List.range es.length).map fun i => fac i * fac (es.length - 1 - i) * fn es i
def lvl (es : List Int) (d : Nat) : List (List Int) := lev (fn (levels es)) (es.length - 1) d
def rankP (es : List Int) (d : Nat) : Nat := (echelon lessP (lvl es d) (d + 1)).length
def ranks (es : List Int) : List Nat := (List.range es.length).map (rankP es)
def kills (es : List Int) (d : Nat) : List (List Int) := kerP (lvl es d) (d + 1)
def ident (w : Nat) : List (List Int) := (List.range w).map fun a => (List.range w).map fun p => if a = p then 1 else 0
def killL (es : List Int) (d : Nat) : List (List Int) := if es.length ≤ d then ident (d + 1) else kerL (lvl es d) (d + 1)
theorem lvl_len {es : List Int} {d : Nat} : ∀ r, r ∈ lvl es d → r.length = d + 1 := lev_len
theorem levels_fn (es : List Int) (i : Nat) : fn (levels es) i = fac i * fac (es.length - 1 - i) * fn es i := by
  unfold levels
  rw [fn_range]
  by_cases h : i < es.length
  · rw [if_pos h]
  · rw [if_neg h, fn_out (by omega : es.length ≤ i)]; simp
theorem fac_mul_le : ∀ n i, i ≤ n → fac i * fac (n - i) ≤ fac n
  | 0, i, h => by
    have : i = 0 := by omega
    subst this; decide
  | n + 1, i, h => by
    by_cases e : i = n + 1
    · subst e
      rw [Nat.sub_self]
      show fac (n + 1) * 1 ≤ _
      omega
    · have ih := fac_mul_le n i (by omega)
      rw [show n + 1 - i = (n - i) + 1 by omega]
      show fac i * (((n - i : Nat) + 1 : Int) * fac (n - i)) ≤ (n + 1 : Int) * fac n
      have e1 : fac i * (((n - i : Nat) + 1 : Int) * fac (n - i)) = ((n - i : Nat) + 1 : Int) * (fac i * fac (n - i)) := by grind
      rw [e1]
      exact Int.mul_le_mul (by omega) ih (Int.le_of_lt (Int.mul_pos (fac_pos _) (fac_pos _))) (by omega)
theorem levels_bd {es : List Int} (h9 : es.length ≤ 9) {M : Nat} (he : ∀ i, (fn es i).natAbs ≤ M) {b : Nat} (hb : 40320 * M < 2 ^ b) (i : Nat) : (fn (levels es) i).natAbs < 2 ^ b := by
  rw [levels_fn]
  by_cases hi : i < es.length
  · have h1 := fac_mul_le (es.length - 1) i (by omega)
    have h2 : fac (es.length - 1) ≤ 40320 := by
      have : ∀ k, k < 9 → fac k ≤ 40320 := by decide
      exact this _ (by omega)
    have h3 : (fac i * fac (es.length - 1 - i)).natAbs ≤ 40320 := by
      have := Int.mul_pos (fac_pos i) (fac_pos (es.length - 1 - i))
      omega
    rw [Int.natAbs_mul]
    exact Nat.lt_of_le_of_lt (Nat.mul_le_mul h3 (he i)) hb
  · rw [fn_out (by omega : es.length ≤ i), Int.mul_zero]
    exact Nat.two_pow_pos _
theorem lvl_bd {es : List Int} {d b : Nat} (h : ∀ i, (fn (levels es) i).natAbs < 2 ^ b) : ∀ r, r ∈ lvl es d → Bd b r := fun r hr i => by
  obtain ⟨l, _, rfl⟩ := List.mem_map.mp hr
  rw [fn_range]
  split
  · exact h _
  · exact Nat.two_pow_pos _
theorem lvl_count (es : List Int) (d : Nat) : (lvl es d).length = es.length - 1 + 1 - d := by
  unfold lvl lev
  rw [List.length_map, List.length_range]
/-- THE SIZES for a form of degree at most 8 -/
theorem lvl_fits {es : List Int} (h1 : 1 ≤ es.length) (h9 : es.length ≤ 9) (he : ∀ i, (fn es i).natAbs ≤ 1000000000000) {d : Nat} (hd : d ≤ es.length) : KerFits (lvl es d) (d + 1) (sz 6 56) := by
  have hb := lvl_bd (d := d) (levels_bd h9 he (b := 56) (by decide))
  by_cases c : d + 1 ≤ 5
  · exact ker_fits lvl_len hb (Nat.le_refl _) (by omega) (k := 5) (.inr c) (.inr ⟨rfl, c⟩)
  · have h := ker_fits lvl_len hb (Nat.le_refl _) (by omega) (k := 4) (.inl (by rw [lvl_count]; omega)) (.inl (Nat.le_refl _))
    exact ⟨h.rowsP, h.rowsL, h.toldB, h.toldN, h.toldL, h.dvd, h.fitP, h.fitL, h.foundE, h.foundN, fun r hr => (h.kerB r hr).mono (sz_step 5 56)⟩

/-! ### all rows -/
theorem ident_ok (w : Nat) : Ech (ident w) w ∧ ∀ v, Sp (ident w) v ↔ ∀ i, w ≤ i → v i = 0 := by
  have at' : ∀ (j : Nat) (r : List Int), (ident w)[j]? = some r → j < w ∧ ∀ i, fn r i = if i < w then (if j = i then 1 else 0) else 0 := fun j r h => by
    unfold ident at h
    rw [List.getElem?_map] at h
    by_cases hj : j < w
    · rw [List.getElem?_range hj] at h
      refine ⟨hj, fun i => ?_⟩
      rw [← Option.some.inj h]
      exact fn_range w _ i
    · rw [List.getElem?_eq_none (by simpa using hj)] at h; cases h
  have len : ∀ r, r ∈ ident w → r.length = w := fun r hr => by
    obtain ⟨a, _, rfl⟩ := List.mem_map.mp hr
    simp
  have rng : ∀ (j l : Nat), (List.range w)[j]? = some l → l = j ∧ j < w := fun j l h => by
    obtain ⟨h1, h2⟩ := List.getElem?_eq_some_iff.mp h
    rw [List.length_range] at h1
    rw [List.getElem_range] at h2
    exact ⟨h2.symm, h1⟩
  refine ⟨⟨List.range w, ⟨by simp [ident], len, List.pairwise_lt_range, fun l hl => List.mem_range.mp hl, fun j l r h1 h2 => ?_, fun j l r h1 h2 i hi => ?_, fun j k l r h1 h2 hne => ?_⟩, fun r hr => ?_⟩, fun v => ⟨fun hv => (Sp.sub len).supp v hv, fun hv => ?_⟩⟩
  · obtain ⟨a, b⟩ := at' j r h1
    obtain ⟨c, d⟩ := rng j l h2
    rw [b, c, if_pos a, if_pos rfl]; decide
  · obtain ⟨a, b⟩ := at' j r h1
    obtain ⟨c, d⟩ := rng j l h2
    rw [b, if_pos (by omega), if_neg (by omega)]
  · obtain ⟨a, b⟩ := at' j r h1
    obtain ⟨c, d⟩ := rng k l h2
    rw [b, if_pos (by omega), if_neg (by omega)]
  · obtain ⟨j, hj⟩ := List.mem_iff_getElem?.mp hr
    obtain ⟨a, b⟩ := at' j r hj
    refine ⟨?_, fun l hl _ => ?_⟩
    · have h1 : shN r ∣ 1 := by
        have hm : fn r j ∈ r := by
          rw [fn_in (by rw [len r hr]; exact a)]
          exact List.getElem_mem _
        have := shN_dvd hm
        rw [b, if_pos a, if_pos rfl] at this
        exact this
      exact Nat.dvd_one.mp h1
    · rw [b] at hl ⊢
      split at hl
      · rename_i c
        rw [if_pos c]
        split at hl
        · rename_i c2; rw [if_pos c2]; decide
        · exact absurd rfl hl
      · exact absurd rfl hl
  · have hs : Sp (ident w) fun i => sm (fun j => v j * fn ((ident w).getD j []) i) w := Sat.sum (f := fun j i => v j * fn ((ident w).getD j []) i) fun j hj => by
      have : (ident w)[j]? = some ((ident w)[j]'(by simpa [ident] using hj)) := List.getElem?_eq_getElem _
      rw [getD_of this]
      exact Sat.mul _ (Sp.of (List.mem_of_getElem? this))
    have e : v = fun i => sm (fun j => v j * fn ((ident w).getD j []) i) w := by
      funext i
      have row : ∀ j, j < w → ∀ i, fn ((ident w).getD j []) i = if i < w then (if j = i then 1 else 0) else 0 := fun j hj => by
        have : (ident w)[j]? = some ((ident w)[j]'(by simpa [ident] using hj)) := List.getElem?_eq_getElem _
        rw [getD_of this]
        exact (at' j _ this).2
      by_cases hi : i < w
      · rw [sm_one (p := i) hi fun j hj hne => by rw [row j hj, if_pos hi, if_neg hne]; simp, row i hi, if_pos hi, if_pos rfl]; simp
      · rw [hv i (by omega)]
        exact (sm_zero fun j hj => by rw [row j hj, if_neg hi]; simp).symm
    rw [e]
    exact hs
theorem ident_len (w : Nat) : (ident w).length = w := by simp [ident]

/-! ### the law of the ranks -/
section
variable {es : List Int}
theorem kills_killL {d : Nat} (h1 : 1 ≤ es.length) (hd : d ≤ es.length) : kills es d = killL es d := by
  have K := ker_ok (lvl_len (es := es) (d := d))
  unfold killL
  by_cases c : es.length ≤ d
  · rw [if_pos c]
    obtain ⟨i1, i2⟩ := ident_ok (d + 1)
    have e0 : lvl es d = [] := List.length_eq_zero_iff.mp (by rw [lvl_count]; omega)
    refine ech_unique K.ech i1 fun v => ⟨fun h => (i2 v).mpr ((K.sp v).mp h).1, fun h => (K.sp v).mpr ⟨(i2 v).mp h, fun r hr => ?_⟩⟩
    rw [e0] at hr
    simp at hr
  · rw [if_neg c]
    exact K.eq.symm
theorem rank_eq (es : List Int) (d : Nat) : (echelon lessL (lvl es d) (d + 1)).length = rankP es d := by
  unfold rankP
  rw [(ker_ok (lvl_len (es := es) (d := d))).told]
theorem rankP_rk (es : List Int) (d : Nat) : rankP es d = rk lessP (fn (levels es)) (es.length - 1) d := rfl
theorem ranks_pal (es : List Int) : (ranks es).reverse = ranks es := by
  refine List.ext_getElem (by simp) fun i h1 h2 => ?_
  rw [List.getElem_reverse]
  simp only [ranks, List.getElem_map, List.getElem_range, List.length_map, List.length_range]
  simp only [ranks, List.length_map, List.length_range] at h2
  rw [rankP_rk, rankP_rk]
  have := rk_pal lessP_ok (fn (levels es)) (n := es.length - 1) (d := i) (by omega)
  exact this
theorem kills_len (es : List Int) (d : Nat) : (kills es d).length + rankP es d = d + 1 := (ker_ok (lvl_len (es := es) (d := d))).len
theorem ranks_zero (h : shN es = 0) : ranks es = List.replicate es.length 0 := by
  refine List.ext_getElem (by simp [ranks]) fun i h1 h2 => ?_
  simp only [ranks, List.getElem_map, List.getElem_range, List.getElem_replicate]
  simp only [ranks, List.length_map, List.length_range] at h1
  rw [rankP_rk]
  exact rk_zero lessP_ok (fun i _ => by rw [levels_fn, zero_of_shN h]; simp) (by omega)
/-- a form other than zero: the least degree of a killer, and the shape of the ranks -/
theorem least_ex (h1 : 1 ≤ es.length) (h : shN es ≠ 0) : ∃ r, r ≤ es.length ∧ (∀ d, d < r → killL es d = []) ∧ killL es r ≠ [] ∧ 1 ≤ r ∧ 2 * r ≤ es.length + 1 ∧ ∀ d, d < es.length → rankP es d = min (d + 1) (min r (es.length - d)) := by
  have hend : killL es es.length ≠ [] := fun z => by
    have := congrArg List.length z
    unfold killL at this
    rw [if_pos (Nat.le_refl _), ident_len] at this
    simp at this
  obtain ⟨r, r1, r2, r3⟩ := least_one (P := fun d => killL es d ≠ []) hend
  have r3' : ∀ d, d < r → killL es d = [] := fun d hd => Classical.byContradiction fun z => r3 d hd z
  have kl : ∀ d, d < es.length → (killL es d).length = kd (fn (levels es)) (es.length - 1) d := fun d hd => by
    have e1 := kills_len es d
    have e2 := rk_kd lessP_ok (fn (levels es)) (es.length - 1) d
    rw [rankP_rk] at e1
    rw [← kills_killL h1 (by omega)]
    omega
  have hne : ∃ i, i ≤ es.length - 1 ∧ fn (levels es) i ≠ 0 := by
    refine Classical.byContradiction fun z => h (shN_zero.mpr fun x hx => ?_)
    obtain ⟨i, hi, rfl⟩ := List.mem_iff_getElem.mp hx
    have h0 : fn (levels es) i = 0 := Classical.byContradiction fun q => z ⟨i, by omega, q⟩
    rw [levels_fn, fn_in hi] at h0
    exact (Int.mul_eq_zero.mp h0).resolve_left (Int.ne_of_gt (Int.mul_pos (fac_pos _) (fac_pos _)))
  obtain ⟨a, b, c⟩ := rk_shape lessP_ok (a := fn (levels es)) (n := es.length - 1) (r := r) hne (fun d hd hdn => by rw [← kl d (by omega), r3' d hd]; rfl) (fun hr => by rw [← kl r (by omega)]; exact List.length_pos_iff.mpr r2) (by omega)
  refine ⟨r, r1, r3', r2, a, by omega, fun d hd => ?_⟩
  rw [rankP_rk, c d (by omega), show es.length - 1 + 1 - d = es.length - d by omega]
end

/-! ### products of forms -/
def conv (f g : List Int) : List Int := (List.range (f.length + g.length - 1)).map fun k => sm (fun a => if a ≤ k then fn f a * fn g (k - a) else 0) f.length
/-- behind i entries of f, and j entries of g for the next one -/
def cpart (f g : List Int) (i j : Nat) : List Int := (List.range (f.length + g.length - 1)).map fun k => sm (fun a => if a ≤ k then fn f a * fn g (k - a) else 0) i + (if i ≤ k ∧ k - i < j then fn f i * fn g (k - i) else 0)
theorem cpart_len (f g : List Int) (i j : Nat) : (cpart f g i j).length = f.length + g.length - 1 := by simp [cpart]
theorem cpart_zero (f g : List Int) : cpart f g 0 0 = List.replicate (f.length + g.length - 1) 0 := by
  refine List.ext_getElem (by simp [cpart]) fun k h1 h2 => ?_
  simp only [cpart, List.getElem_map, List.getElem_range, List.getElem_replicate]
  rw [if_neg (by omega)]; rfl
theorem cpart_fn (f g : List Int) (i j k : Nat) : fn (cpart f g i j) k = if k < f.length + g.length - 1 then sm (fun a => if a ≤ k then fn f a * fn g (k - a) else 0) i + (if i ≤ k ∧ k - i < j then fn f i * fn g (k - i) else 0) else 0 := fn_range _ _ _
theorem cpart_step {f g : List Int} {i j : Nat} (hi : i < f.length) (hj : j < g.length) : (cpart f g i j).set (i + j) (fn (cpart f g i j) (i + j) + fn f i * fn g j) = cpart f g i (j + 1) := by
  refine fn_ext (by simp [cpart]) fun k => ?_
  rw [fn_set (by rw [cpart_len]; omega), cpart_fn f g i (j + 1)]
  by_cases e : k = i + j
  · subst e
    have a1 : i + j < f.length + g.length - 1 := by omega
    have a2 : ¬ (i ≤ i + j ∧ j < j) := by omega
    have a3 : i ≤ i + j ∧ j < j + 1 := by omega
    rw [if_pos rfl, cpart_fn f g i j, if_pos a1, if_pos a1, Nat.add_sub_cancel_left, if_neg a2, if_pos a3]
    omega
  · rw [if_neg e, cpart_fn f g i j]
    by_cases c : k < f.length + g.length - 1
    · rw [if_pos c, if_pos c]
      congr 1
      by_cases c2 : i ≤ k ∧ k - i < j
      · rw [if_pos c2, if_pos (by omega)]
      · rw [if_neg c2, if_neg (by omega)]
    · rw [if_neg c, if_neg c]
theorem cpart_next {f g : List Int} {i : Nat} : cpart f g i g.length = cpart f g (i + 1) 0 := by
  refine List.map_congr_left fun k _ => ?_
  show _ = sm _ i + (if i ≤ k then fn f i * fn g (k - i) else 0) + (if i + 1 ≤ k ∧ k - (i + 1) < 0 then _ else 0)
  rw [if_neg (by omega : ¬ (i + 1 ≤ k ∧ k - (i + 1) < 0)), Int.add_zero]
  congr 1
  by_cases c : i ≤ k
  · rw [if_pos c]
    by_cases c2 : k - i < g.length
    · rw [if_pos ⟨c, c2⟩]
    · rw [if_neg (by omega), fn_out (by omega : g.length ≤ k - i)]; simp
  · rw [if_neg c, if_neg (by omega)]
theorem cpart_end (f g : List Int) : cpart f g f.length 0 = conv f g := List.map_congr_left fun k _ => by
  rw [if_neg (by omega), Int.add_zero]
theorem conv_len (f g : List Int) : (conv f g).length = f.length + g.length - 1 := by simp [conv]
/-- partial products stay small -/
theorem cpart_le {f g : List Int} {A B : Nat} (hf : ∀ i, (fn f i).natAbs ≤ A) (hg : ∀ i, (fn g i).natAbs ≤ B) (i j k : Nat) : (fn (cpart f g i j) k).natAbs ≤ (i + 1) * (A * B) := by
  unfold cpart
  rw [fn_range]
  split
  · have h1 : ∀ i, (sm (fun a => if a ≤ k then fn f a * fn g (k - a) else 0) i).natAbs ≤ i * (A * B) := fun i => by
      induction i with
      | zero => show (0 : Int).natAbs ≤ _; simp
      | succ i ih =>
        show (sm _ i + (if i ≤ k then fn f i * fn g (k - i) else 0)).natAbs ≤ (i + 1) * (A * B)
        have := Int.natAbs_add_le (sm (fun a => if a ≤ k then fn f a * fn g (k - a) else 0) i) (if i ≤ k then fn f i * fn g (k - i) else 0)
        have h2 : (if i ≤ k then fn f i * fn g (k - i) else 0).natAbs ≤ A * B := by
          split
          · rw [Int.natAbs_mul]; exact Nat.mul_le_mul (hf _) (hg _)
          · simp
        rw [Nat.succ_mul]
        omega
    have h2 : (if i ≤ k ∧ k - i < j then fn f i * fn g (k - i) else 0).natAbs ≤ A * B := by
      split
      · rw [Int.natAbs_mul]; exact Nat.mul_le_mul (hf _) (hg _)
      · simp
    have h3 := Int.natAbs_add_le (sm (fun a => if a ≤ k then fn f a * fn g (k - a) else 0) i) (if i ≤ k ∧ k - i < j then fn f i * fn g (k - i) else 0)
    have h4 := h1 i
    rw [Nat.succ_mul]
    omega
  · simp
theorem conv_le {f g : List Int} {A B : Nat} (hf : ∀ i, (fn f i).natAbs ≤ A) (hg : ∀ i, (fn g i).natAbs ≤ B) (k : Nat) : (fn (conv f g) k).natAbs ≤ (f.length + 1) * (A * B) := by
  rw [← cpart_end]
  exact cpart_le hf hg _ _ _
/-- times p x + q y -/
theorem conv_two (f : List Int) (hf : 1 ≤ f.length) (p q : Int) (k : Nat) : fn (conv f [p, q]) k = mul2 (fn f) p q k := by
  have g0 : fn [p, q] 0 = p := rfl
  have g1 : fn [p, q] 1 = q := rfl
  have g2 : ∀ i, 2 ≤ i → fn [p, q] i = 0 := fun i hi => fn_out hi
  unfold conv mul2
  rw [fn_range]
  by_cases hk : k < f.length + [p, q].length - 1
  · rw [if_pos hk]
    simp only [List.length_cons, List.length_nil] at hk
    have e : sm (fun a => if a ≤ k then fn f a * fn [p, q] (k - a) else 0) f.length = sm (fun a => (if a = k then fn f k * p else 0) + (if a + 1 = k then fn f a * q else 0)) f.length := sm_congr fun a ha => by
      by_cases c1 : a = k
      · subst c1
        rw [if_pos (Nat.le_refl _), Nat.sub_self, g0, if_pos rfl, if_neg (by omega)]; simp
      · by_cases c2 : a + 1 = k
        · rw [if_pos (by omega), if_neg c1, if_pos c2, show k - a = 1 by omega, g1]; simp
        · rw [if_neg c1, if_neg c2]
          by_cases c3 : a ≤ k
          · rw [if_pos c3, g2 _ (by omega)]; simp
          · rw [if_neg c3]; simp
    rw [e, sm_add]
    congr 1
    · by_cases c : k < f.length
      · rw [sm_one (p := k) c fun i _ h => if_neg h, if_pos rfl]
      · rw [sm_zero fun i hi => if_neg (by omega), fn_out (by omega : f.length ≤ k)]; simp
    · by_cases c : k = 0
      · rw [if_pos c, sm_zero fun i hi => if_neg (by omega)]
      · rw [if_neg c, sm_one (p := k - 1) (by omega) fun i _ h => if_neg (by omega), if_pos (by omega)]
  · rw [if_neg hk]
    simp only [List.length_cons, List.length_nil] at hk
    rw [fn_out (by omega : f.length ≤ k), if_neg (by omega), fn_out (by omega : f.length ≤ k - 1)]; simp
theorem mul2_le {v : Vec} {A M : Nat} {p q : Int} (hv : ∀ i, (v i).natAbs ≤ A) (hp : p.natAbs ≤ M) (hq : q.natAbs ≤ M) (k : Nat) : (mul2 v p q k).natAbs ≤ 2 * M * A := by
  unfold mul2
  have h1 : (v k * p).natAbs ≤ A * M := by rw [Int.natAbs_mul]; exact Nat.mul_le_mul (hv k) hp
  have h2 : (if k = 0 then 0 else v (k - 1) * q).natAbs ≤ A * M := by
    split
    · simp
    · rw [Int.natAbs_mul]; exact Nat.mul_le_mul (hv _) hq
  have h3 := Int.natAbs_add_le (v k * p) (if k = 0 then 0 else v (k - 1) * q)
  have h4 : 2 * M * A = A * M + A * M := by rw [Nat.mul_assoc, Nat.mul_comm M A]; omega
  omega
theorem conv_congr {f : List Int} (hf : 1 ≤ f.length) (p q : Int) : fn (conv f [p, q]) = mul2 (fn f) p q := funext fun k => conv_two f hf p q k
/-- the power of p x + q y -/
def powL (f : List Int) : Nat → List Int
  | 0 => [1]
  | n + 1 => conv (powL f n) f
theorem powL_len {f : List Int} (h : f.length = 2) : ∀ n, (powL f n).length = n + 1
  | 0 => rfl
  | n + 1 => by
    show (conv (powL f n) f).length = _
    rw [conv_len, powL_len h n, h]; omega
theorem fn_one : fn [1] = unit 0 := funext fun i => by
  cases i with
  | zero => rfl
  | succ i => show fn [] i = _; rw [fn_out (by simp)]; unfold unit; rw [if_neg (by omega)]
theorem powL_fn (p q : Int) : ∀ n, fn (powL [p, q] n) = pw p q n
  | 0 => fn_one
  | n + 1 => by
    show fn (conv (powL [p, q] n) [p, q]) = mul2 (pw p q n) p q
    rw [conv_congr (by rw [powL_len rfl]; omega), powL_fn p q n]
theorem pw_le {p q : Int} {M : Nat} (hp : p.natAbs ≤ M) (hq : q.natAbs ≤ M) : ∀ n k, (pw p q n k).natAbs ≤ (2 * M) ^ n
  | 0, k => by
    show (unit 0 k).natAbs ≤ 1
    unfold unit
    split <;> decide
  | n + 1, k => by
    rw [Nat.pow_succ, Nat.mul_comm]
    exact mul2_le (pw_le hp hq n) hp hq k
/-- the product of forms -/
def allConv (fs : List (List Int)) : List Int := fs.foldl conv [1]

/-! ### points -/
/-- a point as a tuple: two numbers without a common divisor, the first one other than 0 above 0, both from -3 to 3 -/
structure Pnt (p : List Int) : Prop where
  len : p.length = 2
  nrm : Nrm p
  small : ∀ i, (fn p i).natAbs ≤ 3
def lineOf (p : List Int) : List Int := [fn p 1, -fn p 0]
theorem two_of {p : List Int} (h : p.length = 2) : p = [fn p 0, fn p 1] := by
  match p, h with
  | [a, b], _ => rfl
def ptsOf (ps : List (List Int)) : Nat → Int × Int := fun j => (fn (ps.getD j []) 0, fn (ps.getD j []) 1)
theorem pts_ok {ps : List (List Int)} (hp : ∀ p, p ∈ ps → Pnt p) (hn : ps.Nodup) : Pts (ptsOf ps) ps.length := by
  have hnz : ∀ j, j < ps.length → (ptsOf ps j).1 ≠ 0 ∨ (ptsOf ps j).2 ≠ 0 := fun j hj => by
    have h1 : ps[j]? = some ps[j] := List.getElem?_eq_getElem hj
    have P := hp _ (List.mem_of_getElem? h1)
    unfold ptsOf
    rw [getD_of h1]
    refine Classical.byContradiction fun z => ?_
    rw [not_or, Classical.not_not, Classical.not_not] at z
    have z1 : fn ps[j] 0 = 0 := z.1
    have z2 : fn ps[j] 1 = 0 := z.2
    have : shN ps[j] = 0 := shN_zero.mpr fun x hx => by
      rw [two_of P.len, z1, z2] at hx
      simpa using hx
    rw [P.nrm.one] at this
    exact absurd this (by decide)
  refine ⟨hnz, fun j k hj hk hne => ?_⟩
  have h1 : ps[j]? = some ps[j] := List.getElem?_eq_getElem hj
  have h2 : ps[k]? = some ps[k] := List.getElem?_eq_getElem hk
  have P := hp _ (List.mem_of_getElem? h1)
  have R := hp _ (List.mem_of_getElem? h2)
  have n1 := hnz j hj
  have n2 := hnz k hk
  unfold ptsOf at n1 n2 ⊢
  rw [getD_of h1] at n1 ⊢
  rw [getD_of h2] at n2 ⊢
  show fn ps[k] 1 * fn ps[j] 0 + -fn ps[k] 0 * fn ps[j] 1 ≠ 0
  intro z
  refine hne ?_
  have hpq : ps[j] = ps[k] := by
    have e1 : fn ps[k] 1 * fn ps[j] 0 = fn ps[k] 0 * fn ps[j] 1 := by grind
    have out : ∀ i, 2 ≤ i → fn ps[j] i = 0 ∧ fn ps[k] i = 0 := fun i hi => ⟨fn_out (by rw [P.len]; exact hi), fn_out (by rw [R.len]; exact hi)⟩
    by_cases c : fn ps[k] 0 = 0
    · have c2 : fn ps[k] 1 ≠ 0 := n2.resolve_left fun w => w c
      have d1 : fn ps[j] 0 = 0 := by
        rw [c, Int.zero_mul] at e1
        exact (Int.mul_eq_zero.mp e1).resolve_left c2
      have d2 : fn ps[j] 1 ≠ 0 := n1.resolve_left fun w => w d1
      refine nrm_eq P.nrm R.nrm (P.len.trans R.len.symm) c2 d2 (fun i => ?_) d2
      match i with
      | 0 => rw [d1, c]; simp
      | 1 => exact Int.mul_comm _ _
      | i + 2 => rw [(out (i + 2) (by omega)).1, (out (i + 2) (by omega)).2]; simp
    · have d1 : fn ps[j] 0 ≠ 0 := fun w => by
        have d2 : fn ps[j] 1 ≠ 0 := n1.resolve_left fun v => v w
        rw [w, Int.mul_zero] at e1
        exact Int.mul_ne_zero c d2 e1.symm
      refine nrm_eq P.nrm R.nrm (P.len.trans R.len.symm) c d1 (fun i => ?_) d1
      match i with
      | 0 => exact Int.mul_comm _ _
      | 1 => rw [← e1, Int.mul_comm]
      | i + 2 => rw [(out (i + 2) (by omega)).1, (out (i + 2) (by omega)).2]; simp
  have g1 := List.getElem?_eq_some_iff.mp h1
  have g2 := List.getElem?_eq_some_iff.mp h2
  exact (List.getElem_inj hn).mp hpq
theorem lines_from (P : Nat → Int × Int) (ps : List (List Int)) (hP : ∀ j, j < ps.length → lineOf (ps.getD j []) = [(P j).2, -(P j).1]) : ∀ n, n ≤ ps.length → fn (((ps.take n).map lineOf).foldl conv [1]) = lp P n ∧ (((ps.take n).map lineOf).foldl conv [1]).length = n + 1
  | 0, _ => ⟨fn_one, rfl⟩
  | n + 1, h => by
    obtain ⟨a, b⟩ := lines_from P ps hP n (by omega)
    have e : ps.take (n + 1) = ps.take n ++ [ps.getD n []] := by
      rw [List.take_add_one, List.getElem?_eq_getElem (by omega : n < ps.length), List.getD_eq_getElem?_getD, List.getElem?_eq_getElem (by omega : n < ps.length)]
      rfl
    rw [e, List.map_append, List.foldl_append]
    show fn (conv _ (lineOf (ps.getD n []))) = _ ∧ (conv _ (lineOf (ps.getD n []))).length = _
    refine ⟨?_, ?_⟩
    · rw [hP n (by omega), conv_congr (by rw [b]; omega), a]
      rfl
    · rw [conv_len, b]
      show n + 1 + 2 - 1 = _
      omega
theorem lines_fn (ps : List (List Int)) : fn (allConv (ps.map lineOf)) = lp (ptsOf ps) ps.length ∧ (allConv (ps.map lineOf)).length = ps.length + 1 := by
  have := lines_from (ptsOf ps) ps (fun j _ => rfl) ps.length (Nat.le_refl _)
  rwa [List.take_length] at this

/-! ### a sum of powers -/
def plusL (f g : List Int) : List Int := List.zipWith (· + ·) f g
def scaleL (f : List Int) (c : Int) : List Int := f.map (c * ·)
/-- the sum over the first i points, each power with a number from 1 to 5 -/
def IsSum (ps : List (List Int)) (n i : Nat) (f : List Int) : Prop := f.length = n + 1 ∧ ∃ c : Nat → Int, (∀ j, 1 ≤ c j ∧ c j ≤ 5) ∧ ∀ k, fn f k = sm (fun j => c j * pw (ptsOf ps j).1 (ptsOf ps j).2 n k) i
theorem isSum_zero (ps : List (List Int)) (n : Nat) : IsSum ps n 0 (List.replicate (n + 1) 0) := ⟨by simp, fun _ => 1, fun _ => ⟨Int.le_refl 1, by show (1 : Int) ≤ 5; decide⟩, fun k => fn_replicate _ _⟩
theorem isSum_step {ps : List (List Int)} {n i : Nat} {f p : List Int} {x : Int} (h : IsSum ps n i f) (hp : ps[i]? = some p) (hl : p.length = 2) (h1 : 1 ≤ x) (h5 : x ≤ 5) : IsSum ps n (i + 1) (plusL f (scaleL (powL p n) x)) := by
  obtain ⟨a, c, hc, e⟩ := h
  have pl : (powL p n).length = n + 1 := powL_len hl n
  refine ⟨by simp [plusL, scaleL, a, pl], fun j => if j = i then x else c j, fun j => ?_, fun k => ?_⟩
  · show 1 ≤ (if j = i then x else c j) ∧ (if j = i then x else c j) ≤ 5
    split
    · exact ⟨h1, h5⟩
    · exact hc j
  · unfold plusL scaleL
    rw [fn_zipWith (by simp [a, pl]) (by simp), fn_map (by simp), e k]
    show _ = sm _ i + (if i = i then x else c i) * pw (ptsOf ps i).1 (ptsOf ps i).2 n k
    rw [if_pos rfl]
    have e2 : pw (ptsOf ps i).1 (ptsOf ps i).2 n = fn (powL p n) := by
      rw [two_of hl, powL_fn]
      unfold ptsOf
      rw [getD_of hp]
    rw [e2]
    congr 1
    exact sm_congr fun j hj => by
      show _ = (if j = i then x else c j) * _
      rw [if_neg (by omega)]
theorem isSum_le {ps : List (List Int)} {n i : Nat} {f : List Int} (hp : ∀ p, p ∈ ps → Pnt p) (hi : i ≤ ps.length) (h : IsSum ps n i f) (k : Nat) : (fn f k).natAbs ≤ i * (5 * 6 ^ n) := by
  obtain ⟨_, c, hc, e⟩ := h
  rw [e k]
  clear e
  induction i with
  | zero => show (0 : Int).natAbs ≤ _; simp
  | succ i ih =>
    have h1 := ih (by omega)
    have hpi : ps[i]? = some (ps[i]'(by omega)) := List.getElem?_eq_getElem _
    have P := hp _ (List.mem_of_getElem? hpi)
    have h2 : (c i * pw (ptsOf ps i).1 (ptsOf ps i).2 n k).natAbs ≤ 5 * 6 ^ n := by
      rw [Int.natAbs_mul]
      refine Nat.mul_le_mul (by have := hc i; omega) ?_
      refine pw_le (M := 3) ?_ ?_ n k
      · show (fn (ps.getD i []) 0).natAbs ≤ 3
        rw [getD_of hpi]; exact P.small 0
      · show (fn (ps.getD i []) 1).natAbs ≤ 3
        rw [getD_of hpi]; exact P.small 1
    show (sm _ i + c i * pw (ptsOf ps i).1 (ptsOf ps i).2 n k).natAbs ≤ _
    have h3 := Int.natAbs_add_le (sm (fun j => c j * pw (ptsOf ps j).1 (ptsOf ps j).2 n k) i) (c i * pw (ptsOf ps i).1 (ptsOf ps i).2 n k)
    rw [Nat.succ_mul]
    omega
/-- the level entries of a sum of powers -/
theorem isSum_level {ps : List (List Int)} {n : Nat} {f : List Int} (h : IsSum ps n ps.length f) : ∃ w : Nat → Int, (∀ j, w j ≠ 0) ∧ (∀ j, (w j).natAbs ≤ 5 * (fac n).natAbs) ∧ ∀ i, i ≤ n → fn (levels f) i = sm (fun j => w j * ((ptsOf ps j).1 ^ (n - i) * (ptsOf ps j).2 ^ i)) ps.length := by
  obtain ⟨a, c, hc, e⟩ := h
  refine ⟨fun j => c j * fac n, fun j => Int.mul_ne_zero (by have := hc j; omega) (Int.ne_of_gt (fac_pos n)), fun j => ?_, fun i hi => ?_⟩
  · rw [Int.natAbs_mul]
    exact Nat.mul_le_mul_right _ (by have := hc j; omega)
  · rw [levels_fn, a, Nat.add_sub_cancel, e i, ← sm_mul]
    exact sm_congr fun j _ => by
      have := pw_level (ptsOf ps j).1 (ptsOf ps j).2 n i hi
      grind
section
variable {ps : List (List Int)} {n : Nat} {f : List Int}
theorem lines_kill (hp : ∀ p, p ∈ ps → Pnt p) (h : IsSum ps n ps.length f) (hm : ps.length ≤ n) : Sp (kills f ps.length) (fn (allConv (ps.map lineOf))) := by
  obtain ⟨w, hw, _, ha⟩ := isSum_level h
  have K := ker_ok (lvl_len (es := f) (d := ps.length))
  refine (K.sp _).mpr ((kerR_lev _ _ _ _).mpr ?_)
  rw [(lines_fn ps).1, h.1, Nat.add_sub_cancel]
  exact lp_kills ha hm
theorem lines_ne (hp : ∀ p, p ∈ ps → Pnt p) (hn : ps.Nodup) : shN (allConv (ps.map lineOf)) ≠ 0 := by
  obtain ⟨i, _, hi⟩ := lp_ne (pts_ok hp hn).ne
  rw [← (lines_fn ps).1] at hi
  exact shN_ne hi
/-- few points: the lines' product alone -/
theorem powers_few (hp : ∀ p, p ∈ ps → Pnt p) (hn : ps.Nodup) (h : IsSum ps n ps.length f) (h1 : 1 ≤ ps.length) (hm : 2 * ps.length ≤ n + 1) : kills f ps.length = [prim (allConv (ps.map lineOf))] := by
  obtain ⟨w, hw, _, ha⟩ := isSum_level h
  have K := ker_ok (lvl_len (es := f) (d := ps.length))
  have hne := lines_ne hp hn
  obtain ⟨l1, l2⟩ := lines_fn ps
  obtain ⟨c0, hc0, e0⟩ := prim_fn hne
  obtain ⟨i0, _, hi0⟩ := lp_ne (pts_ok hp hn).ne
  rw [← l1] at hi0
  obtain ⟨l, _, hl1, hl2⟩ := first_nonzero _ i0 hi0
  have hlw : l < ps.length + 1 := Classical.byContradiction fun z => hl1 (fn_out (by rw [l2]; omega))
  refine ech_unique K.ech ⟨[l], ⟨rfl, fun r hr => ?_, by simp, fun x hx => by rw [List.mem_singleton.mp hx]; exact hlw, fun j x r hr hx => ?_, fun j x r hr hx i hi => ?_, fun j k x r hr hx hne => ?_⟩, fun r hr => ?_⟩ fun v => ?_
  · rw [List.mem_singleton.mp hr, prim_len, l2]
  · have j0 : j = 0 := by have := (List.getElem?_eq_some_iff.mp hr).1; simp at this; exact this
    subst j0
    have er : prim (allConv (ps.map lineOf)) = r := Option.some.inj hr
    have ex : l = x := Option.some.inj hx
    intro z
    rw [← er, ← ex] at z
    rw [e0, z, Int.mul_zero] at hl1
    exact hl1 rfl
  · have j0 : j = 0 := by have := (List.getElem?_eq_some_iff.mp hr).1; simp at this; exact this
    subst j0
    have er : prim (allConv (ps.map lineOf)) = r := Option.some.inj hr
    have ex : l = x := Option.some.inj hx
    rw [← ex] at hi
    have := hl2 i hi
    rw [e0] at this
    rw [← er]
    exact (Int.mul_eq_zero.mp this).resolve_left hc0
  · exfalso
    have a := (List.getElem?_eq_some_iff.mp hr).1
    have b := (List.getElem?_eq_some_iff.mp hx).1
    simp at a b
    omega
  · rw [List.mem_singleton.mp hr]
    exact prim_nrm hne
  · refine (K.sp v).trans ?_
    constructor
    · intro hv
      have hv' := (kerR_lev _ _ _ v).mp hv
      rw [h.1, Nat.add_sub_cancel] at hv'
      obtain ⟨c, c', hc, e⟩ := kills_lp ha (fun j _ => hw j) (pts_ok hp hn) h1 hm hv'
      refine Sat.prop (a := c' * c0) hc (Sp.of (List.mem_singleton.mpr rfl)) fun i => ?_
      rw [e i, ← l1, e0 i, Int.mul_assoc]
    · intro hv
      refine kerR_sat (fun r hr => ?_) hv
      rw [List.mem_singleton.mp hr]
      have hs := (K.sp _).mp (lines_kill hp h (by omega))
      refine kerR_sat (F := [prim (allConv (ps.map lineOf))]) (fun r hr => ?_) (Sp.of (List.mem_singleton.mpr rfl))
      rw [List.mem_singleton.mp hr]
      refine ⟨fun i hi => (Int.mul_eq_zero.mp ((e0 i).symm.trans (hs.1 i hi))).resolve_left hc0, fun s hs' => ?_⟩
      have := hs.2 s hs'
      rw [show fn (allConv (ps.map lineOf)) = fun i => c0 * fn (prim (allConv (ps.map lineOf))) i from funext e0] at this
      have e3 : dot (ps.length + 1) (fn s) (fun i => c0 * fn (prim (allConv (ps.map lineOf))) i) = c0 * dot (ps.length + 1) (fn s) (fn (prim (allConv (ps.map lineOf)))) := by
        unfold dot
        rw [← sm_mul]
        exact sm_congr fun i _ => by grind
      rw [e3] at this
      exact (Int.mul_eq_zero.mp this).resolve_left hc0
/-- many points: the lines' product adds nothing -/
theorem powers_many (hp : ∀ p, p ∈ ps → Pnt p) (h : IsSum ps n ps.length f) (hm : ps.length ≤ n) : (echelon lessL (kills f ps.length ++ [allConv (ps.map lineOf)]) (ps.length + 1)).length = (kills f ps.length).length := by
  have K := ker_ok (lvl_len (es := f) (d := ps.length))
  obtain ⟨ls, L, N⟩ := K.ech
  have hr : ∀ r, r ∈ kills f ps.length ++ [allConv (ps.map lineOf)] → r.length = ps.length + 1 := fun r hr => by
    rcases List.mem_append.mp hr with a | a
    · exact L.len r a
    · rw [List.mem_singleton.mp a]; exact (lines_fn ps).2
  obtain ⟨e1, e2⟩ := echelon_ok lessL_ok hr
  have : echelon lessL (kills f ps.length ++ [allConv (ps.map lineOf)]) (ps.length + 1) = kills f ps.length := ech_unique e1 K.ech fun v => (e2 v).trans ⟨fun hv => Sp.mono (fun r hr => ?_) hv, fun hv => Sp.mono (fun r hr => Sp.of (List.mem_append_left _ hr)) hv⟩
  · rw [this]
  · rcases List.mem_append.mp hr with a | a
    · exact Sp.of a
    · rw [List.mem_singleton.mp a]; exact lines_kill hp h hm
theorem lines_le (hp : ∀ p, p ∈ ps → Pnt p) : ∀ i, (fn (allConv (ps.map lineOf)) i).natAbs ≤ 6 ^ ps.length := by
  rw [(lines_fn ps).1]
  have : ∀ n, n ≤ ps.length → ∀ i, (lp (ptsOf ps) n i).natAbs ≤ 6 ^ n := fun n => by
    induction n with
    | zero =>
      intro _ i
      show (unit 0 i).natAbs ≤ 1
      unfold unit
      split <;> decide
    | succ n ih =>
      intro hn i
      have hpi : ps[n]? = some (ps[n]'(by omega)) := List.getElem?_eq_getElem _
      have P := hp _ (List.mem_of_getElem? hpi)
      rw [Nat.pow_succ, Nat.mul_comm]
      refine mul2_le (M := 3) (ih (by omega)) ?_ ?_ i
      · show (fn (ps.getD n []) 1).natAbs ≤ 3
        rw [getD_of hpi]; exact P.small 1
      · rw [Int.natAbs_neg]
        show (fn (ps.getD n []) 0).natAbs ≤ 3
        rw [getD_of hpi]; exact P.small 0
  exact this ps.length (Nat.le_refl _)
/-- THE SIZES of the last elimination -/
theorem many_fits (hp : ∀ p, p ∈ ps → Pnt p) (h : IsSum ps n ps.length f) (h4 : ps.length ≤ 4) (hn4 : 4 ≤ n) (hn7 : n ≤ 7) (hm : ¬ 2 * ps.length ≤ n + 1) : Fits lessL (kills f ps.length ++ [allConv (ps.map lineOf)]) (ps.length + 1) 6000 := by
  have K := ker_ok (lvl_len (es := f) (d := ps.length))
  obtain ⟨ls, L, N⟩ := K.ech
  have hr : ∀ r, r ∈ kills f ps.length ++ [allConv (ps.map lineOf)] → r.length = ps.length + 1 := fun r hr => by
    rcases List.mem_append.mp hr with a | a
    · exact L.len r a
    · rw [List.mem_singleton.mp a]; exact (lines_fn ps).2
  -- the level entries are small
  have hn6 : n ≤ 6 := by omega
  obtain ⟨w, _, hw, ha⟩ := isSum_level h
  have hfac : ∀ n, n < 7 → (fac n).natAbs ≤ 720 := by decide
  have hlev : ∀ i, (fn (levels f) i).natAbs < 2 ^ 24 := fun i => by
    by_cases hi : i ≤ n
    · rw [ha i hi]
      have one : ∀ j, j < ps.length → (w j * ((ptsOf ps j).1 ^ (n - i) * (ptsOf ps j).2 ^ i)).natAbs ≤ 3600 * 729 := fun j hj => by
        have hpi : ps[j]? = some ps[j] := List.getElem?_eq_getElem hj
        have P := hp _ (List.mem_of_getElem? hpi)
        have x1 : (ptsOf ps j).1.natAbs ≤ 3 := by
          show (fn (ps.getD j []) 0).natAbs ≤ 3
          rw [getD_of hpi]; exact P.small 0
        have x2 : (ptsOf ps j).2.natAbs ≤ 3 := by
          show (fn (ps.getD j []) 1).natAbs ≤ 3
          rw [getD_of hpi]; exact P.small 1
        rw [Int.natAbs_mul, Int.natAbs_mul, Int.natAbs_pow, Int.natAbs_pow]
        have y1 : (w j).natAbs ≤ 3600 := Nat.le_trans (hw j) (Nat.mul_le_mul_left 5 (hfac n (by omega)))
        have y2 : (ptsOf ps j).1.natAbs ^ (n - i) * (ptsOf ps j).2.natAbs ^ i ≤ 3 ^ (n - i) * 3 ^ i := Nat.mul_le_mul (Nat.pow_le_pow_left x1 _) (Nat.pow_le_pow_left x2 _)
        have y3 : 3 ^ (n - i) * 3 ^ i ≤ 729 := by
          rw [← Nat.pow_add, show n - i + i = n by omega]
          exact Nat.pow_le_pow_right (n := 3) (by decide) hn6
        exact Nat.mul_le_mul y1 (Nat.le_trans y2 y3)
      have sum : ∀ m, m ≤ ps.length → (sm (fun j => w j * ((ptsOf ps j).1 ^ (n - i) * (ptsOf ps j).2 ^ i)) m).natAbs ≤ m * (3600 * 729) := fun m => by
        induction m with
        | zero => intro _; show (0 : Int).natAbs ≤ _; simp
        | succ m ih =>
          intro hm'
          have := ih (by omega)
          have h2 := one m (by omega)
          show (sm _ m + w m * ((ptsOf ps m).1 ^ (n - i) * (ptsOf ps m).2 ^ i)).natAbs ≤ _
          have h3 := Int.natAbs_add_le (sm (fun j => w j * ((ptsOf ps j).1 ^ (n - i) * (ptsOf ps j).2 ^ i)) m) (w m * ((ptsOf ps m).1 ^ (n - i) * (ptsOf ps m).2 ^ i))
          omega
      have := sum ps.length (Nat.le_refl _)
      have h4' : ps.length * (3600 * 729) ≤ 4 * (3600 * 729) := Nat.mul_le_mul_right _ h4
      omega
    · rw [levels_fn, fn_out (by rw [h.1]; omega), Int.mul_zero]; decide
  have kf := ker_fits (rows := lvl f ps.length) (w := ps.length + 1) (b := 24) (k := 3) lvl_len (lvl_bd hlev) (by decide) (by omega) (.inl (by rw [lvl_count, h.1]; omega)) (.inl (by decide))
  have sz4 : sz (3 + 1) 24 = 185 := by decide
  refine fits_double growsL (b := 185) (k := 5) hr (fun r hr' => ?_) (.inr (by omega)) (by decide)
  rcases List.mem_append.mp hr' with a | a
  · rw [← sz4]; exact kf.kerB r a
  · rw [List.mem_singleton.mp a]
    intro i
    have := lines_le hp i
    have h6 : 6 ^ ps.length ≤ 6 ^ 4 := Nat.pow_le_pow_right (by decide) h4
    have : (6 : Nat) ^ 4 < 2 ^ 185 := by decide
    omega
end
end Lin

/-! ## W0 -/
set_option Elab.async false
set_option linter.all false
set_option maxRecDepth 100000
set_option maxHeartbeats 4000000
namespace W0
open PySem PySem.Spec PyProof.Rows L2

/-! ### // by any number but 0, where C divides by itself -/
def CDivC (i j : Int) : Prop := j ≠ 0 ∧ Builtin.divisionGoesByPylong i j = false
theorem op_fdivC {X : Cx} : OpR X (binaryOp .FloorDiv) (rI CDivC fun i j => .int (i.fdiv j)) :=
  opI fun _ _ _ _ _ _ _ hc q => floordiv_int hc.1 q (.inl hc.2)
theorem divc_of {i j : Int} (h0 : j ≠ 0) (hi : i.natAbs < 2 ^ 13400) : CDivC i j := by
  refine ⟨h0, ?_⟩
  have h1 := PySem.Flt.log2_lt_of (by decide : 0 < 13400) hi
  show (decide ((if j == 0 then 0 else j.natAbs.log2 / 30 + 1) > 300) && decide ((if i == 0 then 0 else i.natAbs.log2 / 30 + 1) > (if j == 0 then 0 else j.natAbs.log2 / 30 + 1) + 150)) = false
  by_cases c : (if j == 0 then 0 else j.natAbs.log2 / 30 + 1) > 300
  · have d : ¬ ((if i == 0 then 0 else i.natAbs.log2 / 30 + 1) > (if j == 0 then 0 else j.natAbs.log2 / 30 + 1) + 150) := by
      have e : (if i == 0 then 0 else i.natAbs.log2 / 30 + 1) ≤ i.natAbs.log2 / 30 + 1 := by split <;> omega
      omega
    rw [decide_eq_false d, Bool.and_false]
  · rw [decide_eq_false c, Bool.false_and]

/-! ### next((x for x in xs if x != 0), 0): the first one that is not 0, or 0 -/
def nz (ns : List Int) (i : Nat) : Bool := decide (ns.getD i 0 ≠ 0)
def tNextG (K : PySem.W.Frag) (P : Addr) (te : TE) : TE := fun σ H Q => te σ H fun v H1 => ∃ (a : Addr) (ns : List Int), v = .ref a ∧ SqL K H1 a (ns.map V.int) ∧ GxR.TabG H1 P ∧ ∀ H2, GxR.Tabbed P H1 H2 → Q (.int ((ns.find? fun x => decide (x ≠ 0)).getD 0)) H2
theorem find_passing (ns : List Int) : (passing (nz ns) ns.length 0).head?.map (fun i => ns.getD i 0) = ns.find? fun x => decide (x ≠ 0) := by
  unfold passing
  rw [List.drop_zero, List.head?_filter]
  have e : ns = (List.range ns.length).map fun i => ns.getD i 0 := by
    refine List.ext_getElem (by simp) fun i h1 h2 => ?_
    simp [List.getD_eq_getElem?_getD, h1]
  have f : (ns.find? fun x => decide (x ≠ 0)) = ((List.range ns.length).find? (nz ns)).map fun i => ns.getD i 0 := by
    conv => lhs; rw [e]
    rw [List.find?_map]
    rfl
  rw [f]
section
variable {X : Cx}
theorem call_nextS {prog : Program} {w : World} {A : Around} {E : Value → Shared → Prop} {s : Shared} {g : Addr} {dflt : Value} {fp wr : List Addr} {G : Array GenState → Array GenState → Prop} {n : Nat} {F : Nat → Value → Prop} {St : Nat → Shared → Prop} {Q : Value → Shared → Prop}
    (W : WalksS prog w A.in1 g fp wr G n F St) (hst : St 0 s) (ht : s.TypeIs (.ref g) "generator")
    (h : ∀ v s', (0 < n → F 0 v) → (n = 0 → v = dflt) → Moved wr G s s' → Q v s') : wpAny (model prog w) A (call (.builtin "next") [.ref g, dflt]) Q E s := by
  refine Calls.call_function_entry (by decide +kernel) (by decide +kernel) PySem.W.kdk_entry_next (PySem.W.kdk_args_next2 _ _) ?_
  unfold Builtin.«next»
  refine wpAny_bind (m := someArgs "next" 1 2 _) (wpAny_of_eq (a := [Value.ref g, dflt]) (by first | rfl | kernel_rfl!) ?_)
  dsimp only
  refine wpAny_bind (wpAny_specialOf (name := Str.ofString "__next__") ht slot_gen_next.lookup ?_)
  refine wpAny_ite_split (fun hab => absurd hab (by decide)) (fun _ => ?_)
  by_cases hn : 0 < n
  · refine wpAny_bind (W.item 0 s _ _ hn hst fun v s' hv _ hm => ?_)
    exact wpAny_pure ⟨_, rfl, h v s' (fun _ => hv) (fun z => by omega) hm⟩
  · have e : n = 0 := by omega
    subst e
    refine wpAny_bind (W.done s _ _ hst fun s' hm => ?_)
    exact wpAny_pure ⟨_, rfl, h dflt s' (fun z => absurd z hn) (fun _ => rfl) hm⟩

/-- the element and the test of that generator expression -/
theorem load_own {prog : Program} {w : World} {A : Around} {E : Value → Shared → Prop} {s : Shared} {scope : Scope} {cenv : Env} {x : Str} {px : Pos} {m : Str → Option Value} {v : Value} {Q : Value → Shared → Prop} (hs : cenv.scope = scope) (hk : scope.kind = .function) (hl : scope.names.lookup x = some .local)
    (hn : s.heap.Ns cenv.locals m) (hm : m x = some v) (hd : (x == ("__debug__" : Str)) = false) (q : Q v s) : wpAny (model prog w) A (eval (.Name x px) cenv) Q E s :=
  wpAny_Name (wpAny_loadName_local (by rw [hs]; exact hk) (show cenv.scope.names.lookup x = some .local by rw [hs]; exact hl) hn hm q) hd
theorem gen_list {pins : List (Addr × Obj)} {σ : L2.St} {H : Hp} {s : Shared} {c P : Addr} {iter : Expr} {x : Str} {p1 p2 p3 p4 px gpos : Pos} {j : Nat} {scope : Scope} {te : TE} {k : Nat} {Q' : Value → Shared → Prop} {R : Addr → List Int → Hp → Prop}
    (hr : Room k X.A) (TB : GxR.TabB X.base X.mg c P) (hcode : X.env.code = .ref c) (S : GxR.GenS X.env scope x) (hi : PE X iter te) (hxd : (x == ("__debug__" : Str)) = false)
    (hs : ∀ v, genFold iter X.env v = pure v) (I : Inv X pins σ H s) (h : te σ H fun v H1 => ∃ (a : Addr) (ns : List Int), v = .ref a ∧ SqL X.K H1 a (ns.map V.int) ∧ GxR.TabG H1 P ∧ R a ns H1)
    (hQ : ∀ a ns H1 g s5 (fp wr : List Addr) (G : Array GenState → Array GenState → Prop) (St : Nat → Shared → Prop), R a ns H1 → WalksS X.prog X.w X.A.in1 g fp wr G (passing (nz ns) ns.length 0).length
        (fun j y => ∃ i, (passing (nz ns) ns.length 0)[j]? = some i ∧ ∃ t, y = .int (ns.getD i 0) t) St → St 0 s5 → s5.TypeIs (.ref g) "generator" →
        (∀ s', Moved wr G s5 s' → ∃ H2, GxR.Tabbed P H1 H2 ∧ Inv X pins σ H2 s') → Q' (.ref g) s5) :
    wpAny (model X.prog X.w) X.A (eval (.GeneratorExp (.Name x p1) [⟨.Name x px, iter, [.Compare (.Name x p2) [.NotEq] [.Constant (.int 0) j p3] p4], 0⟩] scope gpos) X.env) Q' X.xe s := by
  refine wpAny_GeneratorExp_walksQ hr.hd S.co (closure_ok S.free) S.cell S.dot S.loc S.kind (by have := hr.dp; omega) ?_ hs
  refine thn (hi.run pins s σ H _ I h) fun xv s1 hxv => ?_
  obtain ⟨v, H1, I1, r1, a, ns, rfl, hsq, ⟨ps, hP, ht⟩, q1⟩ := hxv
  cases r1
  obtain ⟨its, rv, pl, hz⟩ := I1.list hsq
  have hal : a < s1.heap.objs.size := pl.lt
  refine wpAny_pyIter_list pl.isList ?_
  have hPs : s1.heap.get? P = some { cls := .none, data := .fields ps } := I1.hok P _ hP
  have hPlt : P < s1.heap.objs.size := Heap.lt_size hPs
  have nPa : P ≠ a := fun z => by
    obtain ⟨o, n, e, hc, _, hd⟩ := pl
    rw [← z, hPs] at e
    cases e
    cases hc
  generalize ho : ({ cls := .type "list_iterator", data := .fields #[.ref a, .int 0 0] } : Obj) = ob
  have hP2 : (s1.heap.push ob).get? P = some { cls := .none, data := .fields ps } := Heap.get?_push_of_some _ hPs
  have cd : PySem.W.CodeHd (s1.heap.push ob) c P := TB.code.keeps fun b u e => Heap.get?_push_of_some _ (I1.bk b u e)
  have lim2 : (s1.heap.push ob).NoLimit := I1.nolimit.push ob
  have lenI : its.toArray.size = ns.length := by
    have := rv.length
    simp at this ⊢
    omega
  have hval : ∀ (i : Nat) (v : Value), its.toArray[i]? = some v → i < ns.length ∧ ∃ t, v = .int (ns.getD i 0) t := fun i v hv => by
    rw [List.getElem?_toArray] at hv
    have hi' := (List.getElem?_eq_some_iff.mp hv).1
    have hin : i < ns.length := by simp at lenI; omega
    have hx : (ns.map V.int)[i]? = some (.int (ns.getD i 0)) := by
      rw [List.getElem?_map, List.getElem?_eq_getElem hin, List.getD_eq_getElem?_getD, List.getElem?_eq_getElem hin]
      rfl
    obtain ⟨u, hu, ru⟩ := rv.get hx
    rw [hv] at hu
    cases hu
    exact ⟨hin, ru⟩
  have cont : ∀ (code : Value) (h3 : Heap) (tk : Nat) (ps' : Array Value), Heap.ExtBut P (s1.heap.push ob) h3 → (s1.heap.push ob).objs.size ≤ h3.objs.size → h3.get? P = some { cls := .none, data := .fields ps' } → (∃ more, ps' = ps ++ more) → TriplesOk ps'.toList →
      wpAny (model X.prog X.w) X.A (builtinsFor X.env.globals X.env.builtins) (fun bi s₄ =>
        ∃ Ia fp wr n₀ Pf St₀ pz F, Value.ref s1.heap.objs.size = .ref Ia ∧ (∀ A' : Around, A'.handled = none → Walks X.prog X.w A' Ia fp wr n₀ Pf St₀) ∧ St₀ 0 s₄.heap ∧ (∀ b ∈ fp, b < s₄.heap.objs.size) ∧ s₄.heap.NoLimit ∧ cStatics ∉ wr ∧
          (∀ href : Heap, (∀ b o, s₄.heap.get? b = some o → href.get? b = some o) →
            QuietGen X.prog X.w (genEnv scope (cloFrom X.env.cells scope.names []) s₄.heap.objs.size code bi X.env) x [.Compare (.Name x p2) [.NotEq] [.Constant (.int 0) j p3] p4] (.Name x p1) (List.range s₄.heap.objs.size) wr Pf pz F href) ∧
          (∀ a h₅ tk gs, gs.bare = true → s₄.heap.objs.size < a → h₅.objs.size = a + 1 → (∀ b o, s₄.heap.get? b = some o → h₅.get? b = some o) →
            WalksS X.prog X.w X.A.in4 a (a :: s₄.heap.objs.size :: List.range s₄.heap.objs.size) (s₄.heap.objs.size :: wr) (GenOnlyQ s₄.gens.size) (passing pz n₀ 0).length
              (fun j y => ∃ i, (passing pz n₀ 0)[j]? = some i ∧ F i y) (GenAt X.prog X.w X.A.in4 a s₄.gens.size s₄.heap.objs.size (List.range s₄.heap.objs.size) wr pz n₀ F) →
            GenAt X.prog X.w X.A.in4 a s₄.gens.size s₄.heap.objs.size (List.range s₄.heap.objs.size) wr pz n₀ F 0 { s₄ with gens := s₄.gens.push gs, toks := tk, heap := h₅ } →
            Q' (.ref a) { s₄ with gens := s₄.gens.push gs, toks := tk, heap := h₅ })) X.xe { s1 with heap := h3, toks := tk } := by
    intro code h3 tk ps' hx hsz hP3 hmore ht3
    obtain ⟨bm, ob2, e1, e2, e3, e4, e5, e6, e7, e8⟩ := TB.bm
    have hcP : cStatics ≠ P := fun e => by
      obtain ⟨_, hns, _⟩ := I1.nolimit
      obtain ⟨o', es, ep, ho', hd, _⟩ := hns
      rw [e, hPs] at ho'
      cases ho'
      cases hd
    have hcl : cStatics < s1.heap.objs.size := let ⟨_, hns, _⟩ := I1.nolimit; hns.lt
    have sz2 : (s1.heap.push ob).objs.size = s1.heap.objs.size + 1 := Heap.size_push ..
    have keep3 : ∀ b u, b ≠ P → s1.heap.get? b = some u → h3.get? b = some u := fun b u hb e => hx b u hb (Heap.get?_push_of_some _ e)
    refine wpAny_builtinsFor (m := X.mg) (by rw [I1.ok.glob]; exact ((I1.mod.glob.keeps I1.bk).push ob).extBut hx TB.gP) e1 e2 (keep3 _ _ e4 (I1.bk _ _ e5)) e6 e7 e8 ?_
    have itAt : h3.get? s1.heap.objs.size = some ob := hx _ _ (Nat.ne_of_gt hPlt) (Heap.get?_push_size _ (by rw [← ho]; rfl))
    refine ⟨s1.heap.objs.size, [s1.heap.objs.size, a], [s1.heap.objs.size], ns.length, (fun i v => its.toArray[i]? = some v), (fun i h => h.IsListIter s1.heap.objs.size a i ∧ h.IsList a its.toArray), nz ns, (fun i y => ∃ t, y = .int (ns.getD i 0) t), rfl, ?_, ?_, ?_, lim2.extBut hx hcP, ?_, ?_, ?_⟩
    · intro A' hA
      have := Walks.list (prog := X.prog) (w := X.w) hA s1.heap.objs.size a (Nat.ne_of_lt hal) its.toArray
      rw [lenI] at this
      exact this
    · refine ⟨⟨ob, itAt, by rw [← ho], by rw [← ho]; rfl⟩, ?_⟩
      obtain ⟨o, n, e, r⟩ := pl
      exact PlainL.isList ⟨o, n, keep3 a o (Ne.symm nPa) e, r⟩
    · intro b hb
      have q3 : (s1.heap.objs.size : Nat) < h3.objs.size := Nat.lt_of_lt_of_le (by rw [sz2]; exact Nat.lt_succ_self _) hsz
      rcases List.mem_cons.mp hb with z | z
      · rw [z]; exact q3
      · rw [List.mem_singleton.mp z]; exact Nat.lt_trans hal q3
    · intro z
      exact Nat.ne_of_lt hcl (List.mem_singleton.mp z)
    · intro href hhref
      refine ⟨fun A' E' i v s₂ m₂ hA hPv hn hm hk => ?_, fun A' E' i v s₂ m₂ hA hPv hp hn hm hk => ?_⟩
      · obtain ⟨hin, t, rfl⟩ := hval i v hPv
        refine wpAny_tests_one (wpAny_isTrue_Compare1 (load_own rfl S.kind S.loc hn hm hxd (wpAny_Constant_int (ne_int ?_))))
        refine wpAny_truthy_bool ⟨?_, GxR.keeps_tok _ _⟩
        show (ns.getD i 0 != 0) = decide (ns.getD i 0 ≠ 0)
        rw [bne, Bool.beq_eq_decide_eq]
        by_cases z : ns.getD i 0 = 0 <;> simp [z]
      · obtain ⟨hin, t, rfl⟩ := hval i v hPv
        exact load_own rfl S.kind S.loc hn hm hxd ⟨⟨t, rfl⟩, GxR.keeps_refl _⟩
    · intro g h5 tk5 gs hgb hag hsz5 hk5 W5 hat
      refine hQ a ns H1 g _ _ _ _ _ q1 W5.in4_1 hat hat.1.typeIs fun s' hm => ?_
      obtain ⟨more, em⟩ := hmore
      have nwr : ∀ b u, s1.heap.get? b = some u → b ∉ h3.objs.size :: [s1.heap.objs.size] := fun b u e hb => by
        have hl := Heap.lt_size e
        rcases List.mem_cons.mp hb with z | z
        · rw [z] at hl
          have h9 : (h3.objs.size : Nat) < s1.heap.objs.size := hl
          omega
        · rw [List.mem_singleton.mp z] at hl
          exact Nat.lt_irrefl _ hl
      have J := GxR.inv_tab (more := more) (h' := s'.heap) (g' := s'.gens) (d' := s'.drawn) (t' := s'.toks) I1 hP (fun b u hb e => hm.heap b u (nwr b u e) (hk5 b u (keep3 b u hb e)))
        (by rw [← em]; exact hm.heap P _ (nwr P _ hPs) (hk5 P _ hP3)) (AllBare.movedS (I1.bare.push hgb) hm)
      rw [GxR.sh_eta s1 s' hm.os] at J
      exact ⟨upd H1 P (.tbl (ps ++ more)), ⟨⟨ps ++ more, upd_same, by rw [← em]; exact ht3⟩, fun b hb => upd_ne hb⟩, J⟩
  refine ⟨lim2, ?_⟩
  cases hf : codeAmong gpos ps.toList with
  | none =>
    refine wpAny_genexprCodeX hcode (cd.code hP2 ht) (cd.tab hP2) hf fun c' h' tk hx hge hlt hco' _ htab' _ => ?_
    obtain ⟨o1, vs, f1, tf, fl, tg, inF, tx, tt, op, _, _, _, _, _, _, _, _, _, htr, _⟩ := hco'
    exact cont _ h' tk _ hx (Nat.le_trans hge (Nat.le_of_lt hlt)) htab'.2 ⟨_, rfl⟩ htr
  | some cv =>
    refine wpAny_genexprCode_hit hcode (cd.code hP2 ht) hf ?_
    exact cont cv (s1.heap.push ob) s1.toks ps (Heap.ExtBut.refl _ _) (Nat.le_refl _) hP2 ⟨#[], by simp⟩ ht
theorem pe_nextG {c P : Addr} {iter : Expr} {x : Str} {p1 p2 p3 p4 p5 px p pos gpos : Pos} {j j' : Nat} {scope : Scope} {te : TE} {k : Nat}
    (hr : Room k X.A) (hg : Gl X "next") (hm : X.mg "next" = none) (TB : GxR.TabB X.base X.mg c P) (hcode : X.env.code = .ref c) (S : GxR.GenS X.env scope x) (hi : PE X iter te) (hs : ∀ v, genFold iter X.env v = pure v) (hxd : (x == ("__debug__" : Str)) = false := by decide)
    (he : starEach [.GeneratorExp (.Name x p1) [⟨.Name x px, iter, [.Compare (.Name x p2) [.NotEq] [.Constant (.int 0) j p3] p4], 0⟩] scope gpos, .Constant (.int 0) j' p5] X.env =
      (false, eval (.GeneratorExp (.Name x p1) [⟨.Name x px, iter, [.Compare (.Name x p2) [.NotEq] [.Constant (.int 0) j p3] p4], 0⟩] scope gpos) X.env) :: starEach [.Constant (.int 0) j' p5] X.env := by rfl)
    (he2 : starEach [.Constant (.int 0) j' p5] X.env = (false, eval (.Constant (.int 0) j' p5) X.env) :: starEach [] X.env := by rfl) :
    PE X (.Call (.Name "next" p) [.GeneratorExp (.Name x p1) [⟨.Name x px, iter, [.Compare (.Name x p2) [.NotEq] [.Constant (.int 0) j p3] p4], 0⟩] scope gpos, .Constant (.int 0) j' p5] [] pos) (tNextG X.K P te) := by
  refine ⟨fun pins s σ H Q I h => ?_⟩
  refine wpAny_Call_Name_kw (ld_blt (u := .builtin "next") I hg hm (by first | rfl | decide +kernel) ?_ (by decide) (by decide))
  refine PyProof.Rows.callWith_builtin1 ?_ he (by rw [he2]; rfl)
  rw [he, he2]
  show wpAny _ _ (spliced ((false, eval (.GeneratorExp (.Name x p1) [⟨.Name x px, iter, [.Compare (.Name x p2) [.NotEq] [.Constant (.int 0) j p3] p4], 0⟩] scope gpos) X.env) :: backTo pos ((false, eval (.Constant (.int 0) j' p5) X.env) :: starEach [] X.env))) _ _ s
  refine Calls.spliced_cons (gen_list (R := fun a ns H1 => ∀ H2, GxR.Tabbed P H1 H2 → Q (.int ((ns.find? fun x => decide (x ≠ 0)).getD 0)) H2) hr TB hcode S hi hxd hs I h fun a ns H1 g s5 fp wr G St hR W hst hty hI => ?_)
  refine Calls.spliced_cons ?_
  rw [if_neg (by decide)]
  refine wpAny_Constant_int ?_
  refine Calls.spliced_nil ?_
  refine call_nextS W (W.frame 0 s5 s5.heap (s5.toks + 1) hst (Nat.le_succ _) fun _ _ _ e => e) hty fun v s' h1 h0 hm => ?_
  obtain ⟨H2, hT, J⟩ := hI s' ⟨hm.heap, hm.gens, hm.drawn, hm.os, Nat.le_trans (Nat.le_succ _) hm.toks⟩
  refine ⟨.int ((ns.find? fun x => decide (x ≠ 0)).getD 0), H2, J, ?_, hR H2 hT⟩
  rw [← find_passing]
  cases hp : passing (nz ns) ns.length 0 with
  | nil => exact ⟨_, h0 (by rw [hp]; rfl)⟩
  | cons i r =>
    obtain ⟨i', hi', t, e⟩ := h1 (by rw [hp]; exact Nat.succ_pos _)
    rw [hp] at hi'
    have : i = i' := Option.some.inj hi'
    rw [← this] at e
    exact ⟨t, e⟩
end
end W0
/-! ## W1 -/
set_option Elab.async false
set_option linter.all false
set_option maxRecDepth 100000
set_option maxHeartbeats 4000000
namespace W0
open PySem PySem.Spec PyProof.Rows L2
/-! ### enumerate(a tuple) -/
theorem meets_enum1 {v : Value} {o : Obj} {G : Heap → Prop} (B : Begins v o G) :
    Meets (Builtin.«enumerate.__new__» ⟨[.type "enumerate", v], []⟩) (fun _ R s => G s.heap ∧ R (.ok (.ret (.ref (s.heap.push o).objs.size)))
      { s with heap := (s.heap.push o).push { cls := .type "enumerate", data := .fields #[.none, .bool false, .ref s.heap.objs.size, rawInt 0, .none, .none] } }) :=
  .of_wp fun prog w A R s h => by
    obtain ⟨hp, g, d, tk, os⟩ := s
    obtain ⟨h1, h⟩ := h
    have hsub := sub_enumerate
    have q1 : ∀ {A' : Around} {E : Value → Shared → Prop} {Q : Value → Shared → Prop}, Q (.ref hp.objs.size) ⟨hp.push o, g, d, tk, os⟩ → wpAny (model prog w) A' (pyIter v) Q E ⟨hp, g, d, tk, os⟩ := fun q => B.iter prog w _ _ ⟨hp, g, d, tk, os⟩ _ h1 q
    wp_walk using q1
    refine wpAny_stack_any fun st => wpAny_pure ?_
    split
    · rename_i c _ _ _ _ _
      cases (c == Value.type "enumerate") <;> (wp_walk using q1; exact ⟨_, rfl, h⟩)
    · wp_walk using q1
      exact ⟨_, rfl, h⟩
theorem call_enum1 {prog : Program} {w : World} {A : Around} {E : Value → Shared → Prop} {s : Shared} {v : Value} {o : Obj} {G : Heap → Prop} {Q : Value → Shared → Prop} (B : Begins v o G) (h1 : G s.heap)
    (h : ∀ h', IsEnum h' (s.heap.objs.size + 1) s.heap.objs.size 0 .none → h'.get? s.heap.objs.size = some o → h'.objs.size = s.heap.objs.size + 2 → (∀ b o, s.heap.get? b = some o → h'.get? b = some o) → Q (.ref (s.heap.objs.size + 1)) { s with heap := h' }) :
    wpAny (model prog w) A (call (.type "enumerate") [v]) Q E s := by
  refine callType_new F.called_enumerate (by decide) (F.typeCall_enumerate_1 _) (F.newCall_enumerate_1 _) (fun obj => F.args_object_init_2 obj _) F.entry_enumerate_new (meets_enum1 B) ⟨h1, ?_⟩
  generalize hx : ({ cls := .type "enumerate", data := .fields #[.none, .bool false, .ref s.heap.objs.size, rawInt 0, .none, .none] } : Obj) = x
  have hz : (s.heap.push o).objs.size = s.heap.objs.size + 1 := Heap.size_push ..
  have he : ((s.heap.push o).push x).get? (s.heap.push o).objs.size = some x := Heap.get?_push_size _ (by rw [← hx]; rfl)
  show _ ∧ _
  rw [hz] at he ⊢
  have he' : IsEnum ((s.heap.push o).push x) (s.heap.objs.size + 1) s.heap.objs.size 0 .none := by
    rw [hx.symm] at he ⊢
    exact he
  exact ⟨⟨x, he, by rw [← hx]⟩, h _ he' (Heap.get?_push_of_some _ (Heap.get?_push_size _ B.free)) (by rw [Heap.size_push, hz]) fun b o' y => Heap.get?_push_of_some _ (Heap.get?_push_of_some _ y)⟩

/-- the tuple at a, each item in a new pair behind its place -/
def IteT (K : PySem.W.Frag) (a : Addr) : It where
  go := fun i H => ∃ (xs : List V) (x : V), SqT K H a xs ∧ xs[i]? = some x
  yld := fun i H v H' => ∃ T x, v = .ref T ∧ H T = none ∧ H' = upd H T (.tup [.int (i : Nat), x]) ∧ ∀ xs, SqT K H a xs → xs[i]? = some x
  stop := fun i H => ∃ xs : List V, SqT K H a xs ∧ xs.length ≤ i
theorem turn_enumT {P : Program} {w : World} {K : PySem.W.Frag} {elts : List Expr} {kk : Nat} {tpos : Pos} (a e it : Addr) (hai : a ≠ it) :
    Turn P w K (.Tuple elts kk tpos) (IteT K a) [e, it] e (fun i h => (∃ old, IsEnum h e it ((i : Nat) : Int) old) ∧ h.IsTupleIter it a i ∧ e ≠ it) where
  mem := by simp
  obj := fun i h st b hb => by
    obtain ⟨⟨old, he⟩, ⟨o, ho, hc, hd⟩, _⟩ := st
    rcases (by simpa using hb : b = e ∨ b = it) with z | z
    · rw [z]; exact ⟨_, he, fun v q => nomatch q⟩
    · rw [z]; exact ⟨o, ho, fun v q => by rw [hd] at q; cases q⟩
  keep := fun i h h' st k => by
    obtain ⟨⟨old, he⟩, hi, hne⟩ := st
    exact ⟨⟨old, k e (by simp) _ he⟩, hi.at fun o q => k it (by simp) o q, hne⟩
  item := by
    intro X hP hw hK hc i pins s σ H E I hf st hg
    subst hP hw hK
    obtain ⟨⟨old, he⟩, hit, hne⟩ := st
    obtain ⟨xs, x, hq, hx⟩ := hg
    obtain ⟨its, rv, p, hz⟩ := I.tuple hq
    obtain ⟨u, hu, ru⟩ := rv.get hx
    have hel : e < s.heap.objs.size := Heap.lt_size he
    have hil : it < s.heap.objs.size := by obtain ⟨_, q, _⟩ := hit; exact Heap.lt_size q
    have pT : s.heap.IsTuple a its.toArray := p
    have hea : e ≠ a := fun z => by
      obtain ⟨o, ho, hc', _⟩ := pT
      rw [← z] at ho
      have he2 : s.heap.get? e = some _ := he
      rw [he2] at ho
      have hcls : Value.type "enumerate" = Value.type "tuple" := by
        rw [← Option.some.inj ho] at hc'
        exact hc'
      injection hcls with q
      exact absurd q (by decide)
    have hlt : i < its.toArray.size := by
      have := (List.getElem?_eq_some_iff.mp hu).1
      simpa using this
    refine wpAny_pyNext_enum_itemD (Draws.tuple (A := X.A.in1) (I.ok.hd hc) it a hai its.toArray) he ⟨hit, pT⟩ hlt hne (by simp [hne, hea]) fun y h' tk hy ho st' hT hsz hk => ?_
    have hyu : y = u := by
      rw [List.getElem?_toArray, hu] at hy
      exact (Option.some.inj hy).symm
    subst hyu
    refine ⟨_, rfl, wpAny_letOwnedTupleGo_enum (s := { s with heap := h', toks := tk + 1 }) ho fun h'' he' sb => ?_⟩
    have hT2 : h''.get? s.heap.objs.size = some { cls := .type "tuple", data := .seq #[.int i tk, y] } := (sb.2 _ (Nat.ne_of_gt hel)).trans hT
    have new : ObjOk X.prog X.w (upd H s.heap.objs.size (.tup [.int (i : Nat), x])) h'' s.heap.objs.size (.tup [.int (i : Nat), x]) := ⟨by show 2 ≤ sizeLine; decide, [.int i tk, y], .cons ⟨_, rfl⟩ (.cons ru .nil), ⟨_, hT2, rfl, _, rfl⟩⟩
    have I1 : Inv X pins σ (upd H s.heap.objs.size (.tup [.int (i : Nat), x])) { s with heap := h'', toks := tk + 1 } :=
      I.turnedNew (ch := [e, it]) (fun b ob hb q => (sb.2 b (fun z => hb (by simp [z]))).trans (hk b ob (fun z => hb (by simp [z])) (fun z => hb (by simp [z])) q)) hf (Nat.le_refl _) new
    refine ⟨.ref s.heap.objs.size, _, I1, rfl, ⟨_, x, rfl, I.hok.fresh (Nat.le_refl _), rfl, fun ys hy' => by rw [I.tuple_inj hy' hq]; exact hx⟩, ⟨⟨y, ?_⟩, st'.1.at fun o q => (sb.2 it (Ne.symm hne)).trans q, hne⟩, fun b hb => ?_⟩
    · rw [show ((i + 1 : Nat) : Int) = (i : Int) + 1 by omega]
      exact he'
    · have hb' : b < s.heap.objs.size := by
        rcases (by simpa using hb : b = e ∨ b = it) with z | z
        · rw [z]; exact hel
        · rw [z]; exact hil
      rw [upd_ne (Nat.ne_of_lt hb')]
      exact (hf b hb).1
  done := by
    intro X hP hw hK hc i pins s σ H E I hf st hg
    subst hP hw hK
    obtain ⟨⟨old, he⟩, hit, hne⟩ := st
    obtain ⟨xs, hq, hx⟩ := hg
    obtain ⟨its, rv, p, hz⟩ := I.tuple hq
    obtain ⟨f0, f1, f2, f3, f4, f5⟩ := hf it (by simp)
    have hl := rv.length
    have pT : s.heap.IsTuple a its.toArray := p
    have hT : s.TypeIs (.ref e) "enumerate" := ⟨_, he, rfl⟩
    unfold pyNext
    refine wpAny_bind (wpAny_attempt (wpAny_callSpecial?_slot (name := Str.ofString "__next__") hT F.slot_enumerate_next (wpAny_call_entry F.slot_enumerate_next hT F.entry_enumerate_next ?_ (F.args_enumerate_next_1 _))))
    show wpAny _ _ (field (.ref e) 2 >>= _) _ _ _
    refine wpAny_bind (wpAny_field he rfl (x := .ref it) rfl ?_)
    refine wpAny_bind (wpAny_nextOf_tuple_end (I.ok.hd hc) hit pT (by rw [List.getElem?_toArray]; exact List.getElem?_eq_none (by omega)) fun h' x he' hx' => ?_)
    obtain ⟨o, ho, hc'⟩ := hx'
    refine wpAny_bind (wpAny_isInstance (T := "StopIteration") (b := true) ⟨o, ho, hc'⟩ isSubtype_stop ?_)
    exact wpAny_pure ⟨rfl, I.turned (t' := s.toks) (fun b o hb q => he' b o hb q) f0 f1 f3 f4 f5⟩
  self := fun A i s Q E st h => let ⟨⟨_, he⟩, _⟩ := st; wpAny_pyIter_enum he h
def iEnumT (K : PySem.W.Frag) (ta : TA) : TI := fun σ H R => ta σ H fun vs H1 => ∃ a xs, vs = [.ref a] ∧ SqT K H1 a xs ∧ R (IteT K a) H1
theorem pi_enumT {X : Cx} {e : Expr} {ta : TA} {p pos tpos : Pos} {elts : List Expr} {kk : Nat} (hg : Gl X "enumerate") (hm : X.mg "enumerate" = none) (ha : PA X [e] ta) (hs : starEach [e] X.env = [(false, eval e X.env)] := by rfl) :
    PI X (.Tuple elts kk tpos) (.Call (.Name "enumerate" p) [e] [] pos) (iEnumT X.K ta) := by
  refine ⟨fun pins s σ H R I h => ?_⟩
  refine Call_ (ld_blt I hg hm boot_enumerate (PyProof.Rows.callWith_type1 (thn (ha.run pos pins s σ H _ I h) fun us s1 hus => ?_) hs rfl))
  obtain ⟨vs, H1, I1, r1, a, xs, rfl, hq, q⟩ := hus
  obtain ⟨u, rfl, ru⟩ := vals1 r1
  cases ru
  obtain ⟨its, rv, p', hz⟩ := I1.tuple hq
  have pT : s1.heap.IsTuple a its.toArray := p'
  have hal : a < s1.heap.objs.size := p'.lt
  refine call_enum1 (begins_tuple a its.toArray) pT fun h' he hit hsz hk => wpAny_pyIter_enum he ?_
  have I2 : Inv X pins σ H1 { s1 with heap := h' } := I1.kept (t' := s1.toks) hk
  refine ⟨s1.heap.objs.size + 1, [s1.heap.objs.size + 1, s1.heap.objs.size], _, _, H1, rfl, I2, turn_enumT a (s1.heap.objs.size + 1) s1.heap.objs.size (Nat.ne_of_lt hal), ⟨⟨.none, he⟩, ⟨_, hit, rfl, rfl⟩, Nat.succ_ne_self _⟩, fun b hb => ?_, q⟩
  have hle : s1.heap.objs.size ≤ b := by
    rcases (by simpa using hb : b = s1.heap.objs.size + 1 ∨ b = s1.heap.objs.size) with z | z
    · rw [z]; exact Nat.le_succ _
    · rw [z]; exact Nat.le_refl _
  exact I1.fpOk hle (I1.hok.fresh hle)
theorem walk_enumT {K : PySem.W.Frag} {a : Addr} {xs : List V} : Walk (IteT K a) xs.length (fun H => SqT K H a xs) (YPair (fun i => some (.int (i : Nat))) (fun i => xs[i]?)) := by
  refine ⟨fun i _ hi q => ⟨xs, xs[i], q, by simp [hi]⟩, fun _ q => ⟨xs, q, Nat.le_refl _⟩, fun i H v H' _ q y => ?_⟩
  obtain ⟨T, x, h1, h2, h3, h4⟩ := y
  exact ⟨T, .int (i : Nat), x, h1, h2, h3, rfl, h4 xs q⟩
theorem walk_zipT {K : PySem.W.Frag} {a b : Addr} {xs ys : List V} {n : Nat} (hn : n = min xs.length ys.length) : Walk (RZ.ItzT K a b) n (fun H => SqT K H a xs ∧ SqT K H b ys) (YPair (fun i => xs[i]?) (fun i => ys[i]?)) := by
  subst hn
  refine ⟨fun i _ hi q => ?_, fun _ q => ⟨xs, ys, q.1, q.2, by omega⟩, fun i H v H' _ q y => ?_⟩
  · exact ⟨xs, ys, xs[i]'(by omega), ys[i]'(by omega), q.1, q.2, List.getElem?_eq_getElem _, List.getElem?_eq_getElem _⟩
  · obtain ⟨T, x, z, h1, h2, h3, h4, h5⟩ := y
    exact ⟨T, x, z, h1, h2, h3, h4 xs q.1, h5 ys q.2⟩
end W0
/-! ## W2 -/
set_option Elab.async false
set_option linter.all false
set_option maxRecDepth 100000
set_option maxHeartbeats 4000000
namespace W0
open PySem PySem.Spec PyProof.Rows L2
section
variable {X : Cx}
/-! ### max(a tuple of ints) -/
def rMaxT (K : PySem.W.Frag) : List V → Hp → VK → Prop := fun vs H Q => ∃ (a : Addr) (ns : List Int), vs = [V.ref a] ∧ SqT K H a (ns.map V.int) ∧ 0 < ns.length ∧ ∀ m, m ∈ ns → (∀ y, y ∈ ns → y ≤ m) → Q (.int m) H
theorem vals_at {ns : List Int} {us : List Value} (r : Vals (ns.map V.int) us) {i : Nat} {v : Value} (h : us.toArray[i]? = some v) : ∃ t, v = .int (ns.getD i 0) t := by
  rw [List.getElem?_toArray] at h
  have hi := (List.getElem?_eq_some_iff.mp h).1
  have hl := r.length
  rw [List.length_map] at hl
  have hx : (ns.map V.int)[i]? = some (.int (ns.getD i 0)) := by
    rw [List.getElem?_map, List.getElem?_eq_getElem (by omega : i < ns.length), List.getD_eq_getElem?_getD, List.getElem?_eq_getElem (by omega : i < ns.length)]
    rfl
  obtain ⟨u, hu, ru⟩ := r.get hx
  rw [h] at hu
  cases hu
  exact ru
theorem cr_maxT (hc : X.calm = true) : CallR X (.builtin "max") (rMaxT X.K) := by
  intro pins s σ H vs us Q I r h
  obtain ⟨a, ns, rfl, hs, hne, q⟩ := h
  obtain ⟨its, rv, hl, _⟩ := I.tuple hs
  rw [Vals.ref1 r]
  have pT : s.heap.IsTuple a its.toArray := hl
  have hal : a < s.heap.objs.size := hl.lt
  have hlen : its.toArray.size = ns.length := by
    have := rv.length
    simp at this ⊢
    omega
  refine call_max_walk (wpAny_pyIter_tuple pT ?_)
  refine ⟨_, _, _, _, _, _, _, rfl, Walks.tuple (A := X.A.in1) (I.ok.hd hc) s.heap.objs.size a (Nat.ne_of_lt hal) its.toArray, ⟨⟨_, Heap.get?_push_size _ rfl, rfl, rfl⟩, pT.push _⟩, fun b hb => ?_, by rw [hlen]; exact hne,
    CmpOf.ints_gt (fun i => ns.getD i 0) (fun _ _ h => vals_at rv h), fun v h' tk hP hk => ?_⟩
  · show b < (s.heap.push _).objs.size
    rw [Heap.size_push]
    rcases List.mem_cons.mp hb with z | z
    · rw [z]; exact Nat.lt_succ_self _
    · rw [List.mem_singleton.mp z]; exact Nat.lt_succ_of_lt hal
  · obtain ⟨t, rfl⟩ := vals_at rv hP
    obtain ⟨h1, h2⟩ := argBest_gt (fun i => ns.getD i 0) (its.toArray.size - 1)
    have keep : ∀ b o, s.heap.get? b = some o → h'.get? b = some o := fun b o e => hk b o (fun z => by
      rw [List.mem_singleton.mp z] at e
      exact Nat.lt_irrefl _ (Heap.lt_size e)) (Heap.get?_push_of_some _ e)
    refine ⟨.int _, H, I.kept keep, ⟨_, rfl⟩, q _ ?_ fun y hy => ?_⟩
    · have hb : argBest (fun i j => decide (ns.getD i 0 > ns.getD j 0)) (its.toArray.size - 1) < ns.length := by omega
      rw [List.getD_eq_getElem?_getD, List.getElem?_eq_getElem hb]
      exact List.getElem_mem hb
    · obtain ⟨j, hj, rfl⟩ := List.mem_iff_getElem.mp hy
      have := h2 j (by omega)
      rw [List.getD_eq_getElem?_getD, List.getElem?_eq_getElem hj] at this
      exact this

/-! ### t[::-1] of a tuple -/
theorem applied_back {prog : Program} {w : World} {A : Around} {E : Value → Shared → Prop} {s : Shared} {sl : Addr} {n : Nat} {t : Tok} {Q : Int × Int × Nat → Shared → Prop} (hs : s.heap.IsSliceOf sl .none .none (.int (-1) t)) (h : Q ((n : Int) - 1, -1, n) s) :
    wpAny (model prog w) A (Builtin.Slice.sliceApplied (.ref sl) (pure (n : Int))) Q E s := by
  obtain ⟨os, hos, hcs, hds⟩ := id hs
  unfold Builtin.Slice.sliceApplied Builtin.Slice.sliceFields
  refine wpAny_bind (wpAny_bind (wpAny_field hos hds (x := .none) rfl (wpAny_bind (wpAny_field hos hds (x := .none) rfl (wpAny_bind (wpAny_field hos hds (x := .int (-1) t) rfl (wpAny_pure ?_)))))))
  refine wpAny_bind (HT.slicePart_ (.int _ _) ?_)
  show wpAny _ _ (if ((-1 : Int) == 0) = true then _ else _) _ _ s
  rw [if_neg (by decide)]
  refine wpAny_bind (HT.slicePart_ .none (wpAny_bind (HT.slicePart_ .none (wpAny_bind (wpAny_pure ?_)))))
  have e1 : Builtin.Slice.sliceAdjust none none (-1) (n : Int) = ((n : Int) - 1, -1) := by
    unfold Builtin.Slice.sliceAdjust
    simp
  show wpAny _ _ (match Builtin.Slice.sliceAdjust none none (-1) (n : Int) with | (lo, hi) => pure (lo, (-1 : Int), Builtin.Slice.slicePlaces lo hi (-1))) _ _ s
  rw [e1]
  have e2 : Builtin.Slice.slicePlaces ((n : Int) - 1) (-1) (-1) = n := by
    unfold Builtin.Slice.slicePlaces
    simp only [show ¬ ((-1 : Int) > 0) by decide, if_false]
    by_cases c : (n : Int) - 1 > -1
    · rw [if_pos c, show (- -1 : Int) = 1 by decide, Int.ediv_one]; omega
    · rw [if_neg c]; omega
  show wpAny _ _ (pure ((n : Int) - 1, (-1 : Int), Builtin.Slice.slicePlaces ((n : Int) - 1) (-1) (-1))) _ _ s
  rw [e2]
  exact wpAny_pure h
theorem filterMap_same {α β : Type} {f g : α → Option β} : ∀ {l : List α}, (∀ x, x ∈ l → f x = g x) → l.filterMap f = l.filterMap g
  | [], _ => rfl
  | x :: l, h => by
    rw [List.filterMap_cons, List.filterMap_cons, h x (by simp), filterMap_same fun y hy => h y (List.mem_cons_of_mem _ hy)]
theorem pick_back (xs : Array Value) : ((List.range xs.size).filterMap fun (m : Nat) => xs[((xs.size : Int) - 1 + (m : Int) * (-1)).toNat]?).toArray = xs.toList.reverse.toArray := by
  have e2 : (List.range xs.size).filterMap (fun (m : Nat) => xs[((xs.size : Int) - 1 + (m : Int) * (-1)).toNat]?) = (List.range xs.size).filterMap (fun m => xs[xs.size - 1 - m]?) := by
    refine filterMap_same fun m hm => ?_
    have := List.mem_range.mp hm
    rw [show ((xs.size : Int) - 1 + (m : Int) * (-1)).toNat = xs.size - 1 - m by omega]
  have e3 : (List.range xs.size).filterMap (fun m => xs[xs.size - 1 - m]?) = ((List.range xs.size).map fun m => xs.size - 1 - m).filterMap (xs[·]?) := by
    rw [List.filterMap_map]
    rfl
  rw [e2, e3, PySem.W.krv_range, List.filterMap_reverse, PySem.W.krv_all]
theorem getItem_back {prog : Program} {w : World} {A : Around} {E : Value → Shared → Prop} {s : Shared} {t sl : Addr} {items : Array Value} {tk : Tok} {Q : Value → Shared → Prop} (ht : IsTup s.heap t items) (hs : s.heap.IsSliceOf sl .none .none (.int (-1) tk))
    (h : Q (.ref s.heap.objs.size) { s with heap := s.heap.push { cls := .type "tuple", data := .seq items.toList.reverse.toArray } }) (hsz : items.size ≤ sizeLine) : wpAny (model prog w) A (getItem (.ref t) (.ref sl)) Q E s := by
  have hso : sizeOk (.seq items.toList.reverse.toArray) := by
    show items.toList.reverse.toArray.size ≤ sizeLine
    rw [List.size_toArray, List.length_reverse, Array.length_toList]
    exact hsz
  obtain ⟨os, hos, hcs, hds⟩ := id hs
  have hTs : s.TypeIs (.ref sl) "slice" := ⟨os, hos, hcs⟩
  unfold getItem
  try with_reducible refine wpAny_holding ?_
  first | refine wpAny_bind (wpAny_pure ?_) | skip
  refine wpAny_bind (wpAny_sequenceKey ht.typeIs (by decide) ?_)
  refine wpAny_bind (wpAny_callSpecial?_slot (name := Str.ofString "__getitem__") ht.typeIs PyProof.Rows.slot_tuple_getitem (wpAny_call_entry PyProof.Rows.slot_tuple_getitem ht.typeIs entry_tuple_getitem ?_ (args_tuple_getitem _ _)))
  show wpAny _ _ (Builtin.Tuple.tupleItemsOf (.ref t) >>= _) _ _ s
  refine wpAny_bind (tupleItemsOf_ ht ?_)
  refine wpAny_bind (wpAny_typeOf hTs ?_)
  rw [if_pos (by decide)]
  refine wpAny_bind (applied_back hs ?_)
  have hno : ¬ (((((items.size : Int) - 1) == 0 && (-1 : Int) == 1) && items.size == items.size) = true) := by simp
  show wpAny _ _ (if ((((items.size : Int) - 1) == 0 && (-1 : Int) == 1) && items.size == items.size) = true then _ else _) _ _ s
  rw [if_neg hno, pick_back]
  first
    | exact wpAny_bind (m := Builtin.Tuple.tupleExact _) (wpAny_newObj_type (wpAny_pure ⟨_, rfl, wpAny_pure h⟩) hso)
    | exact wpAny_bind (m := Builtin.Tuple.tupleExact _) (wpAny_newObj_type (wpAny_bind (wpAny_pure (wpAny_pure ⟨_, rfl, wpAny_pure h⟩))) hso)
    | exact wpAny_bind (wpAny_bind (m := Builtin.Tuple.tupleExact _) (wpAny_newObj_type (wpAny_pure (wpAny_pure ⟨_, rfl, wpAny_pure h⟩)) hso))
    | exact wpAny_bind (wpAny_bind (m := Builtin.Tuple.tupleExact _) (wpAny_newObj_type (wpAny_pure ⟨_, rfl, wpAny_pure h⟩) hso))
def tRevT (K : PySem.W.Frag) (te : TE) : TE := fun σ H Q => te σ H fun x H1 => ∃ a xs, x = .ref a ∧ SqT K H1 a xs ∧ ∀ p, H1 p = none → Q (.ref p) (upd H1 p (.tup xs.reverse))
theorem pe_revT {e : Expr} {te : TE} {k : Nat} {p1 p2 p3 pos : Pos} (he : PE X e te) : PE X (.Subscript e (.Slice none none (some (.UnaryOp .USub (.Constant (.int 1) k p1) p2)) p3) pos) (tRevT X.K te) := by
  refine ⟨fun pins s σ H Q I h => ?_⟩
  refine Subscript_ (thn (he.run pins s σ H _ I h) fun v s1 hv => ?_)
  obtain ⟨x, H1, I1, r1, a, xs, rfl, hx, q⟩ := hv
  cases r1
  have hst : PO X (some (.UnaryOp .USub (.Constant (.int 1) k p1) p2)) (tPart (tUn (rU fun i => .int (-i)) (tC (.int 1)))) := po_some (pe_un un_neg pe_int)
  refine wpAny_Slice (thn (po_none.run pins s1 σ H1 (fun o H2 => o = none ∧ H2 = H1) I1 ⟨rfl, rfl⟩) fun vl s2 hl => ?_)
  obtain ⟨l, H2, I2, pl, rfl, rfl⟩ := hl
  refine thn (po_none.run pins s2 σ H2 (fun o H3 => o = none ∧ H3 = H2) I2 ⟨rfl, rfl⟩) fun vu s3 hu => ?_
  obtain ⟨u, H3, I3, pu, rfl, rfl⟩ := hu
  refine thn (hst.run pins s3 σ H3 (fun o H4 => o = some (-1) ∧ H4 = H3) I3 ⟨1, rfl, -1, rfl, rfl, rfl⟩) fun vs s4 hs => ?_
  obtain ⟨o, H4, I4, ps, rfl, rfl⟩ := hs
  cases pl
  cases pu
  cases ps with
  | int _ tk =>
    have I5 : Inv X pins σ H4 { s4 with heap := s4.heap.push { cls := .type "slice", data := .fields #[.none, .none, .int (-1) tk] } } := I4.kept (t' := s4.toks) fun b ob q => Heap.get?_push_of_some _ q
    obtain ⟨its, r, ht, hz⟩ := I5.tuple hx
    have hlen := r.length
    show wpAny (model X.prog X.w) X.A (subscriptTail e (.Slice none none (some (.UnaryOp .USub (.Constant (.int 1) k p1) p2)) p3) (.ref a) (.ref s4.heap.objs.size)) (EP X pins σ Q) X.xe { s4 with heap := s4.heap.push { cls := .type "slice", data := .fields #[.none, .none, .int (-1) tk] } }
    refine tail_any (ops := [.ref a, .ref s4.heap.objs.size]) ht.typeIs PyProof.Rows.slot_tuple_getitem.lookup ?_ (by with_unfolding_all rfl)
    refine getItem_back ht (Heap.IsSliceOf.new _ .none .none (.int (-1) tk)) ?_ (by rw [List.size_toArray]; omega)
    refine ⟨.ref _, _, I5.laid (t' := s4.toks) (o := .tup xs.reverse) (fun b ob q => Heap.get?_push_of_some _ q) (Nat.le_refl _) ?_, rfl, q _ (I5.hok.fresh (Nat.le_refl _))⟩
    exact ⟨by rw [List.length_reverse]; exact hz, its.reverse, r.reverse, IsTup.new _ _⟩
end
end W0
/-! ## W3 -/
set_option Elab.async false
set_option linter.all false
set_option maxRecDepth 100000
set_option maxHeartbeats 4000000
namespace W0
open PySem PySem.Spec PyProof.Rows L2

/-! ### what a piece of code leaves: all that was tracked but the object at d; tables may grow -/
structure Kp (d : Option Addr) (H H' : Hp) : Prop where
  keep : ∀ a o, d ≠ some a → H a = some o → (∀ ps, o ≠ .tbl ps) → H' a = some o
  tab : ∀ a, d ≠ some a → GxR.TabG H a → GxR.TabG H' a
  fr : ∀ a, H' a = none → H a = none
theorem Kp.refl {d : Option Addr} {H : Hp} : Kp d H H := ⟨fun _ _ _ h _ => h, fun _ _ h => h, fun _ h => h⟩
theorem Kp.trans {d : Option Addr} {H H1 H2 : Hp} (a : Kp d H H1) (b : Kp d H1 H2) : Kp d H H2 :=
  ⟨fun x o hd h hn => b.keep x o hd (a.keep x o hd h hn) hn, fun x hd h => b.tab x hd (a.tab x hd h), fun x h => a.fr x (b.fr x h)⟩
theorem Kp.any {d : Option Addr} {H H1 : Hp} (a : Kp none H H1) : Kp d H H1 :=
  ⟨fun x o _ h hn => a.keep x o (by simp) h hn, fun x _ h => a.tab x (by simp) h, a.fr⟩
theorem Kp.mut {d : Option Addr} {H H1 : Hp} {p : Addr} {o : HO} (a : Kp d H H1) (h : H p = none) : Kp d H (upd H1 p o) := by
  refine ⟨fun x u hd hx hn => ?_, fun x hd hx => ?_, fun x hx => ?_⟩
  · rw [upd_ne (ne_of_none hx h)]; exact a.keep x u hd hx hn
  · obtain ⟨ps, e, t⟩ := hx
    obtain ⟨ps', e', t'⟩ := a.tab x hd ⟨ps, e, t⟩
    exact ⟨ps', by rw [upd_ne (ne_of_none e h)]; exact e', t'⟩
  · by_cases z : x = p
    · subst z; rw [upd_same] at hx; cases hx
    · rw [upd_ne z] at hx; exact a.fr x hx
theorem Kp.new {d : Option Addr} {H : Hp} {p : Addr} {o : HO} (h : H p = none) : Kp d H (upd H p o) := Kp.refl.mut h
theorem Kp.at {H H1 : Hp} {p : Addr} {o : HO} (a : Kp (some p) H H1) (h : H p ≠ none) : Kp (some p) H (upd H1 p o) := by
  refine ⟨fun x u hd hx hn => ?_, fun x hd hx => ?_, fun x hx => ?_⟩
  · rw [upd_ne (fun z => hd (by rw [z]))]; exact a.keep x u hd hx hn
  · obtain ⟨ps', e', t'⟩ := a.tab x hd hx
    exact ⟨ps', by rw [upd_ne (fun z => hd (by rw [z]))]; exact e', t'⟩
  · by_cases z : x = p
    · subst z; rw [upd_same] at hx; cases hx
    · rw [upd_ne z] at hx; exact a.fr x hx
theorem Kp.both {d : Option Addr} {H H1 : Hp} {p : Addr} {o : HO} (a : Kp d H H1) : Kp d (upd H p o) (upd H1 p o) := by
  refine ⟨fun x u hd hx hn => ?_, fun x hd hx => ?_, fun x hx => ?_⟩
  · by_cases z : x = p
    · subst z; rw [upd_same] at hx ⊢; exact hx
    · rw [upd_ne z] at hx ⊢; exact a.keep x u hd hx hn
  · obtain ⟨ps, e, t⟩ := hx
    by_cases z : x = p
    · subst z; rw [upd_same] at e; exact ⟨ps, by rw [upd_same]; exact e, t⟩
    · rw [upd_ne z] at e
      obtain ⟨ps', e', t'⟩ := a.tab x hd ⟨ps, e, t⟩
      exact ⟨ps', by rw [upd_ne z]; exact e', t'⟩
  · by_cases z : x = p
    · subst z; rw [upd_same] at hx; cases hx
    · rw [upd_ne z] at hx ⊢; exact a.fr x hx
theorem Kp.l {d : Option Addr} {H H1 : Hp} {p : Addr} {xs : List V} (a : Kp d H H1) (h : H p = some (.lst xs)) (hd : d ≠ some p := by simp) : H1 p = some (.lst xs) := a.keep p _ hd h fun _ z => by cases z
theorem Kp.t {d : Option Addr} {H H1 : Hp} {p : Addr} {xs : List V} (a : Kp d H H1) (h : H p = some (.tup xs)) (hd : d ≠ some p := by simp) : H1 p = some (.tup xs) := a.keep p _ hd h fun _ z => by cases z
theorem Kp.tabbed {P : Addr} {H H1 : Hp} (h : GxR.TabG H P) (q : GxR.Tabbed P H H1) : Kp none H H1 := by
  obtain ⟨tb, ne⟩ := q
  refine ⟨fun x o _ hx hn => ?_, fun x _ hx => ?_, fun x hx => ?_⟩
  · have : x ≠ P := fun z => by
      subst z
      obtain ⟨ps, e, _⟩ := h
      rw [e] at hx
      cases hx
      exact hn ps rfl
    rw [ne x this]; exact hx
  · by_cases z : x = P
    · subst z; exact tb
    · obtain ⟨ps, e, t⟩ := hx
      exact ⟨ps, by rw [ne x z]; exact e, t⟩
  · by_cases z : x = P
    · subst z
      obtain ⟨ps, e, t⟩ := tb
      rw [e] at hx; cases hx
    · rw [← ne x z]; exact hx
/-- the wanted end of a promise: all is left but d, and R of the value and the heap -/
def Ret (d : Option Addr) (R : V → Hp → Prop) (H : Hp) (Q : VK) : Prop := ∀ v H', Kp d H H' → R v H' → Q v H'
abbrev iz (ns : List Int) : List V := ns.map V.int
def TabL (H : Hp) (ps : List Addr) (rs : List (List Int)) : Prop := ps.length = rs.length ∧ ∀ (i : Nat) (p : Addr) (r : List Int), ps[i]? = some p → rs[i]? = some r → H p = some (.lst (iz r))
def TabT (H : Hp) (ps : List Addr) (rs : List (List Int)) : Prop := ps.length = rs.length ∧ ∀ (i : Nat) (p : Addr) (r : List Int), ps[i]? = some p → rs[i]? = some r → H p = some (.tup (iz r))
theorem TabL.keep {d : Option Addr} {H H1 : Hp} {ps : List Addr} {rs : List (List Int)} (t : TabL H ps rs) (k : Kp d H H1) (hd : ∀ p ∈ ps, d ≠ some p := by simp) : TabL H1 ps rs :=
  ⟨t.1, fun i p r hp hr => k.l (t.2 i p r hp hr) (hd p (List.mem_of_getElem? hp))⟩
theorem TabT.keep {d : Option Addr} {H H1 : Hp} {ps : List Addr} {rs : List (List Int)} (t : TabT H ps rs) (k : Kp d H H1) (hd : ∀ p ∈ ps, d ≠ some p := by simp) : TabT H1 ps rs :=
  ⟨t.1, fun i p r hp hr => k.t (t.2 i p r hp hr) (hd p (List.mem_of_getElem? hp))⟩
theorem TabL.get {H : Hp} {ps : List Addr} {rs : List (List Int)} (t : TabL H ps rs) {i : Nat} {p : Addr} (h : ps[i]? = some p) : ∃ r, rs[i]? = some r ∧ H p = some (.lst (iz r)) := by
  have hi := (List.getElem?_eq_some_iff.mp h).1
  have hi2 : i < rs.length := by have := t.1; omega
  exact ⟨rs[i], List.getElem?_eq_getElem hi2, t.2 i p _ h (List.getElem?_eq_getElem hi2)⟩
theorem TabT.get {H : Hp} {ps : List Addr} {rs : List (List Int)} (t : TabT H ps rs) {i : Nat} {p : Addr} (h : ps[i]? = some p) : ∃ r, rs[i]? = some r ∧ H p = some (.tup (iz r)) := by
  have hi := (List.getElem?_eq_some_iff.mp h).1
  have hi2 : i < rs.length := by have := t.1; omega
  exact ⟨rs[i], List.getElem?_eq_getElem hi2, t.2 i p _ h (List.getElem?_eq_getElem hi2)⟩
theorem ints_get {ns : List Int} {i : Nat} {x : V} (h : (iz ns)[i]? = some x) : ∃ n, ns[i]? = some n ∧ x = .int n := by
  rw [List.getElem?_map] at h
  cases e : ns[i]? with
  | none => rw [e] at h; cases h
  | some n => rw [e] at h; cases h; exact ⟨n, rfl, rfl⟩
theorem refs_get {ps : List Addr} {i : Nat} {x : V} (h : (ps.map V.ref)[i]? = some x) : ∃ p, ps[i]? = some p ∧ x = .ref p := by
  rw [List.getElem?_map] at h
  cases e : ps[i]? with
  | none => rw [e] at h; cases h
  | some n => rw [e] at h; cases h; exact ⟨n, rfl, rfl⟩
theorem ints_of {ys : List V} {f : Nat → Int} {n : Nat} (hl : ys.length = n) (h : ∀ (i : Nat) (y : V), ys[i]? = some y → y = .int (f i)) : ys = iz ((List.range n).map f) := by
  subst hl
  refine List.ext_getElem (by simp) fun i h1 h2 => ?_
  simp only [List.getElem_map, List.getElem_range]
  exact h i _ (List.getElem?_eq_getElem h1)
theorem refs_of {ys : List V} (h : ∀ (i : Nat) (y : V), ys[i]? = some y → ∃ p, y = .ref p) : ∃ ps : List Addr, ys = ps.map V.ref := by
  induction ys with
  | nil => exact ⟨[], rfl⟩
  | cons y ys ih =>
    obtain ⟨p, rfl⟩ := h 0 y (by simp)
    obtain ⟨ps, rfl⟩ := ih fun i y hy => h (i + 1) y (by simpa using hy)
    exact ⟨p :: ps, rfl⟩
theorem sz_le {n : Nat} (h : n ≤ 1000000) : n ≤ sizeLine := by rw [sizeLine_eq]; omega
theorem sz_lt {n : Nat} (h : n < 1000000) : n < sizeLine := by rw [sizeLine_eq]; omega
theorem atI_of {α : Type} {xs : List α} {i : Nat} {x : α} (h : xs[i]? = some x) : atI xs (i : Int) = some x := by
  exact atI_nat h

/-! ### walks -/
section
variable {d : Option Addr} {H1 : Hp} {K : PySem.W.Frag} {a b : Addr} {xs ys : List V}
theorem wk_list (h : H1 a = some (.lst xs)) (hd : d ≠ some a := by simp) : Walk (Itl K a) xs.length (fun H => Kp d H1 H) (YAt xs) := walk_list.mono (fun _ k => SqL.of (k.l h hd)) fun _ _ _ _ _ _ y => y
theorem wk_tup (h : H1 a = some (.tup xs)) (hd : d ≠ some a := by simp) : Walk (Itt K a) xs.length (fun H => Kp d H1 H) (YAt xs) := walk_tup.mono (fun _ k => SqT.of (k.t h hd)) fun _ _ _ _ _ _ y => y
theorem wk_range {lo : Int} {n : Nat} : Walk (Itr lo n) n (fun H => Kp d H1 H) (YFn fun i => .int (lo + i)) := walk_range.mono (fun _ _ => trivial) fun _ _ _ _ _ _ y => y
theorem wk_enum (h : H1 a = some (.lst xs)) (hd : d ≠ some a := by simp) : Walk (Ite K a) xs.length (fun H => Kp d H1 H) (YPair (fun i => some (.int (i : Nat))) (fun i => xs[i]?)) := walk_enum.mono (fun _ k => SqL.of (k.l h hd)) fun _ _ _ _ _ _ y => y
theorem wk_enumT (h : H1 a = some (.tup xs)) (hd : d ≠ some a := by simp) : Walk (IteT K a) xs.length (fun H => Kp d H1 H) (YPair (fun i => some (.int (i : Nat))) (fun i => xs[i]?)) := walk_enumT.mono (fun _ k => SqT.of (k.t h hd)) fun _ _ _ _ _ _ y => y
theorem wk_zip (h : H1 a = some (.lst xs)) (h' : H1 b = some (.lst ys)) (hd : d ≠ some a := by simp) (hd' : d ≠ some b := by simp) : Walk (Itz K a b) (min xs.length ys.length) (fun H => Kp d H1 H) (YPair (fun i => xs[i]?) (fun i => ys[i]?)) := (walk_zip rfl).mono (fun _ k => ⟨SqL.of (k.l h hd), SqL.of (k.l h' hd')⟩) fun _ _ _ _ _ _ y => y
theorem wk_zipT (h : H1 a = some (.tup xs)) (h' : H1 b = some (.tup ys)) (hd : d ≠ some a := by simp) (hd' : d ≠ some b := by simp) : Walk (RZ.ItzT K a b) (min xs.length ys.length) (fun H => Kp d H1 H) (YPair (fun i => xs[i]?) (fun i => ys[i]?)) := (walk_zipT rfl).mono (fun _ k => ⟨SqT.of (k.t h hd), SqT.of (k.t h' hd')⟩) fun _ _ _ _ _ _ y => y
end

/-! ### comprehensions -/
theorem set_none_none {σ : L2.St} {i : Nat} {x : Option V} : (σ.set i x).set i none = σ.set i none := by rw [List.set_set]
theorem wipe_set {σ : L2.St} {i : Nat} {x : Option V} : ∀ {vs : List Nat}, i ∈ vs → wipe (σ.set i x) vs = wipe σ vs
  | [], h => by cases h
  | v :: vs, h => by
    unfold wipe
    by_cases hv : i ∈ vs
    · rw [wipe_set hv]
    · have e : i = v := by
        rcases List.mem_cons.mp h with z | z
        · exact z
        · exact absurd z hv
      subst e
      have q : ∀ {us : List Nat} {τ : L2.St}, i ∉ us → wipe (τ.set i x) us = (wipe τ us).set i x := by
        intro us
        induction us with
        | nil => intro τ _; rfl
        | cons u us ih =>
          intro τ hn
          unfold wipe
          rw [ih fun z => hn (List.mem_cons_of_mem _ z), List.set_comm _ _ (fun z => hn (by rw [z]; exact List.mem_cons_self))]
      rw [q hv, List.set_set]
theorem wipe_at {σ : L2.St} : ∀ {us : List Nat} {v : Nat}, v ∈ us → (wipe σ us).set v none = wipe σ us
  | [], _, h => by cases h
  | u :: us, v, h => by
    unfold wipe
    by_cases e : v = u
    · subst e; rw [List.set_set]
    · have h2 : v ∈ us := by
        rcases List.mem_cons.mp h with z | z
        · exact absurd z e
        · exact z
      rw [List.set_comm _ _ (fun z => e z.symm), wipe_at h2]
theorem wipe_sub {σ : L2.St} {us : List Nat} : ∀ {vs : List Nat}, (∀ v ∈ vs, v ∈ us) → wipe (wipe σ us) vs = wipe σ us
  | [], _ => rfl
  | v :: vs, h => by
    show (wipe (wipe σ us) vs).set v none = wipe σ us
    rw [wipe_sub fun u hu => h u (List.mem_cons_of_mem _ hu), wipe_at (h v List.mem_cons_self)]
theorem wipe1 {σ : L2.St} {i : Nat} {x : Option V} {vs : List Nat} (h : i ∈ vs := by decide) : wipe ((wipe σ vs).set i x) vs = wipe σ vs := by rw [wipe_set h, wipe_sub fun _ z => z]
theorem wipe2 {σ : L2.St} {i j : Nat} {x y : Option V} {vs : List Nat} (h : i ∈ vs := by decide) (h' : j ∈ vs := by decide) : wipe (((wipe σ vs).set i x).set j y) vs = wipe σ vs := by rw [wipe_set h', wipe1 h]
section
variable {J : It} {n : Nat} {d : Option Addr} {H1 : Hp} {Y : Nat → Hp → V → Hp → Prop} {g : TG} {te : TE} {vs : List Nat} {σ : L2.St} {D : Addr} {Qd : Hp → Prop}
theorem lc_map (w : Walk J n (fun H => Kp d H1 H) Y) (hD : H1 D = none) (hdd : ∀ a, d = some a → H1 a ≠ none) (hn : n ≤ 100000) (S : Nat → Hp → Prop) (Z : Nat → V → Hp → Prop)
    (hS0 : S 0 (upd H1 D (.lst []))) (hSk : ∀ i H o, S i H → S i (upd H D o)) (hZ : ∀ i v H H', Kp d H H' → Z i v H → Z i v H')
    (hs : ∀ i x H H', i < n → Kp d H1 H → S i H → (∃ acc, H D = some (.lst acc)) → Y i H x H' → ∀ R : VK, (∀ y H4, Kp d H H4 → S (i + 1) H4 → (∀ o, Z i y (upd H4 D o)) → R y H4) → g x (wipe σ vs) H' fun σ2 H2 => wipe σ2 vs = wipe σ vs ∧ te σ2 H2 R)
    (hd : ∀ H ys, Kp d H1 H → S n H → H D = some (.lst ys) → ys.length = n → (∀ (i : Nat) (y : V), ys[i]? = some y → Z i y H) → Qd H) :
    ∃ W : Nat → Nat → Hp → Prop, (∃ m, W 0 m (upd H1 D (.lst []))) ∧ ∀ i m H, W i m H →
      (J.stop i H ∧ Qd H) ∨ (J.go i H ∧ ∃ Nx : Hp → Prop, (∀ H', Nx H' → ∃ m', m' < m ∧ W (i + 1) m' H') ∧ ∀ x H', J.yld i H x H' → g x (wipe σ vs) H' fun σ2 H2 => wipe σ2 vs = wipe σ vs ∧ tYes σ2 H2 fun b H3 =>
        if b = true then te σ2 H3 fun y H4 => ∃ acc, H4 D = some (.lst acc) ∧ acc.length < sizeLine ∧ Nx (upd H4 D (.lst (acc ++ [y]))) else Nx H3) := by
  have nd : d ≠ some D := fun z => hdd D z hD
  refine ⟨fun i m H => m = n - i ∧ i ≤ n ∧ Kp d H1 H ∧ S i H ∧ ∃ ys, H D = some (.lst ys) ∧ ys.length = i ∧ ∀ (j : Nat) (y : V), ys[j]? = some y → ∀ o, Z j y (upd H D o), ⟨n, by simp, Nat.zero_le _, Kp.new hD, hS0, [], upd_same, rfl, fun j y h => by simp at h⟩, ?_⟩
  rintro i m H ⟨rfl, hi, k, s, ys, e, hl, hz⟩
  by_cases hlt : i < n
  · refine .inr ⟨w.goes i H hlt k, fun H' => Kp d H1 H' ∧ S (i + 1) H' ∧ ∃ ys, H' D = some (.lst ys) ∧ ys.length = i + 1 ∧ ∀ (j : Nat) (y : V), ys[j]? = some y → ∀ o, Z j y (upd H' D o), fun H' p => ⟨n - (i + 1), by omega, rfl, hlt, p⟩, fun x H' y => ?_⟩
    refine hs i x H H' hlt k s ⟨ys, e⟩ (w.yields i H x H' hlt k y) _ fun y H4 k4 s4 z4 => ?_
    refine ⟨ys, k4.l e nd, sz_lt (by omega), (k.trans k4).mut hD, hSk _ _ _ s4, ys ++ [y], upd_same, by simp [hl], fun j v hj o => ?_⟩
    rw [upd_upd]
    rcases Nat.lt_or_ge j ys.length with q | q
    · rw [List.getElem?_append_left q] at hj
      have z5 := hZ j v _ (upd H4 D o) k4.both (hz j v hj o)
      exact z5
    · rw [List.getElem?_append_right q] at hj
      have e0 : j - ys.length = 0 := by
        have := (List.getElem?_eq_some_iff.mp hj).1
        simp at this
        omega
      rw [e0] at hj
      have ej : j = i := by omega
      subst ej
      cases hj
      exact z4 o
  · have ei : i = n := by omega
    subst ei
    refine .inl ⟨w.stops H k, hd H ys k s e hl fun j y hj => ?_⟩
    have := hz j y hj (.lst ys)
    rw [show upd H D (.lst ys) = H from by
      funext b
      unfold upd
      split
      · rename_i q; rw [q]; exact e.symm
      · rfl] at this
    exact this
/-- with a test: iz -/
def pick (n : Nat) (f : Nat → Bool) (v : Nat → Int) : List Int := ((List.range n).filter f).map v
theorem pick_yes {n : Nat} {f : Nat → Bool} {v : Nat → Int} (h : f n = true) : pick (n + 1) f v = pick n f v ++ [v n] := by
  unfold pick
  rw [List.range_succ, List.filter_append, List.map_append, List.filter_cons, if_pos h]
  rfl
theorem pick_no {n : Nat} {f : Nat → Bool} {v : Nat → Int} (h : f n = false) : pick (n + 1) f v = pick n f v := by
  unfold pick
  rw [List.range_succ, List.filter_append, List.map_append, List.filter_cons, if_neg (by rw [h]; decide)]
  simp
theorem pick_len (n : Nat) (f : Nat → Bool) (v : Nat → Int) : (pick n f v).length ≤ n := by
  unfold pick
  rw [List.length_map]
  have h := List.length_filter_le f (List.range n)
  rw [List.length_range] at h
  exact h
theorem lc_filter {tt : TT} (w : Walk J n (fun H => Kp d H1 H) Y) (hD : H1 D = none) (hdd : ∀ a, d = some a → H1 a ≠ none) (hn : n ≤ 100000) (f : Nat → Bool) (v : Nat → Int)
    (hs : ∀ i x H H', i < n → Kp d H1 H → Y i H x H' → ∀ (KK : VK) (NN : Hp → Prop), (∀ H4, Kp d H H4 → f i = true → KK (.int (v i)) H4) → (∀ H3, Kp d H H3 → f i = false → NN H3) →
      g x (wipe σ vs) H' fun σ2 H2 => wipe σ2 vs = wipe σ vs ∧ tt σ2 H2 fun b H3 => if b = true then te σ2 H3 KK else NN H3)
    (hd : ∀ H, Kp d H1 H → H D = some (.lst (iz (pick n f v))) → Qd H) :
    ∃ W : Nat → Nat → Hp → Prop, (∃ m, W 0 m (upd H1 D (.lst []))) ∧ ∀ i m H, W i m H →
      (J.stop i H ∧ Qd H) ∨ (J.go i H ∧ ∃ Nx : Hp → Prop, (∀ H', Nx H' → ∃ m', m' < m ∧ W (i + 1) m' H') ∧ ∀ x H', J.yld i H x H' → g x (wipe σ vs) H' fun σ2 H2 => wipe σ2 vs = wipe σ vs ∧ tt σ2 H2 fun b H3 =>
        if b = true then te σ2 H3 fun y H4 => ∃ acc, H4 D = some (.lst acc) ∧ acc.length < sizeLine ∧ Nx (upd H4 D (.lst (acc ++ [y]))) else Nx H3) := by
  have nd : d ≠ some D := fun z => hdd D z hD
  refine ⟨fun i m H => m = n - i ∧ i ≤ n ∧ Kp d H1 H ∧ H D = some (.lst (iz (pick i f v))), ⟨n, by simp, Nat.zero_le _, Kp.new hD, by rw [upd_same]; rfl⟩, ?_⟩
  rintro i m H ⟨rfl, hi, k, e⟩
  by_cases hlt : i < n
  · refine .inr ⟨w.goes i H hlt k, fun H' => Kp d H1 H' ∧ H' D = some (.lst (iz (pick (i + 1) f v))), fun H' p => ⟨n - (i + 1), by omega, rfl, hlt, p⟩, fun x H' y => ?_⟩
    refine hs i x H H' hlt k (w.yields i H x H' hlt k y) _ _ (fun H4 k4 hf => ?_) fun H3 k3 hf => ?_
    · refine ⟨iz (pick i f v), k4.l e nd, sz_lt (by have := pick_len i f v; simp; omega), (k.trans k4).mut hD, ?_⟩
      rw [upd_same, pick_yes hf]
      simp [iz]
    · exact ⟨k.trans k3, by rw [pick_no hf]; exact k3.l e nd⟩
  · have ei : i = n := by omega
    subst ei
    exact .inl ⟨w.stops H k, hd H k e⟩
end
end W0
/-! ## W4 -/
set_option Elab.async false
set_option linter.all false
set_option maxRecDepth 100000
set_option maxHeartbeats 4000000
namespace W0
open PySem PySem.Spec PyProof.Rows L2
def top (i : Nat) : Stmt := PySem.Challenge.pw_sourceforms_k64_whole_ranks_and_killers.main.body.getD i (.Pass ⟨0, 0, 0, 0⟩)
theorem ifT {b : Bool} {p q : Prop} (h : b = true) (x : p) : if b = true then p else q := by rw [if_pos h]; exact x
theorem ifF {b : Bool} {p q : Prop} (h : b = false) (x : q) : if b = true then p else q := by rw [h, if_neg (by decide)]; exact x
theorem ifTp {c p q : Prop} [Decidable c] (h : c) (x : p) : if c then p else q := by rw [if_pos h]; exact x
theorem ifFp {c p q : Prop} [Decidable c] (h : ¬ c) (x : q) : if c then p else q := by rw [if_neg h]; exact x
theorem eqT {i j : Int} (h : i = j) : decide (V.int i = V.int j) = true := decide_eq_true (by rw [h])
theorem eqF {i j : Int} (h : i ≠ j) : decide (V.int i = V.int j) = false := decide_eq_false fun z => h (by injection z)
/-- what the names that are not the program's own stand for -/
structure Bt (mg : Str → Option Value) : Prop where
  len : mg "len" = none
  range : mg "range" = none
  enumerate : mg "enumerate" = none
  zip : mg "zip" = none
  list : mg "list" = none
  tuple : mg "tuple" = none
  int : mg "int" = none
  bool : mg "bool" = none
  abs : mg "abs" = none
  max : mg "max" = none
  min : mg "min" = none
  isinstance : mg "isinstance" = none
  next : mg "next" = none
  iter : mg "iter" = none
  all : mg "all" = none
  gcd : mg "gcd" = some (.builtin "math.gcd")
  cGREATEST : ∃ t, mg "GREATEST" = some (.int (10 ^ 60) t)
  cMAX_DEGREE : ∃ t, mg "MAX_DEGREE" = some (.int 40 t)
/-- a def of the module -/
structure Dd (K : PySem.W.Frag) (mg : Str → Option Value) (x : Str) (st : Stmt) : Prop where
  ex : ∃ (fd : FuncData), FunD K x x (defArgs st) (defBody st) (defScope st) [] [] (He.fAd K (x, none)) fd ∧ mg x = some (.ref (He.fAd K (x, none)))
/-- the promise of a def, by its name -/
structure Cal (P : Program) (w : World) (K : PySem.W.Frag) (mg : Str → Option Value) (base : Heap) (k : Nat) (x : Str) (sp : Sp) : Prop where
  ex : ∃ (f : Addr) (fd : FuncData) (ps : List Str), FnOk P w K mg base CX0 k f fd ps sp ∧ mg x = some (.ref f) ∧ PySem.W.keepIn K (.ref f) = true ∧ Binds K fd ps []
section
variable {P : Program} {w : World} {K : PySem.W.Frag} {mg : Str → Option Value} {base : Heap}
theorem Dd.cal {x : Str} {st : Stmt} {N ps : List Str} {k : Nat} {sp : Sp} (D : Dd K mg x st) (S : FnScope N ps (defScope st))
    (hb : ∀ (kV doc pm : Value) (an : Option Addr) (cdv ct : Value) (us : List Value), us.length = ps.length → bindArgs (PySem.W.fnOf x x (defArgs st) (defBody st) (defScope st) .none kV doc pm an cdv ct) ⟨us, []⟩ = pure (ps.zip us))
    (len : ∀ vs H Q E, sp vs H Q E → vs.length = ps.length)
    (hbody : ∀ (f : Addr) (cdv : Value) (A : Around) (outer : List Env) (s : Shared) (H : Hp) (vs : List V) (Q : VK) (E : XK), Room k (A.deeper (envOfC x (defScope st) s.heap.objs.size f cdv)) → sp vs H Q E →
      ∃ t, PSs (cxOf CX0 P w K mg base N x (defScope st) f cdv A outer s H E).nox (defBody st) t ∧ t { nx := fun _ H' => Q .non H', rt := Q } (start N vs) H) : Cal P w K mg base (k + 1) x sp := by
  obtain ⟨fd, F, m⟩ := D.ex
  exact ⟨_, fd, ps, F.ok S len (fun cdv A outer s H vs Q E hr h => let ⟨t, a, b⟩ := hbody _ cdv A outer s H vs Q E hr h; ⟨t, PSs.nox a, b⟩), m, F.kp, F.bindsN hb⟩
end
/-- first_of's code object and its table -/
def codK (K : PySem.W.Frag) : Addr := (He.cT K (("first_of" : Str), none)).1
def tabK (K : PySem.W.Frag) : Addr := (He.cT K (("first_of" : Str), none)).2
/-- a def whose code object is asked for -/
theorem Dd.calC {P : Program} {w : World} {K : PySem.W.Frag} {mg : Str → Option Value} {base : Heap} {x : Str} {st : Stmt} {N ps : List Str} {k : Nat} {sp : Sp} (D : Dd K mg x st) (S : FnScope N ps (defScope st))
    (hb : ∀ (kV doc pm : Value) (an : Option Addr) (cdv ct : Value) (us : List Value), us.length = ps.length → bindArgs (PySem.W.fnOf x x (defArgs st) (defBody st) (defScope st) .none kV doc pm an cdv ct) ⟨us, []⟩ = pure (ps.zip us))
    (len : ∀ vs H Q E, sp vs H Q E → vs.length = ps.length)
    (hbody : ∀ (f : Addr) (A : Around) (outer : List Env) (s : Shared) (H : Hp) (vs : List V) (Q : VK) (E : XK), Room k (A.deeper (envOfC x (defScope st) s.heap.objs.size f (.ref (He.codeOf K (x, none))))) → sp vs H Q E →
      ∃ t, PSs (cxOf CX0 P w K mg base N x (defScope st) f (.ref (He.codeOf K (x, none))) A outer s H E).nox (defBody st) t ∧ t { nx := fun _ H' => Q .non H', rt := Q } (start N vs) H) : Cal P w K mg base (k + 1) x sp := by
  obtain ⟨fd, F, m⟩ := D.ex
  refine ⟨_, fd, ps, ?_, m, F.kp, F.bindsN hb⟩
  obtain ⟨oc, od, dV, kV, doc, pm, an, cdv, ct, osl, rfl, lk, hcd, _, _⟩ := F.ex
  obtain ⟨c, rfl⟩ := He.codeIn_ref hcd
  have ec : He.codeOf K (x, none) = c := He.codeOf_eq lk rfl
  rw [ec] at hbody
  exact fn_of lk hcd S len fun A outer s H vs Q E hr h => let ⟨t, a, b⟩ := hbody _ A outer s H vs Q E hr h; ⟨t, PSs.nox a, b⟩
section
variable {X : Cx}
theorem pc {j k : Nat} {x : Str} {sp : Sp} {e : Expr} {es : List Expr} {t : TA} {p pos : Pos} (c : Cal X.prog X.w X.K X.mg X.base k x sp) (hr : Room j X.A) (hg : Gl X x) (ha : PA X (e :: es) t) (hk : k ≤ j := by decide)
    (hdb : (x == ("__debug__" : Str)) = false := by decide) (he : starEach (e :: es) X.env = (false, eval e X.env) :: starEach es X.env := by rfl) (hpl : (backTo pos (starEach es X.env)).any (·.1) = false := by rfl) :
    PE X (.Call (.Name x p) (e :: es) [] pos) (tCall sp [] E0 t) := by
  obtain ⟨f, fd, ps, F, hm, kp, b⟩ := c.ex
  exact pe_call F (hr.mono hk) hg hm kp b .nil pass0 ha hdb he hpl
theorem pe_gc {x : Str} {i : Int} {pos : Pos} (hg : Gl X x) (h : ∃ t, X.mg x = some (.int i t)) (hd : (x == ("__debug__" : Str)) = false := by decide) : PE X (.Name x pos) (tC (.int i)) := by
  obtain ⟨t, hm⟩ := h
  exact pe_glob hg hm ⟨t, rfl⟩ hd
theorem hd_of {A : Around} {k : Nat} (hr : Room (k + 1) A) : A.units + 65 < cLine := by have := (Room.mono hr (Nat.le_refl _)).un; omega
theorem pi_or {tg iter : Expr} {w1 w2 : TI} (h1 : PI X tg iter w1) (h2 : PI X tg iter w2) : PI X tg iter (fun σ H R => w1 σ H R ∨ w2 σ H R) :=
  ⟨fun pins s σ H R I h => h.elim (h1.run pins s σ H R I) (h2.run pins s σ H R I)⟩
/-! ### the same rules where the fragment is named (a comprehension's block) -/
def rLenK (K : PySem.W.Frag) : List V → Hp → VK → Prop := fun xs H Q => ∃ p ys, xs = [.ref p] ∧ (SqL K H p ys ∨ SqT K H p ys) ∧ Q (.int ys.length) H
def rListK (K : PySem.W.Frag) : List V → Hp → VK → Prop := fun xs H Q => ∃ p ys, xs = [.ref p] ∧ (SqL K H p ys ∨ SqT K H p ys) ∧ ∀ l, H l = none → Q (.ref l) (upd H l (.lst ys))
def rTupleK (K : PySem.W.Frag) : List V → Hp → VK → Prop := fun xs H Q => ∃ p ys, xs = [.ref p] ∧ ((SqL K H p ys ∧ ∀ l, H l = none → Q (.ref l) (upd H l (.tup ys))) ∨ (SqT K H p ys ∧ Q (.ref p) H))
theorem len_K (K : PySem.W.Frag) (h : X.K = K := by rfl) : CallR X (.builtin "len") (rLenK K) := by subst h; exact call_len_seq
theorem list_K (K : PySem.W.Frag) (h : X.K = K := by rfl) : CallR X (.type "list") (rListK K) := by subst h; exact call_list_of
theorem tuple_K (K : PySem.W.Frag) (h : X.K = K := by rfl) : CallR X (.type "tuple") (rTupleK K) := by subst h; exact call_tuple_of
theorem ixl_K (K : PySem.W.Frag) (h : X.K = K := by rfl) : IxR X (rIxL K) := by subst h; exact ix_list
theorem ixt_K (K : PySem.W.Frag) (h : X.K = K := by rfl) : IxR X (rIxT K) := by subst h; exact ix_tup
theorem sll_K (K : PySem.W.Frag) (h : X.K = K := by rfl) : SlR X (rSlL K) := by subst h; exact sl_list
theorem nin_K (K : PySem.W.Frag) (h : X.K = K := by rfl) : OpR X (compareOp .NotIn) (rIn K true) := by subst h; exact op_notIn_seq
theorem pi_list_K (K : PySem.W.Frag) {tg l : Expr} {tl : TE} (hl : PE X l tl) (h : X.K = K := by rfl) : PI X tg l (iList K tl) := by subst h; exact pi_list hl
theorem pi_tup_K (K : PySem.W.Frag) {tg l : Expr} {tl : TE} (hl : PE X l tl) (h : X.K = K := by rfl) : PI X tg l (iTup K tl) := by subst h; exact pi_tup hl
theorem pi_enum_K (K : PySem.W.Frag) {e : Expr} {ta : TA} {p pos tpos : Pos} {elts : List Expr} {kk : Nat} (hg : Gl X "enumerate") (hm : X.mg "enumerate" = none) (ha : PA X [e] ta) (hs : starEach [e] X.env = [(false, eval e X.env)] := by rfl) (h : X.K = K := by rfl) :
    PI X (.Tuple elts kk tpos) (.Call (.Name "enumerate" p) [e] [] pos) (iEnum K ta) := by subst h; exact pi_enum hg hm ha hs
theorem pi_enumT_K (K : PySem.W.Frag) {e : Expr} {ta : TA} {p pos tpos : Pos} {elts : List Expr} {kk : Nat} (hg : Gl X "enumerate") (hm : X.mg "enumerate" = none) (ha : PA X [e] ta) (hs : starEach [e] X.env = [(false, eval e X.env)] := by rfl) (h : X.K = K := by rfl) :
    PI X (.Tuple elts kk tpos) (.Call (.Name "enumerate" p) [e] [] pos) (iEnumT K ta) := by subst h; exact pi_enumT hg hm ha hs
theorem pg_tup_K (K : PySem.W.Frag) (n : Nat) {es : List Expr} {k : Nat} {pos : Pos} {t : TGs} (hc : X.calm = true) (h : PGs X es t)
    (hn : (assignEach es X.env).length = n := by rfl) (hst : (assignEach es X.env).findIdx? (·.1) = none := by rfl) (hK : X.K = K := by rfl) : PG X (.Tuple es k pos) (gTup K n t) := by subst hK; exact pg_tup hc h hn hst
theorem all_K (K : PySem.W.Frag) (hc : X.calm = true) (h : X.K = K := by rfl) : CallR X (.builtin "all") (rAll K) := by subst h; exact cr_all hc
theorem isi_K (K : PySem.W.Frag) (h : X.K = K := by rfl) : CallR X (.builtin "isinstance") (rIsi K) := by subst h; exact call_isi
theorem CallR.or {f : Value} {r1 r2 : List V → Hp → VK → Prop} (h1 : CallR X f r1) (h2 : CallR X f r2) : CallR X f (fun vs H Q => r1 vs H Q ∨ r2 vs H Q) := fun pins s σ H xs us Q I r h => h.elim (h1 pins s σ H xs us Q I r) (h2 pins s σ H xs us Q I r)
end
end W0
/-! ## W5 -/
set_option Elab.async false
set_option linter.all false
set_option maxRecDepth 100000
set_option maxHeartbeats 4000000
namespace W0
open PySem PySem.Spec PyProof.Rows L2
section
variable {P : Program} {w : World} {K : PySem.W.Frag} {mg : Str → Option Value} {base : Heap}

theorem take_one {α : Type} {xs : List α} {i : Nat} {x : α} (h : xs[i]? = some x) : xs.take (i + 1) = xs.take i ++ [x] := by
  rw [List.take_add_one, h]; rfl
theorem shN_one {ns : List Int} {i : Nat} {x : Int} (h : ns[i]? = some x) : Lin.shN (ns.take (i + 1)) = Nat.gcd (Lin.shN (ns.take i)) x.natAbs := by
  rw [take_one h]
  unfold Lin.shN
  rw [List.foldl_append]
  rfl
/-! ### shared_of -/
def sp_shared_of (K : PySem.W.Frag) : Sp := fun vs H Q _ => ∃ (a : Addr) (ns : List Int), vs = [.ref a] ∧ H a = some (.lst (iz ns)) ∧ Q (.int (Lin.shN ns : Nat)) H
theorem l_shared_of {vs : List V} {H : Hp} {Q : VK} {E : XK} (h : sp_shared_of K vs H Q E) : vs.length = 1 := by
  obtain ⟨a, ns, rfl, _⟩ := h
  rfl
abbrev s_shared_of : Stmt := top 17
abbrev N_shared_of : List Str := ["numbers", "found", "number"]
theorem sc_shared_of : FnScope N_shared_of ["numbers"] (defScope s_shared_of) := ⟨rfl, rfl, rfl, by decide +kernel, rfl, by decide +kernel, by decide +kernel⟩
theorem d_shared_of (B : Bt mg)   (D : Dd K mg "shared_of" s_shared_of) : Cal P w K mg base 1 "shared_of" (sp_shared_of K) := by
  refine D.cal sc_shared_of (fun _ _ _ _ _ _ us hl => match us, hl with | [_], _ => rfl) (fun vs H Q E h => ?_) (fun _ cdv A outer s H vs Q E hr h => ?_)
  · exact l_shared_of h
  have nd := sc_shared_of.nd
  refine ⟨_, (pss_cons (ps_set (i := 1) nd rfl (Or.inl rfl) pe_int) (pss_cons (ps_for PassesOwn.never rfl (pi_list_K K (pv 0)) (pg_name (i := 2) nd rfl (Or.inl rfl) (Or.inl rfl)) (pss_one (ps_set (i := 1) nd rfl (Or.inl rfl) (pe_callBfun cr_gcd rfl B.gcd (pa_cons (pv 1) (pa_cons (pv 2) pa_nil)))))) (pss_one (ps_ret (pv 1))))), ?_⟩
  obtain ⟨a, ns, rfl, ha, hQ⟩ := h
  refine ⟨_, rfl, a, rfl, ⟨_, SqL.of ha⟩, for_it (wk_list (d := none) ha) (fun i σ H' => H' = H ∧ ∃ z, σ = [some (.ref a), some (.int (Lin.shN (ns.take i) : Nat)), z]) ⟨rfl, none, rfl⟩ (fun i σ H' _ p => by rw [p.1]; exact .refl) (fun i x σ H0 H' hi p y => ?_) (fun σ H' p => ?_)⟩
  · obtain ⟨rfl, z, rfl⟩ := p
    obtain ⟨rfl, hx⟩ := y
    obtain ⟨n, hn, rfl⟩ := ints_get hx
    exact ⟨_, rfl, _, rfl, _, _, rfl, rfl, some (.int n), by rw [shN_one hn]; rfl⟩
  · obtain ⟨rfl, z, rfl⟩ := p
    refine ⟨_, rfl, ?_⟩
    rw [show ns.take (iz ns).length = ns by simp [iz]]
    exact hQ
/-! ### first_of -/
def sp_first_of (K : PySem.W.Frag) : Sp := fun vs H Q _ => ∃ (a : Addr) (ns : List Int), vs = [.ref a] ∧ H a = some (.lst (iz ns)) ∧ GxR.TabG H (tabK K) ∧ Ret none (fun v _ => v = .int (Lin.fst0 ns)) H Q
abbrev s_first_of : Stmt := top 18
abbrev N_first_of : List Str := ["numbers"]
theorem sc_first_of : FnScope N_first_of ["numbers"] (defScope s_first_of) := ⟨rfl, rfl, rfl, by decide +kernel, rfl, by decide +kernel, by decide +kernel⟩
theorem d_first_of (B : Bt mg) (TB : GxR.TabB base mg (codK K) (tabK K)) (D : Dd K mg "first_of" s_first_of) : Cal P w K mg base 2 "first_of" (sp_first_of K) := by
  refine D.calC (k := 1) sc_first_of (fun _ _ _ _ _ _ us hl => match us, hl with | [_], _ => rfl) (fun vs H Q E h => ?_) (fun _ A outer s H vs Q E hr h => ?_)
  · obtain ⟨a, ns, rfl, _⟩ := h
    rfl
  refine ⟨_, (pss_one (ps_ret (pe_nextG hr rfl B.next TB rfl ⟨rfl, rfl, by decide +kernel, rfl, rfl, fun y hy e => absurd e ((by decide +kernel : ∀ y ∈ _, y.2 ≠ NameKind.free) y hy)⟩ (pv 0) (fun _ => rfl)))), ?_⟩
  obtain ⟨a, ns, rfl, ha, ht, hQ⟩ := h
  exact ⟨_, rfl, a, ns, rfl, SqL.of ha, ht, fun H2 q => hQ _ _ (Kp.tabbed ht q) rfl⟩
/-! ### primitive_of -/
def sp_primitive_of (K : PySem.W.Frag) : Sp := fun vs H Q _ => ∃ (a : Addr) (ns : List Int), vs = [.ref a] ∧ H a = some (.lst (iz ns)) ∧ GxR.TabG H (tabK K) ∧ ns.length ≤ 1000 ∧ (∀ n ∈ ns, n.natAbs < 2 ^ 13400) ∧ Ret none (fun v H' => ∃ p, v = .ref p ∧ H p = none ∧ H' p = some (.lst (iz (Lin.prim ns)))) H Q
theorem l_primitive_of {vs : List V} {H : Hp} {Q : VK} {E : XK} (h : sp_primitive_of K vs H Q E) : vs.length = 1 := by
  obtain ⟨a, ns, rfl, _⟩ := h
  rfl
abbrev s_primitive_of : Stmt := top 19
abbrev N_primitive_of : List Str := ["numbers", "part", "number"]
theorem sc_primitive_of : FnScope N_primitive_of ["numbers"] (defScope s_primitive_of) := ⟨rfl, rfl, rfl, by decide +kernel, rfl, by decide +kernel, by decide +kernel⟩
theorem d_primitive_of (B : Bt mg)  (c_first_of : Cal P w K mg base 2 "first_of" (sp_first_of K)) (c_shared_of : Cal P w K mg base 1 "shared_of" (sp_shared_of K)) (D : Dd K mg "primitive_of" s_primitive_of) : Cal P w K mg base 3 "primitive_of" (sp_primitive_of K) := by
  refine D.cal sc_primitive_of (fun _ _ _ _ _ _ us hl => match us, hl with | [_], _ => rfl) (fun vs H Q E h => ?_) (fun _ cdv A outer s H vs Q E hr h => ?_)
  · exact l_primitive_of h
  have nd := sc_primitive_of.nd
  refine ⟨_, (pss_cons (ps_set (i := 1) nd rfl (Or.inr rfl) (pc c_shared_of hr rfl (pa_cons (pv 0) pa_nil))) (pss_cons (ps_if (pt_cmpR op_eq (pv 1) pe_int (nomark _)) (pss_one (ps_ret (pe_callTy (list_K K) rfl B.list (by decide +kernel) (pa_cons (pv 0) pa_nil)))) pss_nil) (pss_cons (ps_set (i := 1) nd rfl (Or.inr rfl) (pe_ifExp (pt_cmpR op_gt (pc c_first_of hr rfl (pa_cons (pv 0) pa_nil)) pe_int (nomark _)) (pv 1) (pe_un un_neg (pv 1)))) (pss_one (ps_ret (pe_lc (own := [("number", 2)]) rfl nd (pi_list_K K (pv 0)) (blkOk_by (N := N_primitive_of) (sc := defScope s_primitive_of) (by decide +kernel)) (fun _ _ _ _ _ => (pg_name (i := 2) nd rfl (Or.inl rfl) (Or.inr rfl))) (fun _ _ _ _ _ => pts_nil) (fun _ _ _ _ _ => (pe_op op_fdivC (pv 2) (pv 1))))))))), ?_⟩
  obtain ⟨a, ns, rfl, ha, ht, hl, hb, hQ⟩ := h
  refine ⟨_, rfl, a, ns, rfl, ha, ?_⟩
  by_cases hz : Lin.shN ns = 0
  · refine ⟨_, rfl, rfl, _, rfl, ifT (eqT (by omega)) ?_⟩
    refine ⟨_, rfl, a, _, rfl, .inl (SqL.of ha), fun l hl => ?_⟩
    refine hQ _ _ (Kp.new hl) ⟨l, rfl, hl, ?_⟩
    rw [upd_same]
    unfold Lin.prim
    rw [if_pos hz]
  · refine ⟨_, rfl, rfl, _, rfl, ifF (eqF (by omega)) ?_⟩
    refine ⟨_, rfl, a, ns, rfl, ha, ht, fun v H1 k1 e1 => ?_⟩
    subst e1
    have ha1 := k1.l ha
    have key : ∀ c : Int, c ≠ 0 → Lin.prim ns = ns.map (fun n => n.fdiv c) → tSeq tNext (tRet
                  (tLc (iList K (tVar 0)) (gName 2) tYes (tOp (rI CDivC fun i j => V.int (i.fdiv j)) (tVar 2) (tVar 1))
                    [2])) { nx := fun x H' => Q V.non H', rt := Q } [some (.ref a), some (.int c), none] H1 := fun c hc hp => by
      refine ⟨_, rfl, a, rfl, ⟨_, SqL.of ha1⟩, fun D hD => lc_map (wk_list (d := none) ha1) hD (by simp) (by simpa [iz] using Nat.le_trans hl (by decide)) (fun _ _ => True) (fun i v _ => v = .int ((ns.getD i 0).fdiv c)) trivial (fun _ _ _ _ => trivial) (fun _ _ _ _ _ e => e) (fun i x H2 H3 hi k2 _ _ y R hR => ?_) (fun H2 ys k2 _ hD2 hlen hz2 => ?_)⟩
      · obtain ⟨rfl, hx⟩ := y
        obtain ⟨n, hn, rfl⟩ := ints_get hx
        refine ⟨wipe1, _, rfl, _, rfl, n, c, rfl, rfl, divc_of hc (hb n (List.mem_of_getElem? hn)), hR _ _ .refl trivial fun o => ?_⟩
        rw [List.getD_eq_getElem?_getD, hn]
        rfl
      · refine hQ _ _ (k1.trans k2) ⟨D, rfl, k1.fr D hD, ?_⟩
        rw [hD2, ints_of hlen hz2, hp]
        congr 2
        refine List.ext_getElem (by simp [iz]) fun i h1 h2 => ?_
        simp [List.getD_eq_getElem?_getD] at h2 ⊢
        rw [List.getElem?_eq_getElem h2]
        rfl
    by_cases hf : Lin.fst0 ns > 0
    · refine ⟨_, _, rfl, rfl, _, rfl, ifT (decide_eq_true hf) ⟨_, rfl, ?_⟩⟩
      exact key _ (by omega) (by unfold Lin.prim; rw [if_neg hz, if_pos hf])
    · refine ⟨_, _, rfl, rfl, _, rfl, ifF (decide_eq_false hf) ⟨_, rfl, _, rfl, ?_⟩⟩
      exact key _ (by omega) (by unfold Lin.prim; rw [if_neg hz, if_neg hf])
/-! ### less_head -/
theorem getI {ns : List Int} {i : Nat} {n : Int} (h : ns[i]? = some n) : Lin.fn ns i = n := by
  show ns.getD i 0 = n
  rw [List.getD_eq_getElem?_getD, h]; rfl
theorem getI' {ns : List Int} {i : Nat} (h : i < ns.length) : ns[i]? = some (Lin.fn ns i) := by
  have := List.getElem?_eq_getElem h
  rw [this, ← getI this]
theorem iz_at {ns : List Int} {i : Nat} (h : i < ns.length) : atI (iz ns) (i : Int) = some (.int (Lin.fn ns i)) := by
  refine atI_nat ?_
  show (ns.map V.int)[i]? = _
  rw [List.getElem?_map, getI' h]; rfl
theorem iz_len (ns : List Int) : (iz ns).length = ns.length := List.length_map ..
theorem range_fn {ns : List Int} (g : Int → Int) : (List.range ns.length).map (fun i => g (Lin.fn ns i)) = ns.map g := by
  refine List.ext_getElem (by simp) fun i h1 h2 => ?_
  simp only [List.getElem_map, List.getElem_range]
  have h3 : i < ns.length := by simpa using h2
  rw [getI (List.getElem?_eq_getElem h3)]
theorem range_zip {xs ys : List Int} (g : Int → Int → Int) (n : Nat) (hn : n = min xs.length ys.length) : (List.range n).map (fun i => g (Lin.fn xs i) (Lin.fn ys i)) = List.zipWith g xs ys := by
  subst hn
  refine List.ext_getElem (by simp) fun i h1 h2 => ?_
  simp only [List.getElem_map, List.getElem_range, List.getElem_zipWith]
  simp only [List.length_zipWith] at h2
  rw [getI (List.getElem?_eq_getElem (by omega : i < xs.length)), getI (List.getElem?_eq_getElem (by omega : i < ys.length))]
def sp_less_head (K : PySem.W.Frag) : Sp := fun vs H Q _ => ∃ (a b : Addr) (row head : List Int) (pl : Nat), vs = [.ref a, .ref b, .int pl] ∧ H a = some (.lst (iz row)) ∧ H b = some (.lst (iz head)) ∧ row.length = head.length ∧ pl < row.length ∧ row.length ≤ 1000 ∧
  Lin.fn head pl ≠ 0 ∧ Lin.Bd 6000 row ∧ Lin.Bd 6000 head ∧ Ret none (fun v H' => ∃ p, v = .ref p ∧ (p = a ∨ H p = none) ∧ H' p = some (.lst (iz (Lin.lessP row head pl)))) H Q
theorem l_less_head {vs : List V} {H : Hp} {Q : VK} {E : XK} (h : sp_less_head K vs H Q E) : vs.length = 3 := by
  obtain ⟨a, b, row, head, pl, rfl, _⟩ := h
  rfl
theorem gcd_ne {i : Int} (j : Int) (h : i ≠ 0) : ((Nat.gcd i.natAbs j.natAbs : Nat) : Int) ≠ 0 := by
  have := Nat.gcd_pos_of_pos_left j.natAbs (Int.natAbs_pos.mpr h)
  omega
theorem lt_bits {n a b : Nat} (h : n < 2 ^ a) (hab : a ≤ b) : n < 2 ^ b := Nat.lt_of_lt_of_le h (Nat.pow_le_pow_right (by decide) hab)
theorem bd_in {B : Nat} {r : List Int} (h : Lin.Bd B r) {n : Int} (hn : n ∈ r) : n.natAbs < 2 ^ B := by
  obtain ⟨i, hi, rfl⟩ := List.mem_iff_getElem.mp hn
  have := h i
  rwa [getI (List.getElem?_eq_getElem hi)] at this
theorem cm6 {i j : Int} (ha : i.natAbs < 2 ^ 6000) (hb : j.natAbs < 2 ^ 6000) : CMulW i j := wide_mul (a := 6000) (b := 6000) ha hb (by decide) (by decide) (by decide)
theorem cd6 {i j : Int} (h0 : j ≠ 0) (h : i.natAbs < 2 ^ 6000) : CDivC i j := divc_of h0 (lt_bits (a := 6000) (b := 13400) h (by decide))
abbrev s_less_head : Stmt := top 22
abbrev N_less_head : List Str := ["row", "head", "place", "one", "other", "part", "found", "entry", "taken", "shared"]
theorem sc_less_head : FnScope N_less_head ["row", "head", "place"] (defScope s_less_head) := ⟨rfl, rfl, rfl, by decide +kernel, rfl, by decide +kernel, by decide +kernel⟩
theorem d_less_head (B : Bt mg)  (c_shared_of : Cal P w K mg base 1 "shared_of" (sp_shared_of K)) (D : Dd K mg "less_head" s_less_head) : Cal P w K mg base 2 "less_head" (sp_less_head K) := by
  refine D.cal sc_less_head (fun _ _ _ _ _ _ us hl => match us, hl with | [_, _, _], _ => rfl) (fun vs H Q E h => ?_) (fun _ cdv A outer s H vs Q E hr h => ?_)
  · exact l_less_head h
  have nd := sc_less_head.nd
  refine ⟨_, (pss_cons (ps_asg (pe_tup (pa_cons (pe_ix (ixl_K K) (pv 1) (pv 2) (fun _ _ => rfl)) (pa_cons (pe_ix (ixl_K K) (pv 0) (pv 2) (fun _ _ => rfl)) pa_nil))) (pg_tup_K K 2 rfl (pgs_cons (pg_name (i := 3) nd rfl (Or.inr rfl) (Or.inl rfl)) (pgs_cons (pg_name (i := 4) nd rfl (Or.inr rfl) (Or.inl rfl)) pgs_nil)))) (pss_cons (ps_if (pt_cmpR op_eq (pv 4) pe_int (nomark _)) (pss_one (ps_ret (pv 0))) pss_nil) (pss_cons (ps_set (i := 5) nd rfl (Or.inl rfl) (pe_callBfun cr_gcd rfl B.gcd (pa_cons (pv 3) (pa_cons (pv 4) pa_nil)))) (pss_cons (ps_asg (pe_tup (pa_cons (pe_op op_fdivC (pv 3) (pv 5)) (pa_cons (pe_op op_fdivC (pv 4) (pv 5)) pa_nil))) (pg_tup_K K 2 rfl (pgs_cons (pg_name (i := 3) nd rfl (Or.inr rfl) (Or.inl rfl)) (pgs_cons (pg_name (i := 4) nd rfl (Or.inr rfl) (Or.inl rfl)) pgs_nil)))) (pss_cons (ps_setLc (i := 6) (own := [("entry", 7), ("taken", 8)]) rfl nd rfl rfl (sw_true rfl rfl rfl (by decide +kernel)) (RZ.pi_zipA rfl B.zip (pa_cons (pv 0) (pa_cons (pv 1) pa_nil))) (blkOk_by (N := N_less_head) (sc := defScope s_less_head) (by decide +kernel)) (fun _ _ _ _ _ => (pg_tup_K K 2 rfl (pgs_cons (pg_name (i := 7) nd rfl (Or.inl rfl) (Or.inr rfl)) (pgs_cons (pg_name (i := 8) nd rfl (Or.inl rfl) (Or.inr rfl)) pgs_nil)))) (fun _ _ _ _ _ => pts_nil) (fun _ _ _ _ _ => (pe_op op_sub (pe_op op_mulW (pv 7) (pv 3)) (pe_op op_mulW (pv 4) (pv 8))))) (pss_cons (ps_set (i := 9) nd rfl (Or.inr rfl) (pc c_shared_of hr rfl (pa_cons (pv 6) pa_nil))) (pss_one (ps_ret (pe_ifExp (pt_cmpR op_gt (pv 9) pe_int (nomark _)) (pe_lc (own := [("entry", 7)]) rfl nd (pi_list_K K (pv 6)) (blkOk_by (N := N_less_head) (sc := defScope s_less_head) (by decide +kernel)) (fun _ _ _ _ _ => (pg_name (i := 7) nd rfl (Or.inl rfl) (Or.inr rfl))) (fun _ _ _ _ _ => pts_nil) (fun _ _ _ _ _ => (pe_op op_fdivC (pv 7) (pv 9)))) (pv 6)))))))))), ?_⟩
  obtain ⟨a, b, row, head, pl, rfl, ha, hb, hl, hp, hz, hh, B1, B2, hQ⟩ := h
  refine ⟨_, rfl, _, rfl, b, _, _, _, rfl, rfl, SqL.of hb, iz_at (by omega), _, rfl, _, rfl, a, _, _, _, rfl, rfl, SqL.of ha, iz_at hp, by show 2 ≤ sizeLine; exact sz_le (by decide), fun t ht => ?_⟩
  refine ⟨t, _, rfl, SqT.of upd_same, rfl, _, _, rfl, _, _, rfl, rfl, ?_⟩
  by_cases hr0 : Lin.fn row pl = 0
  · refine ⟨_, rfl, rfl, _, rfl, ifT (eqT hr0) ?_⟩
    refine ⟨_, rfl, hQ _ _ (Kp.new ht) ⟨a, rfl, .inl rfl, ?_⟩⟩
    rw [show Lin.lessP row head pl = row by unfold Lin.lessP; rw [if_pos hr0]]
    exact (Kp.new (d := none) ht).l ha
  · refine ⟨_, rfl, rfl, _, rfl, ifF (eqF hr0) ?_⟩
    have g0 := gcd_ne (Lin.fn row pl) hh
    refine ⟨_, rfl, _, rfl, _, _, rfl, ?_⟩
    refine ⟨_, rfl, _, rfl, _, _, rfl, rfl, cd6 g0 (B2 pl), _, rfl, _, rfl, _, _, rfl, rfl, cd6 g0 (B1 pl), by show 2 ≤ sizeLine; exact sz_le (by decide), fun t2 ht2 => ?_⟩
    refine ⟨t2, _, rfl, SqT.of upd_same, rfl, _, _, rfl, _, _, rfl, rfl, ?_⟩
    have k1 : Kp none H (upd (upd H t (.tup [.int (Lin.fn head pl), .int (Lin.fn row pl)])) t2 (.tup [.int ((Lin.fn head pl).fdiv (Nat.gcd (Lin.fn head pl).natAbs (Lin.fn row pl).natAbs : Nat)), .int ((Lin.fn row pl).fdiv (Nat.gcd (Lin.fn head pl).natAbs (Lin.fn row pl).natAbs : Nat))])) := (Kp.new ht).trans (Kp.new ht2)
    have ha1 := k1.l ha
    have hb1 := k1.l hb
    have d1 : ((Lin.fn head pl).fdiv (Nat.gcd (Lin.fn head pl).natAbs (Lin.fn row pl).natAbs : Nat)).natAbs < 2 ^ 6000 := Nat.lt_of_le_of_lt (Lin.fdiv_le _ _ g0 (by have := Nat.gcd_dvd_left (Lin.fn head pl).natAbs (Lin.fn row pl).natAbs; exact Int.ofNat_dvd_left.mpr this)) (B2 pl)
    have d2 : ((Lin.fn row pl).fdiv (Nat.gcd (Lin.fn head pl).natAbs (Lin.fn row pl).natAbs : Nat)).natAbs < 2 ^ 6000 := Nat.lt_of_le_of_lt (Lin.fdiv_le _ _ g0 (by have := Nat.gcd_dvd_right (Lin.fn head pl).natAbs (Lin.fn row pl).natAbs; exact Int.ofNat_dvd_left.mpr this)) (B1 pl)
    generalize hW : (upd (upd H t (.tup [.int (Lin.fn head pl), .int (Lin.fn row pl)])) t2 (.tup [.int ((Lin.fn head pl).fdiv (Nat.gcd (Lin.fn head pl).natAbs (Lin.fn row pl).natAbs : Nat)), .int ((Lin.fn row pl).fdiv (Nat.gcd (Lin.fn head pl).natAbs (Lin.fn row pl).natAbs : Nat))])) = H1 at k1 ha1 hb1
    refine ⟨_, rfl, _, rfl, a, b, _, _, rfl, .inl ⟨SqL.of ha1, SqL.of hb1, fun D hD => ?_⟩⟩
    refine lc_map (σ := [some (.ref a), some (.ref b), some (.int pl), some (.int ((Lin.fn head pl).fdiv (Nat.gcd (Lin.fn head pl).natAbs (Lin.fn row pl).natAbs : Nat))), some (.int ((Lin.fn row pl).fdiv (Nat.gcd (Lin.fn head pl).natAbs (Lin.fn row pl).natAbs : Nat))), some (.int (Nat.gcd (Lin.fn head pl).natAbs (Lin.fn row pl).natAbs : Nat)), none, none, none, none]) (vs := [7, 8]) (wk_zip (d := none) ha1 hb1) hD (by simp) (by rw [iz_len, iz_len]; omega) (fun _ _ => True)
      (fun i v _ => v = .int (Lin.fn row i * (Lin.fn head pl).fdiv (Nat.gcd (Lin.fn head pl).natAbs (Lin.fn row pl).natAbs : Nat) - (Lin.fn row pl).fdiv (Nat.gcd (Lin.fn head pl).natAbs (Lin.fn row pl).natAbs : Nat) * Lin.fn head i)) trivial (fun _ _ _ _ => trivial) (fun _ _ _ _ _ e => e) (fun i x H2 H3 hi k2 _ _ y R hR => ?_) (fun H2 ys k2 _ hD2 hlen hz2 => ?_)
    · obtain ⟨T, x1, y1, rfl, hT, rfl, h1, h2⟩ := y
      obtain ⟨n1, hn1, rfl⟩ := ints_get h1
      obtain ⟨n2, hn2, rfl⟩ := ints_get h2
      refine ⟨T, _, rfl, SqT.of upd_same, rfl, _, _, rfl, _, _, rfl, rfl, wipe2, ?_⟩
      refine ⟨_, rfl, _, rfl, _, _, rfl, rfl, cm6 (bd_in B1 (List.mem_of_getElem? hn1)) d1, _, rfl, _, rfl, _, _, rfl, rfl, cm6 d2 (bd_in B2 (List.mem_of_getElem? hn2)), _, _, rfl, rfl, hR _ _ (Kp.new hT) trivial fun o => ?_⟩
      rw [getI hn1, getI hn2]
    · have e1 := ints_of hlen hz2
      rw [range_zip (fun e t => e * (Lin.fn head pl).fdiv (Nat.gcd (Lin.fn head pl).natAbs (Lin.fn row pl).natAbs : Nat) - (Lin.fn row pl).fdiv (Nat.gcd (Lin.fn head pl).natAbs (Lin.fn row pl).natAbs : Nat) * t) _ (by rw [iz_len, iz_len])] at e1
      rw [e1, show List.zipWith _ row head = Lin.mixed row head pl from rfl] at hD2
      have Bm : Lin.Bd 13400 (Lin.mixed row head pl) := Lin.mixed_bd hl hh B1 B2 (by decide)
      have lm : (Lin.mixed row head pl).length ≤ 1000 := by unfold Lin.mixed; rw [List.length_zipWith]; omega
      have hD0 : H D = none := k1.fr D hD
      have hres : Lin.lessP row head pl = Lin.tidy (Lin.mixed row head pl) := by unfold Lin.lessP; rw [if_neg hr0]
      refine ⟨_, rfl, D, _, rfl, hD2, ?_⟩
      by_cases hs : 1 < (Lin.shN (Lin.mixed row head pl) : Int)
      · refine ⟨_, rfl, _, _, rfl, rfl, _, rfl, ifT (decide_eq_true hs) ?_⟩
        refine ⟨_, rfl, D, rfl, ⟨_, SqL.of hD2⟩, fun D2 hD3 => ?_⟩
        refine lc_map (σ := [some (.ref a), some (.ref b), some (.int pl), some (.int ((Lin.fn head pl).fdiv (Nat.gcd (Lin.fn head pl).natAbs (Lin.fn row pl).natAbs : Nat))), some (.int ((Lin.fn row pl).fdiv (Nat.gcd (Lin.fn head pl).natAbs (Lin.fn row pl).natAbs : Nat))), some (.int (Nat.gcd (Lin.fn head pl).natAbs (Lin.fn row pl).natAbs : Nat)), some (.ref D), none, none, some (.int (Lin.shN (Lin.mixed row head pl)))]) (vs := [7]) (wk_list (d := none) hD2) hD3 (by simp) (by rw [iz_len]; omega) (fun _ _ => True) (fun i v _ => v = .int ((Lin.fn (Lin.mixed row head pl) i).fdiv (Lin.shN (Lin.mixed row head pl) : Int))) trivial (fun _ _ _ _ => trivial) (fun _ _ _ _ _ e => e) (fun i x H4 H5 hi k4 _ _ y R hR => ?_) (fun H4 ys k4 _ hD4 hlen4 hz4 => ?_)
        · obtain ⟨rfl, hx⟩ := y
          obtain ⟨n, hn, rfl⟩ := ints_get hx
          refine ⟨wipe1, _, rfl, _, rfl, _, _, rfl, rfl, divc_of (by omega) (bd_in Bm (List.mem_of_getElem? hn)), hR _ _ .refl trivial fun o => ?_⟩
          rw [getI hn]
        · refine hQ _ _ ((k1.trans k2).trans k4) ⟨D2, rfl, .inr ((k1.trans k2).fr D2 hD3), ?_⟩
          rw [hD4, ints_of hlen4 hz4, iz_len, range_fn (fun e => e.fdiv (Lin.shN (Lin.mixed row head pl) : Int)), hres]
          unfold Lin.tidy
          rw [if_pos hs]
      · refine ⟨_, rfl, _, _, rfl, rfl, _, rfl, ifF (decide_eq_false hs) ?_⟩
        refine ⟨_, rfl, hQ _ _ (k1.trans k2) ⟨D, rfl, .inr hD0, ?_⟩⟩
        rw [hD2, hres]
        unfold Lin.tidy
        rw [if_neg hs]
/-! ### compared deep -/
def dI (ns : List Int) : List PyData := ns.map PyData.int
def dT (rs : List (List Int)) : List PyData := rs.map fun r => .tuple (dI r)
theorem dp_iz (H : Hp) : ∀ ns : List Int, DpAll K H (iz ns) (dI ns)
  | [] => .nil
  | n :: ns => .cons (.int n) (dp_iz H ns)
theorem dp_tab {H : Hp} : ∀ {ps : List Addr} {rs : List (List Int)}, TabT H ps rs → DpAll K H (ps.map V.ref) (dT rs)
  | [], [], _ => .nil
  | [], _ :: _, h => by have := h.1; simp at this
  | _ :: _, [], h => by have := h.1; simp at this
  | p :: ps, r :: rs, h => .cons (.tup (SqT.of (h.2 0 p r rfl rfl)) (dp_iz H r)) (dp_tab ⟨by have := h.1; simpa using this, fun i q s hq hs => h.2 (i + 1) q s (by simpa using hq) (by simpa using hs)⟩)
theorem lay_I : ∀ ns : List Int, PyData.canLayAll0 (dI ns) = true
  | [] => by simp [dI, PyData.canLayAll0]
  | n :: ns => by have := lay_I ns; simp only [dI, List.map_cons, PyData.canLayAll0, PyData.canLay0, Bool.true_and] at this ⊢; exact this
theorem lay_T : ∀ rs : List (List Int), PyData.canLayAll0 (dT rs) = true
  | [] => by simp [dT, PyData.canLayAll0]
  | r :: rs => by have h1 := lay_T rs; have h2 := lay_I r; simp only [dT, List.map_cons, PyData.canLayAll0, PyData.canLay0, h2, Bool.true_and] at h1 ⊢; exact h1
theorem dep_I : ∀ ns : List Int, PyData.depthAll (dI ns) ≤ 1
  | [] => by simp [dI, PyData.depthAll]
  | n :: ns => by have := dep_I ns; simp only [dI, List.map_cons, PyData.depthAll, PyData.depth] at this ⊢; omega
theorem dep_T : ∀ rs : List (List Int), PyData.depthAll (dT rs) ≤ 2
  | [] => by simp [dT, PyData.depthAll]
  | r :: rs => by have h1 := dep_T rs; have h2 := dep_I r; simp only [dT, List.map_cons, PyData.depthAll, PyData.depth] at h1 ⊢; omega
theorem shp_lI (ns : List Int) : SeqAt.shaped (.list (dI ns)) = true := by
  have := dep_I ns
  unfold SeqAt.shaped
  rw [Bool.and_eq_true]
  exact ⟨by simp only [PyData.canLay0]; exact lay_I ns, decide_eq_true (by simp only [PyData.depth]; omega)⟩
theorem shp_tI (ns : List Int) : SeqAt.shaped (.tuple (dI ns)) = true := by
  have := dep_I ns
  unfold SeqAt.shaped
  rw [Bool.and_eq_true]
  exact ⟨by simp only [PyData.canLay0]; exact lay_I ns, decide_eq_true (by simp only [PyData.depth]; omega)⟩
theorem shp_lT (rs : List (List Int)) : SeqAt.shaped (.list (dT rs)) = true := by
  have := dep_T rs
  unfold SeqAt.shaped
  rw [Bool.and_eq_true]
  exact ⟨by simp only [PyData.canLay0]; exact lay_T rs, decide_eq_true (by simp only [PyData.depth]; omega)⟩
theorem eqv_I : ∀ a b : List Int, PyData.eqvAll (dI a) (dI b) = decide (a = b)
  | [], [] => by simp [dI, PyData.eqvAll]
  | [], _ :: _ => by simp [dI, PyData.eqvAll]
  | _ :: _, [] => by simp [dI, PyData.eqvAll]
  | x :: a, y :: b => by
    have := eqv_I a b
    simp only [dI, List.map_cons, PyData.eqvAll, PyData.eqv] at this ⊢
    rw [this, Bool.eq_iff_iff]
    simp
theorem eqv_T : ∀ a b : List (List Int), PyData.eqvAll (dT a) (dT b) = decide (a = b)
  | [], [] => by simp [dT, PyData.eqvAll]
  | [], _ :: _ => by simp [dT, PyData.eqvAll]
  | _ :: _, [] => by simp [dT, PyData.eqvAll]
  | x :: a, y :: b => by
    have := eqv_T a b
    have h2 := eqv_I x y
    simp only [dT, List.map_cons, PyData.eqvAll, PyData.eqv] at this ⊢
    rw [this, h2, Bool.eq_iff_iff]
    simp
/-! ### lead_of -/
theorem pick_lead {r : List Int} (h : ∃ i, Lin.fn r i ≠ 0) : (pick r.length (fun i => decide (Lin.fn r i ≠ 0)) fun i => (i : Int))[0]? = some (Lin.leadOf r : Int) := by
  unfold pick Lin.leadOf
  rw [List.getElem?_map, ← List.head?_eq_getElem?]
  cases e : ((List.range r.length).filter fun i => decide (Lin.fn r i ≠ 0)).head? with
  | none =>
    obtain ⟨i, hi⟩ := h
    rw [List.head?_eq_none_iff, List.filter_eq_nil_iff] at e
    have hl : i < r.length := Classical.byContradiction fun z => hi (Lin.fn_out (by omega))
    exact absurd (decide_eq_true hi) (e i (List.mem_range.mpr hl))
  | some j => rfl
def sp_lead_of (K : PySem.W.Frag) : Sp := fun vs H Q _ => ∃ (a : Addr) (ns : List Int), vs = [.ref a] ∧ H a = some (.lst (iz ns)) ∧ ns.length ≤ 1000 ∧ (∃ i, Lin.fn ns i ≠ 0) ∧ Ret none (fun v _ => v = .int (Lin.leadOf ns : Nat)) H Q
theorem l_lead_of {vs : List V} {H : Hp} {Q : VK} {E : XK} (h : sp_lead_of K vs H Q E) : vs.length = 1 := by
  obtain ⟨a, ns, rfl, _⟩ := h
  rfl
abbrev s_lead_of : Stmt := top 24
abbrev N_lead_of : List Str := ["row", "at", "entry"]
theorem sc_lead_of : FnScope N_lead_of ["row"] (defScope s_lead_of) := ⟨rfl, rfl, rfl, by decide +kernel, rfl, by decide +kernel, by decide +kernel⟩
theorem d_lead_of (B : Bt mg)   (D : Dd K mg "lead_of" s_lead_of) : Cal P w K mg base 1 "lead_of" (sp_lead_of K) := by
  refine D.cal sc_lead_of (fun _ _ _ _ _ _ us hl => match us, hl with | [_], _ => rfl) (fun vs H Q E h => ?_) (fun _ cdv A outer s H vs Q E hr h => ?_)
  · exact l_lead_of h
  have nd := sc_lead_of.nd
  refine ⟨_, (pss_one (ps_ret (pe_ix (ixl_K K) (pe_lc (own := [("at", 1), ("entry", 2)]) rfl nd (pi_enum_K K rfl B.enumerate (pa_cons (pv 0) pa_nil)) (blkOk_by (N := N_lead_of) (sc := defScope s_lead_of) (by decide +kernel)) (fun _ _ _ _ _ => (pg_tup_K K 2 rfl (pgs_cons (pg_name (i := 1) nd rfl (Or.inl rfl) (Or.inr rfl)) (pgs_cons (pg_name (i := 2) nd rfl (Or.inl rfl) (Or.inr rfl)) pgs_nil)))) (fun _ _ _ _ _ => (pts_one (pt_cmpR op_ne (pv 2) pe_int (nomark _)))) (fun _ _ _ _ _ => (pv 1))) pe_int (fun _ _ => rfl)))), ?_⟩
  obtain ⟨a, ns, rfl, ha, hl, hz, hQ⟩ := h
  refine ⟨_, rfl, ?_⟩
  refine ⟨a, _, rfl, SqL.of ha, fun D hD => lc_filter (σ := [some (.ref a), none, none]) (vs := [1, 2]) (wk_enum (d := none) ha) hD (by simp) (by rw [iz_len]; omega) (fun i => decide (Lin.fn ns i ≠ 0)) (fun i => (i : Int)) (fun i x H2 H3 hi k2 y KK NN hK hN => ?_) (fun H2 k2 hD2 => ?_)⟩
  · obtain ⟨T, x1, y1, rfl, hT, rfl, h1, h2⟩ := y
    cases h1
    obtain ⟨n, hn, rfl⟩ := ints_get h2
    refine ⟨T, _, rfl, SqT.of upd_same, rfl, _, _, rfl, _, _, rfl, rfl, wipe2, ?_⟩
    refine ⟨_, rfl, rfl, _, rfl, ?_⟩
    by_cases z : n = 0
    · rw [eqT z]
      exact hN _ (Kp.new hT) (decide_eq_false (by rw [getI hn]; exact fun q => q z))
    · rw [eqF z]
      exact ⟨_, rfl, hK _ (Kp.new hT) (decide_eq_true (by rw [getI hn]; exact z))⟩
  · refine ⟨D, _, _, _, rfl, rfl, SqL.of hD2, atI_nat (j := 0) (v := V.int (Lin.leadOf ns : Nat)) ?_, hQ _ _ k2 rfl⟩
    rw [List.getElem?_map, iz_len, pick_lead hz]
    rfl
end
end W0
/-! ## W6 -/
set_option Elab.async false
set_option linter.all false
set_option maxRecDepth 100000
set_option maxHeartbeats 4000000
namespace W0
open PySem PySem.Spec PyProof.Rows L2
section
variable {P : Program} {w : World} {K : PySem.W.Frag} {mg : Str → Option Value} {base : Heap}
/-! ### tables -/
theorem rng_rows {β : Type} {rs : List (List Int)} (g : List Int → β) : (List.range rs.length).map (fun i => g (rs.getD i [])) = rs.map g := by
  refine List.ext_getElem (by simp) fun i h1 h2 => ?_
  simp only [List.getElem_map, List.getElem_range]
  have h3 : i < rs.length := by simpa using h2
  rw [List.getD_eq_getElem?_getD, List.getElem?_eq_getElem h3]
  rfl
theorem tab_of {H : Hp} {ys : List V} {n : Nat} {f : Nat → List Int} (hl : ys.length = n) (h : ∀ (i : Nat) (y : V), ys[i]? = some y → ∃ p, y = .ref p ∧ H p = some (.lst (iz (f i)))) : ∃ ps : List Addr, ys = ps.map V.ref ∧ TabL H ps ((List.range n).map f) := by
  obtain ⟨ps, rfl⟩ := refs_of fun i y hy => let ⟨p, e, _⟩ := h i y hy; ⟨p, e⟩
  refine ⟨ps, rfl, by simpa using hl, fun i p r hp hr => ?_⟩
  obtain ⟨q, e, hq⟩ := h i (.ref p) (by rw [List.getElem?_map, hp]; rfl)
  cases e
  rw [List.getElem?_map] at hr
  have hi := (List.getElem?_eq_some_iff.mp hp).1
  rw [List.getElem?_range (by simpa [← hl] using hi)] at hr
  cases hr
  exact hq
theorem tabT_of {H : Hp} {ys : List V} {n : Nat} {f : Nat → List Int} (hl : ys.length = n) (h : ∀ (i : Nat) (y : V), ys[i]? = some y → ∃ p, y = .ref p ∧ H p = some (.tup (iz (f i)))) : ∃ ps : List Addr, ys = ps.map V.ref ∧ TabT H ps ((List.range n).map f) := by
  obtain ⟨ps, rfl⟩ := refs_of fun i y hy => let ⟨p, e, _⟩ := h i y hy; ⟨p, e⟩
  refine ⟨ps, rfl, by simpa using hl, fun i p r hp hr => ?_⟩
  obtain ⟨q, e, hq⟩ := h i (.ref p) (by rw [List.getElem?_map, hp]; rfl)
  cases e
  rw [List.getElem?_map] at hr
  have hi := (List.getElem?_eq_some_iff.mp hp).1
  rw [List.getElem?_range (by simpa [← hl] using hi)] at hr
  cases hr
  exact hq
theorem TabL.erase {H : Hp} {ps : List Addr} {rs : List (List Int)} (t : TabL H ps rs) (k : Nat) : TabL H (ps.eraseIdx k) (rs.eraseIdx k) := by
  refine ⟨by rw [List.length_eraseIdx, List.length_eraseIdx, t.1], fun i p r hp hr => ?_⟩
  rw [List.getElem?_eraseIdx] at hp hr
  by_cases h : i < k
  · rw [if_pos h] at hp hr; exact t.2 _ _ _ hp hr
  · rw [if_neg h] at hp hr; exact t.2 _ _ _ hp hr
theorem TabL.snoc {H : Hp} {ps : List Addr} {rs : List (List Int)} (t : TabL H ps rs) {p : Addr} {r : List Int} (h : H p = some (.lst (iz r))) : TabL H (ps ++ [p]) (rs ++ [r]) := by
  refine ⟨by simp [t.1], fun i q s hq hs => ?_⟩
  have hl := t.1
  rcases Nat.lt_or_ge i ps.length with z | z
  · rw [List.getElem?_append_left z] at hq
    rw [List.getElem?_append_left (by omega)] at hs
    exact t.2 i q s hq hs
  · rw [List.getElem?_append_right z] at hq
    rw [List.getElem?_append_right (by omega)] at hs
    have e0 : i - ps.length = 0 := by
      have := (List.getElem?_eq_some_iff.mp hq).1
      simp at this
      omega
    rw [e0] at hq
    rw [show i - rs.length = 0 by omega] at hs
    cases hq
    cases hs
    exact h
/-- a list of rows is not one of them -/
theorem TabL.off {H : Hp} {ps : List Addr} {rs : List (List Int)} (t : TabL H ps rs) {w : Nat} (hw : 0 < w) (hr : ∀ r ∈ rs, r.length = w) {L : Addr} {qs : List Addr} (hL : H L = some (.lst (qs.map V.ref))) : ∀ p ∈ ps, p ≠ L := by
  rintro p hp rfl
  obtain ⟨i, hi, rfl⟩ := List.mem_iff_getElem.mp hp
  obtain ⟨r, h1, h2⟩ := t.get (List.getElem?_eq_getElem hi)
  have hl := hr r (List.mem_of_getElem? h1)
  rw [h2] at hL
  injection hL with e
  injection e with e
  cases r with
  | nil => simp at hl; omega
  | cons n r => cases qs with
    | nil => cases e
    | cons q qs => cases e
theorem TabL.upd {H : Hp} {ps : List Addr} {rs : List (List Int)} (t : TabL H ps rs) {L : Addr} {o : HO} (h : ∀ p ∈ ps, p ≠ L) : TabL (upd H L o) ps rs :=
  ⟨t.1, fun i p r hp hr => by rw [upd_ne (h p (List.mem_of_getElem? hp))]; exact t.2 i p r hp hr⟩
/-- each row by itself a list or a tuple -/
def TabA (H : Hp) (ps : List Addr) (rs : List (List Int)) : Prop := ps.length = rs.length ∧ ∀ (i : Nat) (p : Addr) (r : List Int), ps[i]? = some p → rs[i]? = some r → H p = some (.lst (iz r)) ∨ H p = some (.tup (iz r))
theorem TabL.any {H : Hp} {ps : List Addr} {rs : List (List Int)} (t : TabL H ps rs) : TabA H ps rs := ⟨t.1, fun i p r h h' => .inl (t.2 i p r h h')⟩
theorem TabT.any {H : Hp} {ps : List Addr} {rs : List (List Int)} (t : TabT H ps rs) : TabA H ps rs := ⟨t.1, fun i p r h h' => .inr (t.2 i p r h h')⟩
theorem getD_of {rs : List (List Int)} {i : Nat} {r : List Int} (h : rs[i]? = some r) : rs.getD i [] = r := by rw [List.getD_eq_getElem?_getD, h]; rfl
theorem Kp.tg {d : Option Addr} {H H1 : Hp} {p : Addr} (k : Kp d H H1) (h : GxR.TabG H p) (hd : d ≠ some p := by simp) : GxR.TabG H1 p := k.tab p hd h
/-! ### rows lessened by a head -/
def hdPick (rs : List (List Int)) (p : Nat) : List Int := pick rs.length (fun i => decide (Lin.fn (rs.getD i []) p ≠ 0)) fun i => (i : Int)
theorem hd_none {rs : List (List Int)} {p : Nat} (h : rs.findIdx? (fun row => decide (row.getD p 0 ≠ 0)) = none) : hdPick rs p = [] := by
  unfold hdPick pick
  rw [List.map_eq_nil_iff, List.filter_eq_nil_iff]
  intro i hi
  have hl := List.mem_range.mp hi
  rw [List.findIdx?_eq_none_iff] at h
  have := h (rs[i]) (List.getElem_mem hl)
  rw [getD_of (List.getElem?_eq_getElem hl)]
  simpa [Lin.fn] using this
theorem hd_some {rs : List (List Int)} {p k : Nat} (h : rs.findIdx? (fun row => decide (row.getD p 0 ≠ 0)) = some k) : (hdPick rs p)[0]? = some (k : Int) := by
  obtain ⟨h1, h2, h3⟩ := List.findIdx?_eq_some_iff_getElem.mp h
  unfold hdPick pick
  rw [List.getElem?_map, ← List.head?_eq_getElem?, List.head?_filter]
  have : (List.range rs.length).find? (fun i => decide (Lin.fn (rs.getD i []) p ≠ 0)) = some k := by
    rw [List.find?_range_eq_some]
    refine ⟨?_, by simpa using h1, fun j hj => ?_⟩
    · rw [getD_of (List.getElem?_eq_getElem h1)]; exact h2
    · have := h3 j hj
      rw [getD_of (List.getElem?_eq_getElem (by omega : j < rs.length))]
      simpa [Lin.fn] using this
  rw [this]
  rfl
theorem less_comp {H0 : Hp} {X hp : Addr} {ps : List Addr} {rs : List (List Int)} {head : List Int} {pl n : Nat} (hX : H0 X = some (.lst (ps.map V.ref))) (t : TabL H0 ps rs) (hh : H0 hp = some (.lst (iz head))) (hl : ∀ r ∈ rs, r.length = n) (hhl : head.length = n) (hpl : pl < n) (hn : n ≤ 1000) (hm : rs.length ≤ 1000)
    (h0 : Lin.fn head pl ≠ 0) (Bh : Lin.Bd 6000 head) (Br : ∀ r ∈ rs, Lin.Bd 6000 r) {z0 z1 z2 z3 z4 z6 z7 : Option V} {D : Addr} (hD : H0 D = none) {Qd : Hp → Prop}
    (hd : ∀ H2 qs, Kp none H0 H2 → H2 D = some (.lst (qs.map V.ref)) → TabL H2 qs (rs.map fun r => Lin.lessP r head pl) → Qd H2) :
    ∃ W : Nat → Nat → Hp → Prop, (∃ m, W 0 m (upd H0 D (.lst []))) ∧ ∀ i m H, W i m H →
      ((Itl K X).stop i H ∧ Qd H) ∨ ((Itl K X).go i H ∧ ∃ Nx : Hp → Prop, (∀ H', Nx H' → ∃ m', m' < m ∧ W (i + 1) m' H') ∧ ∀ x H', (Itl K X).yld i H x H' → gName 4 x (wipe [z0, z1, z2, z3, z4, some (.int pl), z6, z7, some (.ref hp)] [4]) H' fun σ2 H2 => wipe σ2 [4] = wipe [z0, z1, z2, z3, z4, some (.int pl), z6, z7, some (.ref hp)] [4] ∧ tYes σ2 H2 fun b H3 =>
        if b = true then tCall (sp_less_head K) [] E0 (tCons (tVar 4) (tCons (tVar 8) (tCons (tVar 5) tNil))) σ2 H3 fun y H4 => ∃ acc, H4 D = some (.lst acc) ∧ acc.length < sizeLine ∧ Nx (upd H4 D (.lst (acc ++ [y]))) else Nx H3) := by
  refine lc_map (wk_list (d := none) hX) hD (by simp) (by rw [List.length_map]; have := t.1; omega) (fun _ _ => True) (fun i v H => ∃ p, v = .ref p ∧ H p = some (.lst (iz (Lin.lessP (rs.getD i []) head pl)))) trivial (fun _ _ _ _ => trivial)
    (fun i v H H' k z => let ⟨p, e, z⟩ := z; ⟨p, e, k.l z⟩) (fun i x H2 H3 hi k2 _ ac y R hR => ?_) (fun H2 ys k2 _ hD2 hlen hz => ?_)
  · obtain ⟨rfl, hx⟩ := y
    obtain ⟨p, hp0, rfl⟩ := refs_get hx
    obtain ⟨r, hr, hpr⟩ := t.get hp0
    have hrm := List.mem_of_getElem? hr
    refine ⟨wipe1, _, rfl, _, rfl, _, rfl, p, hp, r, head, pl, rfl, k2.l hpr, k2.l hh, by rw [hl r hrm, hhl], by rw [hl r hrm]; exact hpl, by rw [hl r hrm]; exact hn, h0, Br r hrm, Bh, fun v H4 k4 z4 => ?_⟩
    obtain ⟨q, rfl, hq, hq4⟩ := z4
    refine hR _ _ k4 trivial fun o => ⟨q, rfl, ?_⟩
    obtain ⟨acc, hacc⟩ := ac
    have ne : q ≠ D := by
      rcases hq with rfl | hq
      · exact ne_of_none hpr hD
      · exact fun z => by rw [z, hacc] at hq; cases hq
    rw [upd_ne ne, getD_of hr]
    exact hq4
  · obtain ⟨qs, rfl, tq⟩ := tab_of (f := fun i => Lin.lessP (rs.getD i []) head pl) hlen hz
    refine hd H2 qs k2 hD2 ?_
    rw [List.length_map, t.1, rng_rows (fun r => Lin.lessP r head pl)] at tq
    exact tq
theorem map_erase {α β : Type} (f : α → β) : ∀ (xs : List α) (k : Nat), (xs.map f).eraseIdx k = (xs.eraseIdx k).map f
  | [], _ => rfl
  | _ :: _, 0 => rfl
  | x :: xs, k + 1 => by
    show f x :: (xs.map f).eraseIdx k = f x :: (xs.eraseIdx k).map f
    rw [map_erase f xs k]
/-! ### echelon_rows -/
/-- what comes back of rows: a new list of new lists -/
def NewTab (H : Hp) (rs : List (List Int)) : V → Hp → Prop := fun v H' => ∃ (D : Addr) (ps : List Addr), v = .ref D ∧ H D = none ∧ H' D = some (.lst (ps.map V.ref)) ∧ TabL H' ps rs
def sp_echelon_rows (K : PySem.W.Frag) : Sp := fun vs H Q _ => ∃ (a : Addr) (ps : List Addr) (rs : List (List Int)) (wd : Nat), vs = [.ref a, .int wd] ∧ H a = some (.lst (ps.map V.ref)) ∧ TabA H ps rs ∧ GxR.TabG H (tabK K) ∧ (∀ r ∈ rs, r.length = wd) ∧ 0 < wd ∧ wd ≤ 1000 ∧ rs.length ≤ 1000 ∧
  Lin.Fits Lin.lessP rs wd 6000 ∧ Ret none (NewTab H (Lin.echelon Lin.lessP rs wd)) H Q
theorem l_echelon_rows {vs : List V} {H : Hp} {Q : VK} {E : XK} (h : sp_echelon_rows K vs H Q E) : vs.length = 2 := by
  obtain ⟨a, ps, rs, wd, rfl, _⟩ := h
  rfl
abbrev s_echelon_rows : Stmt := top 23
abbrev N_echelon_rows : List Str := ["rows", "width", "left", "found", "row", "place", "heads", "at", "head"]
theorem sc_echelon_rows : FnScope N_echelon_rows ["rows", "width"] (defScope s_echelon_rows) := ⟨rfl, rfl, rfl, by decide +kernel, rfl, by decide +kernel, by decide +kernel⟩
theorem d_echelon_rows (B : Bt mg)  (c_primitive_of : Cal P w K mg base 3 "primitive_of" (sp_primitive_of K)) (c_less_head : Cal P w K mg base 2 "less_head" (sp_less_head K)) (D : Dd K mg "echelon_rows" s_echelon_rows) : Cal P w K mg base 4 "echelon_rows" (sp_echelon_rows K) := by
  refine D.cal sc_echelon_rows (fun _ _ _ _ _ _ us hl => match us, hl with | [_, _], _ => rfl) (fun vs H Q E h => ?_) (fun _ cdv A outer s H vs Q E hr h => ?_)
  · exact l_echelon_rows h
  have nd := sc_echelon_rows.nd
  refine ⟨_, (pss_cons (ps_par (i := 2) (j := 3) rfl nd rfl rfl (by decide) rfl rfl (pa_cons (pe_lc (own := [("row", 4)]) rfl nd (pi_list_K K (pv 0)) (blkOk_by (N := N_echelon_rows) (sc := defScope s_echelon_rows) (by decide +kernel)) (fun _ _ _ _ _ => (pg_name (i := 4) nd rfl (Or.inl rfl) (Or.inr rfl))) (fun _ _ _ _ _ => pts_nil) (fun _ _ _ _ _ => (pe_callTy (list_K K) rfl B.list (by decide +kernel) (pa_cons (pv 4) pa_nil)))) (pa_cons (pe_lst pa_nil) pa_nil)) rfl) (pss_cons (ps_for PassesOwn.never rfl (pi_range1 rfl B.range (pa_cons (pv 1) pa_nil)) (pg_name (i := 5) nd rfl (Or.inr rfl) (Or.inl rfl)) (pss_cons (ps_setLc (i := 6) (own := [("at", 7), ("row", 4)]) rfl nd rfl rfl (sw_true rfl rfl rfl (by decide +kernel)) (pi_enum_K K rfl B.enumerate (pa_cons (pv 2) pa_nil)) (blkOk_by (N := N_echelon_rows) (sc := defScope s_echelon_rows) (by decide +kernel)) (fun _ _ _ _ _ => (pg_tup_K K 2 rfl (pgs_cons (pg_name (i := 7) nd rfl (Or.inl rfl) (Or.inr rfl)) (pgs_cons (pg_name (i := 4) nd rfl (Or.inl rfl) (Or.inr rfl)) pgs_nil)))) (fun _ _ _ _ _ => (pts_one (pt_cmpR op_ne (pe_ix (ixl_K K) (pv 4) (pv 5) (fun _ _ => rfl)) pe_int (nomark _)))) (fun _ _ _ _ _ => (pv 7))) (pss_one (ps_if (pt_cmpR (op_neD hr.units) (pv 6) (pe_lst pa_nil) (nomark _)) (pss_cons (ps_set (i := 8) nd rfl (Or.inr rfl) (pe_bm PySem.F.plainAttrs_list PySem.F.slot_list_pop PySem.F.type_list_pop mt_popAt (pv 2) (pa_cons (pe_ix (ixl_K K) (pv 6) pe_int (fun _ _ => rfl)) pa_nil))) (pss_cons (ps_set (i := 3) nd rfl (Or.inl rfl) (pe_lst (StX.pa_star (pe_lc (own := [("row", 4)]) rfl nd (pi_list_K K (pv 3)) (blkOk_by (N := N_echelon_rows) (sc := defScope s_echelon_rows) (by decide +kernel)) (fun _ _ _ _ _ => (pg_name (i := 4) nd rfl (Or.inl rfl) (Or.inr rfl))) (fun _ _ _ _ _ => pts_nil) (fun _ _ _ _ _ => (pc c_less_head hr rfl (pa_cons (pv 4) (pa_cons (pv 8) (pa_cons (pv 5) pa_nil)))))) (pa_cons (pv 8) pa_nil)))) (pss_one (ps_setLc (i := 2) (own := [("row", 4)]) rfl nd rfl rfl (sw_true rfl rfl rfl (by decide +kernel)) (pi_list_K K (pv 2)) (blkOk_by (N := N_echelon_rows) (sc := defScope s_echelon_rows) (by decide +kernel)) (fun _ _ _ _ _ => (pg_name (i := 4) nd rfl (Or.inl rfl) (Or.inr rfl))) (fun _ _ _ _ _ => pts_nil) (fun _ _ _ _ _ => (pc c_less_head hr rfl (pa_cons (pv 4) (pa_cons (pv 8) (pa_cons (pv 5) pa_nil))))))))) pss_nil)))) (pss_one (ps_ret (pe_lc (own := [("row", 4)]) rfl nd (pi_list_K K (pv 3)) (blkOk_by (N := N_echelon_rows) (sc := defScope s_echelon_rows) (by decide +kernel)) (fun _ _ _ _ _ => (pg_name (i := 4) nd rfl (Or.inl rfl) (Or.inr rfl))) (fun _ _ _ _ _ => pts_nil) (fun _ _ _ _ _ => (pc c_primitive_of hr rfl (pa_cons (pv 4) pa_nil)))))))), ?_⟩
  obtain ⟨a, ps, rs, wd, rfl, ha, ht, hg, hw, h0, h1, hm, hF, hQ⟩ := h
  refine ⟨_, rfl, a, rfl, ⟨_, SqL.of ha⟩, fun L hL => lc_map (σ := [some (.ref a), some (.int wd), none, none, none, none, none, none, none]) (vs := [4]) (wk_list (d := none) ha) hL (by simp) (by rw [List.length_map]; have := ht.1; omega) (fun _ _ => True) (fun i v H => ∃ p, v = .ref p ∧ H p = some (.lst (iz (rs.getD i [])))) trivial (fun _ _ _ _ => trivial)
    (fun i v H H' k z => let ⟨p, e, z⟩ := z; ⟨p, e, k.l z⟩) (fun i x H2 H3 hi k2 _ ac y R hR => ?_) (fun H2 ys k2 _ hD2 hlen hz => ?_)⟩
  · obtain ⟨rfl, hx⟩ := y
    obtain ⟨p, hp0, rfl⟩ := refs_get hx
    have hi2 := (List.getElem?_eq_some_iff.mp hp0).1
    obtain ⟨r, hr⟩ : ∃ r, rs[i]? = some r := ⟨_, List.getElem?_eq_getElem (by have := ht.1; omega : i < rs.length)⟩
    obtain ⟨acc, hacc⟩ := ac
    have go : ∀ l, H3 l = none → R (.ref l) (upd H3 l (.lst (iz r))) := fun l hl => by
      refine hR _ _ (Kp.new hl) trivial fun o => ⟨l, rfl, ?_⟩
      rw [upd_ne (fun z => by rw [z, hacc] at hl; cases hl), upd_same, getD_of hr]
    rcases ht.2 i p _ hp0 hr with q | q
    · exact ⟨wipe1, _, rfl, p, _, rfl, .inl (SqL.of (k2.l q)), go⟩
    · exact ⟨wipe1, _, rfl, p, _, rfl, .inr (SqT.of (k2.t q)), go⟩
  obtain ⟨lps, rfl, tl⟩ := tab_of (f := fun i => rs.getD i []) hlen hz
  rw [List.length_map, ht.1, rng_rows (fun r => r), List.map_id'] at tl
  refine ⟨sz_le (by decide), fun F hF0 => ?_⟩
  have k3 : Kp none H (upd H2 F (.lst [])) := k2.trans (Kp.new hF0)
  have nLF : L ≠ F := ne_of_none hD2 hF0
  refine ⟨_, _, rfl, ?_⟩
  refine ⟨_, rfl, wd, rfl, by omega, by omega, ?_⟩
  have J := Lin.run_len Lin.growsP hw
  refine for_it (n := wd) (wk_range (d := none) (H1 := H)) (fun i σ H' => ∃ (L F : Addr) (lps fps : List Addr) (z4 z5 z6 z7 z8 : Option V), σ = [some (.ref a), some (.int wd), some (.ref L), some (.ref F), z4, z5, z6, z7, z8] ∧ Kp none H H' ∧ H L = none ∧ F ≠ L ∧ H' L = some (.lst (lps.map V.ref)) ∧ H' F = some (.lst (fps.map V.ref)) ∧
    TabL H' lps (Lin.run Lin.lessP rs i).1 ∧ TabL H' fps (Lin.run Lin.lessP rs i).2) ⟨L, F, lps, [], none, none, none, none, none, rfl, k3, hL, nLF.symm, by rw [upd_ne nLF]; exact hD2, upd_same, tl.keep (Kp.new (d := none) hF0), rfl, fun i p r hp => by simp at hp⟩
    (fun i σ H' _ p => by obtain ⟨_, _, _, _, _, _, _, _, _, _, k, _⟩ := p; exact k) (fun i x σ H4 H5 hi p y => ?_) (fun σ H4 p => ?_)
  · obtain ⟨rfl, rfl⟩ := y
    clear hz hlen hD2 tl k2 k3 nLF hF0
    clear hL L F lps
    obtain ⟨L, F, lps, fps, z4, z5, z6, z7, z8, rfl, k4, hL, nFL, eL, eF, t1, t2⟩ := p
    obtain ⟨j1, j2, j3⟩ := J i (by omega)
    have Fi := hF i (by omega)
    have e0 : (0 : Int) + (i : Int) = (i : Int) := Int.zero_add _
    show tSeq _ _ _ [some (.ref a), some (.int wd), some (.ref L), some (.ref F), z4, some (.int ((0 : Int) + (i : Int))), z6, z7, z8] H5
    rw [e0]
    refine ⟨_, rfl, L, _, rfl, SqL.of eL, fun D hD => lc_filter (σ := [some (.ref a), some (.int wd), some (.ref L), some (.ref F), z4, some (.int (i : Int)), z6, z7, z8]) (vs := [7, 4]) (wk_enum (d := none) eL) hD (by simp) (by rw [List.length_map, t1.1]; omega) (fun j => decide (Lin.fn ((Lin.run Lin.lessP rs i).1.getD j []) i ≠ 0)) (fun j => (j : Int)) (fun j x H2 H3 hj k2 y KK NN hK hN => ?_) (fun H2 k2 hD2 => ?_)⟩
    · obtain ⟨T, x1, y1, rfl, hT, rfl, h1', h2'⟩ := y
      cases h1'
      obtain ⟨p, hp0, rfl⟩ := refs_get h2'
      obtain ⟨r, hr, hpr⟩ := t1.get hp0
      have hrl : r.length = wd := j1 r (.inl (List.mem_of_getElem? hr))
      have kT : Kp none H2 (upd H2 T (.tup [.int (j : Nat), .ref p])) := Kp.new hT
      refine ⟨T, _, rfl, SqT.of upd_same, rfl, _, _, rfl, _, _, rfl, rfl, wipe2, ?_⟩
      refine ⟨_, rfl, _, rfl, p, _, _, _, rfl, rfl, SqL.of ((k2.trans kT).l hpr), iz_at (i := i) (by omega), rfl, _, rfl, ?_⟩
      by_cases z : Lin.fn r i = 0
      · rw [eqT z]
        exact hN _ kT (decide_eq_false (by rw [getD_of hr]; exact fun q => q z))
      · rw [eqF z]
        exact ⟨_, rfl, hK _ kT (decide_eq_true (by rw [getD_of hr]; exact z))⟩
    rw [List.length_map, t1.1, show pick _ _ _ = hdPick (Lin.run Lin.lessP rs i).1 i from rfl] at hD2
    refine ⟨_, rfl, sz_le (by decide), fun e he => ?_⟩
    have ke : Kp none H2 (upd H2 e (.lst [])) := Kp.new he
    refine ⟨_, _, .lst (SqL.of (ke.l hD2)) (dp_iz _ _), .lst (SqL.of upd_same) (dp_iz _ []), shp_lI _, shp_lI _, _, rfl, ?_⟩
    have k6 : Kp none H5 (upd H2 e (.lst [])) := k2.trans ke
    have hD6 := ke.l hD2
    generalize hH6 : upd H2 e (.lst []) = H6 at k6 hD6
    rw [show PyData.eqv (.list (dI (hdPick (Lin.run Lin.lessP rs i).1 i))) (.list (dI [])) = decide (hdPick (Lin.run Lin.lessP rs i).1 i = []) by rw [← eqv_I]; simp only [PyData.eqv]]
    cases hk : (Lin.run Lin.lessP rs i).1.findIdx? (fun row => decide (row.getD i 0 ≠ 0)) with
    | none =>
      have hs : Lin.run Lin.lessP rs (i + 1) = Lin.run Lin.lessP rs i := by
        rw [Lin.run_succ]
        unfold Lin.step
        rw [hk]
      refine ifF (by rw [hd_none hk]; rfl) ?_
      exact ⟨L, F, lps, fps, _, _, _, _, _, rfl, k4.trans k6, hL, nFL, k6.l eL, k6.l eF, by rw [hs]; exact t1.keep k6, by rw [hs]; exact t2.keep k6⟩
    | some k =>
      obtain ⟨q1, q2, q3⟩ := List.findIdx?_eq_some_iff_getElem.mp hk
      have hpk := hd_some hk
      have hhead : (Lin.run Lin.lessP rs i).1[k]? = some ((Lin.run Lin.lessP rs i).1.getD k []) := by rw [getD_of (List.getElem?_eq_getElem q1)]; exact List.getElem?_eq_getElem q1
      have hs : Lin.run Lin.lessP rs (i + 1) = (((Lin.run Lin.lessP rs i).1.eraseIdx k).map (fun row => Lin.lessP row ((Lin.run Lin.lessP rs i).1.getD k []) i), (Lin.run Lin.lessP rs i).2.map (fun row => Lin.lessP row ((Lin.run Lin.lessP rs i).1.getD k []) i) ++ [(Lin.run Lin.lessP rs i).1.getD k []]) := by
        rw [Lin.run_succ]
        unfold Lin.step
        rw [hk]
      generalize (Lin.run Lin.lessP rs i).1.getD k [] = head at hhead hs
      have hhm := List.mem_of_getElem? hhead
      have hh0 : Lin.fn head i ≠ 0 := by
        have := List.getElem?_eq_some_iff.mp hhead
        obtain ⟨_, e⟩ := this
        rw [e] at q2
        simpa [Lin.fn] using q2
      have hhl : head.length = wd := j1 head (.inl hhm)
      have hkl : k < lps.length := by rw [t1.1]; exact q1
      have hpp : lps[k]? = some lps[k] := List.getElem?_eq_getElem hkl
      generalize lps[k] = hp at hpp
      have hhp := t1.2 k hp head hpp hhead
      have t16 := t1.keep k6
      have t26 := t2.keep k6
      have off1 := t16.off h0 (fun r hr => j1 r (.inl hr)) (k6.l eL)
      have off2 := t26.off h0 (fun r hr => j1 r (.inr hr)) (k6.l eL)
      refine ifT (by rw [decide_eq_false (fun z => by rw [z] at hpk; cases hpk)]; rfl) ?_
      refine ⟨_, rfl, .inl ⟨rfl, _, SqL.of (k6.l eL)⟩, _, rfl, D, _, _, _, rfl, rfl, SqL.of hD6, atI_nat (j := 0) (v := V.int (k : Int)) (by rw [List.getElem?_map, hpk]; rfl), ?_⟩
      refine ⟨L, _, (k : Int), k, .ref hp, rfl, rfl, k6.l eL, by omega, by omega, by rw [seqIndex_at (by omega) (by rw [List.length_map]; omega)]; rfl, by rw [List.getElem?_map, hpp]; rfl, ?_⟩
      have k7 : Kp none H (upd H6 L (.lst ((lps.map V.ref).eraseIdx k))) := (k4.trans k6).mut hL
      have eL7 : (upd H6 L (.lst ((lps.map V.ref).eraseIdx k))) L = some (.lst ((lps.eraseIdx k).map V.ref)) := by rw [upd_same, map_erase]
      have eF7 : (upd H6 L (.lst ((lps.map V.ref).eraseIdx k))) F = some (.lst (fps.map V.ref)) := by rw [upd_ne nFL]; exact k6.l eF
      have t17 : TabL (upd H6 L (.lst ((lps.map V.ref).eraseIdx k))) (lps.eraseIdx k) ((Lin.run Lin.lessP rs i).1.eraseIdx k) := (t16.upd off1).erase k
      have t27 : TabL (upd H6 L (.lst ((lps.map V.ref).eraseIdx k))) fps (Lin.run Lin.lessP rs i).2 := t26.upd off2
      have hp7 : (upd H6 L (.lst ((lps.map V.ref).eraseIdx k))) hp = some (.lst (iz head)) := by rw [upd_ne (off1 hp (List.mem_of_getElem? hpp))]; exact k6.l hhp
      generalize upd H6 L (.lst ((lps.map V.ref).eraseIdx k)) = H7 at k7 eL7 eF7 t17 t27 hp7
      have Bh : Lin.Bd 6000 head := Fi head (.inl hhm)
      refine ⟨_, rfl, F, rfl, ⟨_, SqL.of eF7⟩, fun D2 hD2' => less_comp (n := wd) eF7 t27 hp7 (fun r hr => j1 r (.inr hr)) hhl hi h1 (by omega) hh0 Bh (fun r hr => Fi r (.inr hr)) hD2' fun H8 qs k8 e8 t8 => ?_⟩
      refine ⟨D2, _, rfl, .inr (SqL.of e8), _, rfl, ?_⟩
      have hlq := t8.1
      rw [List.length_map] at hlq
      refine ⟨sz_le (by simp; omega), fun F2 hF2 => ?_⟩
      have k9 : Kp none H8 (upd H8 F2 (.lst (qs.map V.ref ++ [.ref hp]))) := Kp.new hF2
      have eF9 : (upd H8 F2 (.lst (qs.map V.ref ++ [.ref hp]))) F2 = some (.lst ((qs ++ [hp]).map V.ref)) := by rw [upd_same, List.map_append]; rfl
      have t9 := (t8.keep k9).snoc (k9.l (k8.l hp7))
      have eL9 := k9.l (k8.l eL7)
      have t19 := (t17.keep k8).keep k9
      have hp9 := k9.l (k8.l hp7)
      have k79 := k8.trans k9
      generalize upd H8 F2 (.lst (qs.map V.ref ++ [.ref hp])) = H9 at k9 eF9 t9 eL9 t19 hp9 k79
      refine ⟨_, rfl, L, rfl, ⟨_, SqL.of eL9⟩, fun D3 hD3 => less_comp (n := wd) eL9 t19 hp9 (fun r hr => j1 r (.inl (List.mem_of_mem_eraseIdx hr))) hhl hi h1 (by have := List.length_eraseIdx_le (Lin.run Lin.lessP rs i).1 k; omega) hh0 Bh (fun r hr => Fi r (.inl (List.mem_of_mem_eraseIdx hr))) hD3 fun H10 qs2 k10 e10 t10 => ?_⟩
      refine ⟨D3, F2, qs2, qs ++ [hp], _, _, _, _, _, rfl, (k7.trans k79).trans k10, (k7.trans k79).fr D3 hD3, (fun z => by rw [← z, eF9] at hD3; cases hD3), e10, k10.l eF9, ?_, ?_⟩
      · rw [hs]; exact t10
      · rw [hs]; exact t9.keep k10
  · clear hz hlen hD2 tl k2 k3 nLF hF0
    clear hL L F lps
    obtain ⟨L, F, lps, fps, z4, z5, z6, z7, z8, rfl, k4, hL, nFL, eL, eF, t1, t2⟩ := p
    obtain ⟨j1, j2, j3⟩ := J wd (Nat.le_refl _)
    have Fi := hF wd (Nat.le_refl _)
    refine ⟨_, rfl, F, rfl, ⟨_, SqL.of eF⟩, fun D hD => lc_map (σ := [some (.ref a), some (.int wd), some (.ref L), some (.ref F), z4, z5, z6, z7, z8]) (vs := [4]) (wk_list (d := none) eF) hD (by simp) (by rw [List.length_map, t2.1]; omega) (fun _ _ => True) (fun i v H => ∃ p, v = .ref p ∧ H p = some (.lst (iz (Lin.prim ((Lin.run Lin.lessP rs wd).2.getD i []))))) trivial (fun _ _ _ _ => trivial)
      (fun i v H H' k z => let ⟨p, e, z⟩ := z; ⟨p, e, k.l z⟩) (fun i x H2 H3 hi k2 _ ac y R hR => ?_) (fun H2 ys k2 _ hD2 hlen hz => ?_)⟩
    · obtain ⟨rfl, hx⟩ := y
      obtain ⟨p, hp0, rfl⟩ := refs_get hx
      obtain ⟨r, hr, hpr⟩ := t2.get hp0
      have hrm := List.mem_of_getElem? hr
      obtain ⟨acc, hacc⟩ := ac
      refine ⟨wipe1, _, rfl, p, r, rfl, k2.l hpr, k2.tg (k4.tg hg), by rw [j1 r (.inr hrm)]; exact h1, fun n hn => lt_bits (a := 6000) (b := 13400) (bd_in (Fi r (.inr hrm)) hn) (by decide), fun v H4 k4 z4 => ?_⟩
      obtain ⟨q, rfl, hq, hq4⟩ := z4
      refine hR _ _ k4 trivial fun o => ⟨q, rfl, ?_⟩
      rw [upd_ne (fun z => by rw [z, hacc] at hq; cases hq), getD_of hr]
      exact hq4
    · obtain ⟨qs, rfl, tq⟩ := tab_of (f := fun i => Lin.prim ((Lin.run Lin.lessP rs wd).2.getD i [])) hlen hz
      refine hQ _ _ (k4.trans k2) ⟨D, qs, rfl, k4.fr D hD, hD2, ?_⟩
      rw [List.length_map, t2.1, rng_rows Lin.prim] at tq
      exact tq
/-! ### rank_of, factorial_of -/
def sp_rank_of (K : PySem.W.Frag) : Sp := fun vs H Q _ => ∃ (a : Addr) (ps : List Addr) (rs : List (List Int)) (wd : Nat), vs = [.ref a, .int wd] ∧ H a = some (.lst (ps.map V.ref)) ∧ TabA H ps rs ∧ GxR.TabG H (tabK K) ∧ (∀ r ∈ rs, r.length = wd) ∧ 0 < wd ∧ wd ≤ 1000 ∧ rs.length ≤ 1000 ∧
  Lin.Fits Lin.lessP rs wd 6000 ∧ Ret none (fun v _ => v = .int ((Lin.echelon Lin.lessP rs wd).length : Nat)) H Q
theorem l_rank_of {vs : List V} {H : Hp} {Q : VK} {E : XK} (h : sp_rank_of K vs H Q E) : vs.length = 2 := by
  obtain ⟨a, ps, rs, wd, rfl, _⟩ := h
  rfl
abbrev s_rank_of : Stmt := top 25
abbrev N_rank_of : List Str := ["rows", "width"]
theorem sc_rank_of : FnScope N_rank_of ["rows", "width"] (defScope s_rank_of) := ⟨rfl, rfl, rfl, by decide +kernel, rfl, by decide +kernel, by decide +kernel⟩
theorem d_rank_of (B : Bt mg)  (c_echelon_rows : Cal P w K mg base 4 "echelon_rows" (sp_echelon_rows K)) (D : Dd K mg "rank_of" s_rank_of) : Cal P w K mg base 5 "rank_of" (sp_rank_of K) := by
  refine D.cal sc_rank_of (fun _ _ _ _ _ _ us hl => match us, hl with | [_, _], _ => rfl) (fun vs H Q E h => ?_) (fun _ cdv A outer s H vs Q E hr h => ?_)
  · exact l_rank_of h
  have nd := sc_rank_of.nd
  refine ⟨_, (pss_one (ps_ret (pe_callB (len_K K) rfl B.len PySem.boot_len (pa_cons (pc c_echelon_rows hr rfl (pa_cons (pv 0) (pa_cons (pv 1) pa_nil))) pa_nil)))), ?_⟩
  obtain ⟨a, ps, rs, wd, rfl, ha, ht, hg, hw, h0, h1, hm, hF, hQ⟩ := h
  refine ⟨_, rfl, _, rfl, a, ps, rs, wd, rfl, ha, ht, hg, hw, h0, h1, hm, hF, fun v H1 k1 e1 => ?_⟩
  obtain ⟨D, qs, rfl, hD, eD, tD⟩ := e1
  refine ⟨D, _, rfl, .inl (SqL.of eD), hQ _ _ k1 ?_⟩
  rw [List.length_map, tD.1]
def sp_factorial_of (K : PySem.W.Frag) : Sp := fun vs H Q _ => ∃ n : Nat, vs = [.int n] ∧ n ≤ 1000 ∧ Q (.int (Lin.fac n)) H
theorem l_factorial_of {vs : List V} {H : Hp} {Q : VK} {E : XK} (h : sp_factorial_of K vs H Q E) : vs.length = 1 := by
  obtain ⟨n, rfl, _⟩ := h
  rfl
abbrev s_factorial_of : Stmt := top 20
abbrev N_factorial_of : List Str := ["number", "found", "factor"]
theorem sc_factorial_of : FnScope N_factorial_of ["number"] (defScope s_factorial_of) := ⟨rfl, rfl, rfl, by decide +kernel, rfl, by decide +kernel, by decide +kernel⟩
theorem d_factorial_of (B : Bt mg)   (D : Dd K mg "factorial_of" s_factorial_of) : Cal P w K mg base 1 "factorial_of" (sp_factorial_of K) := by
  refine D.cal sc_factorial_of (fun _ _ _ _ _ _ us hl => match us, hl with | [_], _ => rfl) (fun vs H Q E h => ?_) (fun _ cdv A outer s H vs Q E hr h => ?_)
  · exact l_factorial_of h
  have nd := sc_factorial_of.nd
  refine ⟨_, (pss_cons (ps_set (i := 1) nd rfl (Or.inl rfl) pe_int) (pss_cons (ps_for PassesOwn.never rfl (pi_range2 rfl B.range (pa_cons pe_int (pa_cons (pe_op op_add (pv 0) pe_int) pa_nil))) (pg_name (i := 2) nd rfl (Or.inl rfl) (Or.inl rfl)) (pss_one (ps_aug (i := 1) nd rfl (Or.inl rfl) (pv 2) iop_mul))) (pss_one (ps_ret (pv 1))))), ?_⟩
  obtain ⟨n, rfl, hn, hQ⟩ := h
  refine ⟨_, rfl, _, _, rfl, rfl, 2, (n : Int) + 1, rfl, by omega, ?_⟩
  refine for_it (n := ((n : Int) + 1 - 2).toNat) (wk_range (d := none) (H1 := H)) (fun i σ H' => H' = H ∧ ∃ z, σ = [some (.int n), some (.int (Lin.fac (i + 1))), z]) ⟨rfl, none, rfl⟩ (fun i σ H' _ p => by rw [p.1]; exact .refl) (fun i x σ H0 H' hi p y => ?_) (fun σ H' p => ?_)
  · obtain ⟨rfl, z, rfl⟩ := p
    obtain ⟨rfl, rfl⟩ := y
    refine ⟨_, rfl, _, rfl, _, _, rfl, rfl, .inr ⟨by omega, by omega⟩, rfl, some (.int (2 + (i : Int))), ?_⟩
    rw [show Lin.fac (i + 1 + 1) = Lin.fac (i + 1) * (2 + (i : Int)) by
      show ((i + 1 : Nat) + 1 : Int) * Lin.fac (i + 1) = _
      rw [Int.mul_comm]; congr 1; omega]
    rfl
  · obtain ⟨rfl, z, rfl⟩ := p
    refine ⟨_, rfl, ?_⟩
    have e : Lin.fac (((n : Int) + 1 - 2).toNat + 1) = Lin.fac n := by
      cases n with
      | zero => rfl
      | succ m => rw [show (((m + 1 : Nat) : Int) + 1 - 2).toNat = m by omega]
    rw [e]
    exact hQ
end
end W0
/-! ## W7 -/
set_option Elab.async false
set_option linter.all false
set_option maxRecDepth 100000
set_option maxHeartbeats 4000000
namespace W0
open PySem PySem.Spec PyProof.Rows L2
section
variable {P : Program} {w : World} {K : PySem.W.Frag} {mg : Str → Option Value} {base : Heap}
theorem Kp.drop {d : Option Addr} {H H1 H2 : Hp} {p : Addr} (a : Kp d H H1) (hp : H p = none) (b : Kp (some p) H1 H2) : Kp d H H2 :=
  ⟨fun x o hd hx hn => b.keep x o (fun z => ne_of_none hx hp (Option.some.inj z).symm) (a.keep x o hd hx hn) hn,
   fun x hd hx => b.tab x (fun z => ne_of_none hx.choose_spec.1 hp (Option.some.inj z).symm) (a.tab x hd hx), fun x hx => a.fr x (b.fr x hx)⟩
theorem inV_ints {x : Int} : ∀ {ns : List Int}, inV (.int x) (iz ns) = decide (x ∈ ns)
  | [] => by simp [inV, iz]
  | n :: ns => by
    have := inV_ints (x := x) (ns := ns)
    unfold inV at this ⊢
    rw [show iz (n :: ns) = .int n :: iz ns from rfl, List.any_cons, this]
    by_cases e : x = n
    · subst e
      rw [show eqV (.int x) (.int x) = true by simp [eqV], Bool.true_or, decide_eq_true (List.mem_cons_self ..)]
    · rw [show eqV (.int n) (.int x) = false by
        have : n ≠ x := fun z => e z.symm
        simp [eqV, this], Bool.false_or, Bool.eq_iff_iff, decide_eq_true_eq, decide_eq_true_eq, List.mem_cons]
      exact ⟨.inr, fun h => h.elim (fun z => absurd z e) id⟩
theorem flat_ints : ∀ ns : List Int, (iz ns).all flatV = true
  | [] => rfl
  | n :: ns => by rw [show iz (n :: ns) = .int n :: iz ns from rfl, List.all_cons, flat_ints ns]; rfl
theorem ixN_of {n j : Nat} (hj : j < n) : ixN n (j : Int) = some j := by
  unfold ixN
  rw [if_pos (by omega), if_pos (by omega)]
  simp
theorem oneP_len (T : List (List Int)) (W : Int) (wd f : Nat) : (Lin.oneP T W wd f).length = wd := by
  unfold Lin.oneP
  have : ∀ (T : List (List Int)) (o : List Int), (T.foldl (fun one t => one.set (Lin.leadOf t) (-(W.fdiv (Lin.fn t (Lin.leadOf t))) * Lin.fn t f)) o).length = o.length := by
    intro T
    induction T with
    | nil => intro o; rfl
    | cons t T ih => intro o; rw [List.foldl_cons, ih, List.length_set]
  rw [this, List.length_set, List.length_replicate]
theorem oneP_one {T : List (List Int)} {W : Int} {wd f j : Nat} {t : List Int} (h : T[j]? = some t) : Lin.oneP (T.take (j + 1)) W wd f = (Lin.oneP (T.take j) W wd f).set (Lin.leadOf t) (-(W.fdiv (Lin.fn t (Lin.leadOf t))) * Lin.fn t f) := by
  rw [take_one h]
  unfold Lin.oneP
  rw [List.foldl_append]
  rfl
theorem rep_flat (k : Nat) (x : V) : (List.replicate k [x]).flatten = List.replicate k x := by
  induction k with
  | zero => rfl
  | succ k ih => rw [List.replicate_succ, List.flatten_cons, ih]; rfl
theorem iz_set {ns : List Int} {j : Nat} {x : Int} : (iz ns).set j (.int x) = iz (ns.set j x) := by
  unfold iz
  rw [List.map_set]
/-! ### kernel_rows -/
def leadsOf (T : List (List Int)) : List Int := T.map fun t => (Lin.leadOf t : Int)
def spKernel (_ : PySem.W.Frag) : Unit := ()
structure KerPre (rs : List (List Int)) (wd : Nat) : Prop where
  len : ∀ r ∈ rs, r.length = wd
  pos : 0 < wd
  few : wd ≤ 100
  cnt : rs.length ≤ 1000
  fitP : Lin.Fits Lin.lessP rs wd 6000
  toldB : ∀ t, t ∈ Lin.echelon Lin.lessP rs wd → Lin.Bd 2000 t
  toldN : (Lin.echelon Lin.lessP rs wd).length ≤ 5
  toldL : ∀ t, t ∈ Lin.echelon Lin.lessP rs wd → t.length = wd ∧ Lin.leadOf t < wd ∧ Lin.fn t (Lin.leadOf t) ≠ 0
  dvd : ∀ t, t ∈ Lin.echelon Lin.lessP rs wd → Lin.fn t (Lin.leadOf t) ∣ Lin.wholeOf (Lin.echelon Lin.lessP rs wd)
  foundF : Lin.Fits Lin.lessP (Lin.foundP (Lin.echelon Lin.lessP rs wd) wd) wd 6000
  foundN : ∀ r, r ∈ Lin.foundP (Lin.echelon Lin.lessP rs wd) wd → r.length = wd
def sp_kernel_rows (K : PySem.W.Frag) : Sp := fun vs H Q _ => ∃ (a : Addr) (ps : List Addr) (rs : List (List Int)) (wd : Nat), vs = [.ref a, .int wd] ∧ H a = some (.lst (ps.map V.ref)) ∧ TabA H ps rs ∧ GxR.TabG H (tabK K) ∧ KerPre rs wd ∧ Ret none (NewTab H (Lin.kerP rs wd)) H Q
theorem l_kernel_rows {vs : List V} {H : Hp} {Q : VK} {E : XK} (h : sp_kernel_rows K vs H Q E) : vs.length = 2 := by
  obtain ⟨a, ps, rs, wd, rfl, _⟩ := h
  rfl
abbrev s_kernel_rows : Stmt := top 26
abbrev N_kernel_rows : List Str := ["rows", "width", "told", "found", "leads", "row", "whole", "lead", "free", "place", "one"]
theorem sc_kernel_rows : FnScope N_kernel_rows ["rows", "width"] (defScope s_kernel_rows) := ⟨rfl, rfl, rfl, by decide +kernel, rfl, by decide +kernel, by decide +kernel⟩
theorem d_kernel_rows (B : Bt mg)  (c_echelon_rows : Cal P w K mg base 4 "echelon_rows" (sp_echelon_rows K)) (c_lead_of : Cal P w K mg base 1 "lead_of" (sp_lead_of K)) (D : Dd K mg "kernel_rows" s_kernel_rows) : Cal P w K mg base 5 "kernel_rows" (sp_kernel_rows K) := by
  refine D.cal sc_kernel_rows (fun _ _ _ _ _ _ us hl => match us, hl with | [_, _], _ => rfl) (fun vs H Q E h => ?_) (fun _ cdv A outer s H vs Q E hr h => ?_)
  · exact l_kernel_rows h
  have nd := sc_kernel_rows.nd
  refine ⟨_, (pss_cons (ps_par (i := 2) (j := 3) rfl nd rfl rfl (by decide) rfl rfl (pa_cons (pc c_echelon_rows hr rfl (pa_cons (pv 0) (pa_cons (pv 1) pa_nil))) (pa_cons (pe_lst pa_nil) pa_nil)) rfl) (pss_cons (ps_set (i := 4) nd rfl (Or.inr rfl) (pe_lc (own := [("row", 5)]) rfl nd (pi_list_K K (pv 2)) (blkOk_by (N := N_kernel_rows) (sc := defScope s_kernel_rows) (by decide +kernel)) (fun _ _ _ _ _ => (pg_name (i := 5) nd rfl (Or.inl rfl) (Or.inr rfl))) (fun _ _ _ _ _ => pts_nil) (fun _ _ _ _ _ => (pc c_lead_of hr rfl (pa_cons (pv 5) pa_nil))))) (pss_cons (ps_set (i := 6) nd rfl (Or.inl rfl) pe_int) (pss_cons (ps_for PassesOwn.never rfl (RZ.pi_zipA rfl B.zip (pa_cons (pv 2) (pa_cons (pv 4) pa_nil))) (pg_tup_K K 2 rfl (pgs_cons (pg_name (i := 5) nd rfl (Or.inl rfl) (Or.inl rfl)) (pgs_cons (pg_name (i := 7) nd rfl (Or.inl rfl) (Or.inl rfl)) pgs_nil))) (pss_one (ps_set (i := 6) nd rfl (Or.inl rfl) (pe_op op_mulW (pv 6) (pe_op op_fdivC (pe_ix (ixl_K K) (pv 5) (pv 7) (fun _ _ => rfl)) (pe_callBfun cr_gcd rfl B.gcd (pa_cons (pv 6) (pa_cons (pe_ix (ixl_K K) (pv 5) (pv 7) (fun _ _ => rfl)) pa_nil)))))))) (pss_cons (ps_for PassesOwn.never rfl (pi_list_K K (pe_lc (own := [("place", 9)]) rfl nd (pi_range1 rfl B.range (pa_cons (pv 1) pa_nil)) (blkOk_by (N := N_kernel_rows) (sc := defScope s_kernel_rows) (by decide +kernel)) (fun _ _ _ _ _ => (pg_name (i := 9) nd rfl (Or.inl rfl) (Or.inr rfl))) (fun _ _ _ _ _ => (pts_one (pt_cmpR (nin_K K) (pv 9) (pv 4) rfl))) (fun _ _ _ _ _ => (pv 9)))) (pg_name (i := 8) nd rfl (Or.inl rfl) (Or.inl rfl)) (pss_cons (ps_set (i := 10) nd rfl (Or.inl rfl) (pe_op op_rep (pe_lst (pa_cons pe_int pa_nil)) (pv 1))) (pss_cons (ps_asg (pv 6) (pg_sub (pv 10) (pv 8) set_list)) (pss_cons (ps_for PassesOwn.never rfl (RZ.pi_zipA rfl B.zip (pa_cons (pv 2) (pa_cons (pv 4) pa_nil))) (pg_tup_K K 2 rfl (pgs_cons (pg_name (i := 5) nd rfl (Or.inl rfl) (Or.inl rfl)) (pgs_cons (pg_name (i := 7) nd rfl (Or.inl rfl) (Or.inl rfl)) pgs_nil))) (pss_one (ps_asg (pe_op op_mulW (pe_un un_neg (pe_op op_fdivC (pv 6) (pe_ix (ixl_K K) (pv 5) (pv 7) (fun _ _ => rfl)))) (pe_ix (ixl_K K) (pv 5) (pv 8) (fun _ _ => rfl))) (pg_sub (pv 10) (pv 7) set_list)))) (pss_one (ps_expr (pe_bm PySem.F.plainAttrs_list PySem.F.slot_list_append PySem.F.type_list_append mt_append (pv 3) (pa_cons (pv 10) pa_nil)))))))) (pss_one (ps_ret (pc c_echelon_rows hr rfl (pa_cons (pv 3) (pa_cons (pv 1) pa_nil)))))))))), ?_⟩
  obtain ⟨a, ps, rs, wd, rfl, ha, ht, hg, KP, hQ⟩ := h
  have h1 := KP.few
  refine ⟨_, rfl, _, rfl, a, ps, rs, wd, rfl, ha, ht, hg, KP.len, KP.pos, by omega, KP.cnt, KP.fitP, fun v Ha ka ea => ?_⟩
  obtain ⟨Tt, ts, rfl, hTt, eT, tT⟩ := ea
  have toldB := KP.toldB
  have toldN := KP.toldN
  have toldL := KP.toldL
  have dvd := KP.dvd
  have foundF := KP.foundF
  have foundN := KP.foundN
  have hker : Lin.kerP rs wd = Lin.echelon Lin.lessP (Lin.foundP (Lin.echelon Lin.lessP rs wd) wd) wd := rfl
  rw [hker] at hQ
  generalize Lin.echelon Lin.lessP rs wd = T at toldB toldN toldL dvd foundF foundN tT hQ
  refine ⟨sz_le (by decide), fun Fd hFd => ⟨_, _, rfl, ?_⟩⟩
  have hFd0 : H Fd = none := ka.fr Fd hFd
  have kb : Kp none Ha (upd Ha Fd (.lst [])) := Kp.new hFd
  have eTb := kb.l eT
  have tTb := tT.keep kb
  have eFb : (upd Ha Fd (.lst [])) Fd = some (.lst []) := upd_same
  have kHb := ka.trans kb
  have nTF : Tt ≠ Fd := ne_of_none eT hFd
  generalize upd Ha Fd (.lst []) = Hb at kb eTb tTb eFb kHb
  refine ⟨_, rfl, Tt, rfl, ⟨_, SqL.of eTb⟩, fun Ld hLd => lc_map (σ := [some (.ref a), some (.int wd), some (.ref Tt), some (.ref Fd), none, none, none, none, none, none, none]) (vs := [5]) (wk_list (d := none) eTb) hLd (by simp) (by rw [List.length_map, tTb.1]; omega) (fun _ _ => True) (fun i v _ => v = .int (Lin.leadOf (T.getD i []) : Nat)) trivial (fun _ _ _ _ => trivial)
      (fun i v H H' k z => z) (fun i x H2 H3 hi k2 _ ac y R hR => ?_) (fun Hc ys kc _ eLc hlen hz => ?_)⟩
  · obtain ⟨rfl, hx⟩ := y
    obtain ⟨p, hp0, rfl⟩ := refs_get hx
    obtain ⟨r, hr, hpr⟩ := tTb.get hp0
    obtain ⟨l1, l2, l3⟩ := toldL r (List.mem_of_getElem? hr)
    refine ⟨wipe1, _, rfl, p, r, rfl, k2.l hpr, by omega, ⟨_, l3⟩, fun v H4 k4 z4 => hR _ _ k4 trivial fun o => ?_⟩
    rw [z4, getD_of hr]
  have eL : Hc Ld = some (.lst (iz (leadsOf T))) := by
    rw [eLc, ints_of (f := fun i => ((Lin.leadOf (T.getD i []) : Nat) : Int)) hlen hz, List.length_map, tTb.1, rng_rows (fun t => ((Lin.leadOf t : Nat) : Int))]
    rfl
  clear hz hlen eLc ys
  have eTc := kc.l eTb
  have tTc := tTb.keep kc
  have eFc := kc.l eFb
  have kHc := kHb.trans kc
  have nLF : Ld ≠ Fd := fun z => by rw [z, eFb] at hLd; cases hLd
  have nTL : Tt ≠ Ld := ne_of_none eTb hLd
  have hlen5 : (leadsOf T).length = T.length := by unfold leadsOf; rw [List.length_map]
  refine ⟨_, rfl, _, rfl, Tt, Ld, _, _, rfl, .inl ⟨SqL.of eTc, SqL.of eL, ?_⟩⟩
  refine for_it (wk_zip (d := none) eTc eL) (fun i σ H' => Kp none Hc H' ∧ (Lin.wholeOf (T.take i)).natAbs < 2 ^ (2000 * i + 1) ∧ ∃ z5 z7, σ = [some (.ref a), some (.int wd), some (.ref Tt), some (.ref Fd), some (.ref Ld), z5, some (.int (Lin.wholeOf (T.take i))), z7, none, none, none]) ⟨.refl, by simp [Lin.wholeOf], none, none, rfl⟩ (fun i σ H' _ p => p.1) (fun i x σ H0 H' hi p y => ?_) (fun σ Hd p => ?_)
  · obtain ⟨k1, hb, z5, z7, rfl⟩ := p
    obtain ⟨T2, x1, y1, rfl, hT2, rfl, h1', h2'⟩ := y
    obtain ⟨p, hp0, rfl⟩ := refs_get h1'
    obtain ⟨r, hr, hpr⟩ := tTc.get hp0
    obtain ⟨n2, hn2, rfl⟩ := ints_get h2'
    have e2 : n2 = (Lin.leadOf r : Nat) := by
      unfold leadsOf at hn2
      rw [List.getElem?_map, hr] at hn2
      exact (Option.some.inj hn2).symm
    subst e2
    obtain ⟨l1, l2, l3⟩ := toldL r (List.mem_of_getElem? hr)
    have kT : Kp none H0 (upd H0 T2 (.tup [.ref p, .int (Lin.leadOf r : Nat)])) := Kp.new hT2
    have hpT := (k1.trans kT).l hpr
    refine ⟨T2, _, rfl, SqT.of upd_same, rfl, _, _, rfl, _, _, rfl, rfl, ?_⟩
    have Br := toldB r (List.mem_of_getElem? hr) (Lin.leadOf r)
    have i5 : i < 5 := Nat.lt_of_lt_of_le (List.getElem?_eq_some_iff.mp hr).1 toldN
    have g0 : ((Nat.gcd (Lin.wholeOf (T.take i)).natAbs (Lin.fn r (Lin.leadOf r)).natAbs : Nat) : Int) ≠ 0 := by rw [Nat.gcd_comm]; exact gcd_ne _ l3
    have dl := Lin.fdiv_le (Lin.fn r (Lin.leadOf r)) (Nat.gcd (Lin.wholeOf (T.take i)).natAbs (Lin.fn r (Lin.leadOf r)).natAbs : Nat) g0 (Int.ofNat_dvd_left.mpr (Nat.gcd_dvd_right _ _))
    have d2 : ((Lin.fn r (Lin.leadOf r)).fdiv (Nat.gcd (Lin.wholeOf (T.take i)).natAbs (Lin.fn r (Lin.leadOf r)).natAbs : Nat)).natAbs < 2 ^ 2000 := Nat.lt_of_le_of_lt dl Br
    refine ⟨_, rfl, _, rfl, _, rfl, p, _, _, _, rfl, rfl, SqL.of hpT, iz_at (i := Lin.leadOf r) (by omega), _, rfl, _, rfl, _, rfl, p, _, _, _, rfl, rfl, SqL.of hpT, iz_at (i := Lin.leadOf r) (by omega), _, _, rfl, ?_⟩
    refine ⟨_, _, rfl, rfl, divc_of g0 (lt_bits (a := 2000) (b := 13400) Br (by decide)), _, _, rfl, rfl, wide_mul hb d2 (by omega) (by decide) (by omega), k1.trans kT, ?_⟩
    have e3 : Lin.wholeOf (T.take (i + 1)) = Lin.wholeOf (T.take i) * (Lin.fn r (Lin.leadOf r)).fdiv (Nat.gcd (Lin.wholeOf (T.take i)).natAbs (Lin.fn r (Lin.leadOf r)).natAbs : Nat) := by
      rw [take_one hr]
      unfold Lin.wholeOf
      rw [List.foldl_append]
      rfl
    refine ⟨?_, _, _, by rw [e3]; rfl⟩
    rw [e3, Int.natAbs_mul]
    have := Lin.mul_lt_pow hb d2
    exact lt_bits this (by omega)
  obtain ⟨kd, hWb, z5, z7, rfl⟩ := p
  have eN : min (ts.map V.ref).length (iz (leadsOf T)).length = T.length := by rw [iz_len, hlen5, List.length_map, tTc.1, Nat.min_self]
  rw [eN, List.take_length] at hWb ⊢
  have hW : (Lin.wholeOf T).natAbs < 2 ^ 10001 := lt_bits hWb (by omega)
  generalize hWw : Lin.wholeOf T = W at hW dvd
  have eTd := kd.l eTc
  have tTd := tTc.keep kd
  have eLd := kd.l eL
  have eFdd := kd.l eFc
  have kHd := kHc.trans kd
  clear eTc tTc eL eFc kHc kd eTb tTb eFb kHb kb kc hWb eN
  -- the free places
  refine ⟨_, rfl, wd, rfl, by omega, by omega, fun Fr hFr => lc_filter (σ := [some (.ref a), some (.int wd), some (.ref Tt), some (.ref Fd), some (.ref Ld), z5, some (.int W), z7, none, none, none]) (vs := [9]) (n := wd) (wk_range (d := none)) hFr (by simp) (by omega) (fun p => decide (p ∉ T.map Lin.leadOf)) (fun p => (p : Int)) (fun i x H2 H3 hi k2 y KK NN hK hN => ?_) (fun He ke eFr => ?_)⟩
  · obtain ⟨rfl, rfl⟩ := y
    refine ⟨wipe1, _, rfl, _, rfl, Ld, _, rfl, .inl (SqL.of (k2.l eLd)), rfl, flat_ints _, _, rfl, ?_⟩
    rw [show (if true = true then !inV (V.int (0 + (i : Int))) (iz (leadsOf T)) else inV (V.int (0 + (i : Int))) (iz (leadsOf T))) = decide (i ∉ T.map Lin.leadOf) by
      rw [if_pos rfl, inV_ints, Bool.eq_iff_iff]
      simp only [Bool.not_eq_true', decide_eq_false_iff_not, decide_eq_true_eq, leadsOf, List.mem_map, Int.zero_add]
      exact not_congr ⟨fun ⟨t, ht, e⟩ => ⟨t, ht, by omega⟩, fun ⟨t, ht, e⟩ => ⟨t, ht, by omega⟩⟩]
    by_cases z : i ∉ T.map Lin.leadOf
    · refine ifT (decide_eq_true z) ⟨_, rfl, ?_⟩
      have := hK _ .refl (decide_eq_true z)
      show KK (.int (0 + (i : Int))) _
      rw [Int.zero_add]
      exact this
    · exact ifF (decide_eq_false z) (hN _ .refl (decide_eq_false z))
  have eFr2 : He Fr = some (.lst (iz ((Lin.freeOf T wd).map fun p : Nat => (p : Int)))) := eFr
  clear eFr
  have eTe := ke.l eTd
  have tTe := tTd.keep ke
  have eLe := ke.l eLd
  have eFe := ke.l eFdd
  have kHe := kHd.trans ke
  have nFrF : Fr ≠ Fd := (ne_of_none eFdd hFr).symm
  clear eTd tTd eLd eFdd kHd ke
  refine ⟨Fr, rfl, ⟨_, SqL.of eFr2⟩, ?_⟩
  refine for_it (wk_list (d := some Fd) eFr2 (fun z => nFrF (Option.some.inj z).symm)) (fun i σ H' => Kp (some Fd) He H' ∧ (∃ fps : List Addr, H' Fd = some (.lst (fps.map V.ref)) ∧ TabL H' fps ((Lin.foundP T wd).take i)) ∧ ∃ z5 z7 z8 z9 z10, σ = [some (.ref a), some (.int wd), some (.ref Tt), some (.ref Fd), some (.ref Ld), z5, some (.int W), z7, z8, z9, z10]) ⟨.refl, ⟨[], eFe, rfl, fun i p r hp => by simp at hp⟩, _, _, _, _, _, rfl⟩ (fun i σ H' _ p => p.1) (fun i x σ Hq H0 hi p y => ?_) (fun σ H9 p => ?_)
  · obtain ⟨k9, ⟨fps, eF0, t0⟩, z5', z7', z8, z9, z10, rfl⟩ := p
    obtain ⟨rfl, hx⟩ := y
    obtain ⟨n, hn, rfl⟩ := ints_get hx
    obtain ⟨f, hf, rfl⟩ : ∃ f : Nat, (Lin.freeOf T wd)[i]? = some f ∧ n = (f : Int) := by
      rw [List.getElem?_map] at hn
      cases e : (Lin.freeOf T wd)[i]? with
      | none => rw [e] at hn; cases hn
      | some f => rw [e] at hn; exact ⟨f, rfl, (Option.some.inj hn).symm⟩
    have hfw : f < wd := by
      have := List.mem_of_getElem? hf
      unfold Lin.freeOf at this
      exact List.mem_range.mp (List.mem_filter.mp this).1
    have hfo : (Lin.foundP T wd)[i]? = some (Lin.oneP T W wd f) := by
      unfold Lin.foundP
      rw [List.getElem?_map, hf, hWw]
      rfl
    have row_len : ∀ r ∈ (Lin.foundP T wd).take i, r.length = wd := fun r hr => foundN r (List.mem_of_mem_take hr)
    refine ⟨sz_le (by decide), fun l hl => ⟨_, rfl, l, wd, _, rfl, rfl, upd_same, by omega, by omega, sz_le (by simp; omega), fun On hOn => ?_⟩⟩
    have kl : Kp none H0 (upd (upd H0 l (.lst [.int 0])) On (.lst (List.replicate (wd : Int).toNat [V.int 0]).flatten)) := (Kp.new hl).trans (Kp.new hOn)
    have hOn0 : H0 On = none := (Kp.new (d := none) hl).fr On hOn
    have eOn : (upd (upd H0 l (.lst [.int 0])) On (.lst (List.replicate (wd : Int).toNat [V.int 0]).flatten)) On = some (.lst (iz (List.replicate wd 0))) := by
      rw [upd_same, rep_flat]
      congr 2
      unfold iz
      rw [List.map_replicate]
      rfl
    generalize upd (upd H0 l (.lst [.int 0])) On (.lst (List.replicate (wd : Int).toNat [V.int 0]).flatten) = Hy at kl eOn
    refine ⟨_, rfl, _, rfl, _, rfl, On, _, (f : Int), f, rfl, rfl, eOn, ixN_of (by rw [iz_len, List.length_replicate]; exact hfw), ?_⟩
    rw [iz_set]
    have eTy := kl.l (k9.l eTe (fun z => nTF (Option.some.inj z).symm))
    have eLy := kl.l (k9.l eLe (fun z => nLF (Option.some.inj z).symm))
    have eFy := kl.l eF0
    have nTO : Tt ≠ On := ne_of_none (k9.l eTe (fun z => nTF (Option.some.inj z).symm)) hOn0
    have nLO : Ld ≠ On := ne_of_none (k9.l eLe (fun z => nLF (Option.some.inj z).symm)) hOn0
    have nFO : Fd ≠ On := ne_of_none eF0 hOn0
    have offT : ∀ p ∈ ts, p ≠ Fd := tTe.off (qs := []) KP.pos (fun r hr => (toldL r hr).1) eFe
    have tT0 := tTe.keep k9 (fun p hp z => offT p hp (Option.some.inj z).symm)
    have tTO : ∀ p ∈ ts, p ≠ On := fun p hp => by
      obtain ⟨q, hq, rfl⟩ := List.mem_iff_getElem.mp hp
      obtain ⟨r, _, hr⟩ := tT0.get (List.getElem?_eq_getElem hq)
      exact ne_of_none hr hOn0
    have tTz := (tT0.keep kl).upd (o := .lst (iz ((List.replicate wd 0).set f W))) tTO
    have tfO : ∀ p ∈ fps, p ≠ On := fun p hp => by
      obtain ⟨q, hq, rfl⟩ := List.mem_iff_getElem.mp hp
      obtain ⟨r, _, hr⟩ := t0.get (List.getElem?_eq_getElem hq)
      exact ne_of_none hr hOn0
    have tfz := (t0.keep kl).upd (o := .lst (iz ((List.replicate wd 0).set f W))) tfO
    have eTz : (upd Hy On (.lst (iz ((List.replicate wd 0).set f W)))) Tt = some (.lst (ts.map V.ref)) := by rw [upd_ne nTO]; exact eTy
    have eLz : (upd Hy On (.lst (iz ((List.replicate wd 0).set f W)))) Ld = some (.lst (iz (leadsOf T))) := by rw [upd_ne nLO]; exact eLy
    have eFz : (upd Hy On (.lst (iz ((List.replicate wd 0).set f W)))) Fd = some (.lst (fps.map V.ref)) := by rw [upd_ne nFO]; exact eFy
    have eOz : (upd Hy On (.lst (iz ((List.replicate wd 0).set f W)))) On = some (.lst (iz (Lin.oneP (T.take 0) W wd f))) := upd_same
    have kz : Kp (some Fd) He (upd Hy On (.lst (iz ((List.replicate wd 0).set f W)))) := (k9.trans kl.any).mut (k9.fr On hOn0)
    generalize upd Hy On (.lst (iz ((List.replicate wd 0).set f W))) = Hz at eTz eLz eFz eOz kz tTz tfz
    refine ⟨_, rfl, _, rfl, Tt, Ld, _, _, rfl, .inl ⟨SqL.of eTz, SqL.of eLz, ?_⟩⟩
    refine for_it (wk_zip (d := some On) eTz eLz (fun z => nTO (Option.some.inj z).symm) (fun z => nLO (Option.some.inj z).symm)) (fun j σ H' => Kp (some On) Hz H' ∧ H' On = some (.lst (iz (Lin.oneP (T.take j) W wd f))) ∧ ∃ z5 z7 z9, σ = [some (.ref a), some (.int wd), some (.ref Tt), some (.ref Fd), some (.ref Ld), z5, some (.int W), z7, some (.int f), z9, some (.ref On)]) ⟨.refl, eOz, _, _, _, rfl⟩ (fun j σ H' _ p => p.1) (fun j x σ H2 H' hj p y => ?_) (fun σ H4 p => ?_)
    · obtain ⟨k1, hO, z5, z7, z9, rfl⟩ := p
      obtain ⟨T2, x1, y1, rfl, hT2, rfl, h1', h2'⟩ := y
      obtain ⟨p, hp0, rfl⟩ := refs_get h1'
      obtain ⟨r, hr, hpr⟩ := tTz.get hp0
      obtain ⟨n2, hn2, rfl⟩ := ints_get h2'
      have e2 : n2 = (Lin.leadOf r : Nat) := by
        unfold leadsOf at hn2
        rw [List.getElem?_map, hr] at hn2
        exact (Option.some.inj hn2).symm
      subst e2
      have hrm := List.mem_of_getElem? hr
      obtain ⟨l1, l2, l3⟩ := toldL r hrm
      have kT : Kp none H2 (upd H2 T2 (.tup [.ref p, .int (Lin.leadOf r : Nat)])) := Kp.new hT2
      have npO : p ≠ On := tTO p (List.mem_of_getElem? hp0)
      have hpT := (k1.trans kT.any).l hpr (fun z => npO (Option.some.inj z).symm)
      have hOT := kT.l hO
      refine ⟨T2, _, rfl, SqT.of upd_same, rfl, _, _, rfl, _, _, rfl, rfl, ?_⟩
      have dl := Lin.fdiv_le W (Lin.fn r (Lin.leadOf r)) l3 (dvd r hrm)
      have d1 : (-(W.fdiv (Lin.fn r (Lin.leadOf r)))).natAbs < 2 ^ 10001 := by rw [Int.natAbs_neg]; exact Nat.lt_of_le_of_lt dl hW
      refine ⟨_, rfl, _, rfl, _, rfl, p, _, _, _, rfl, rfl, SqL.of hpT, iz_at (i := Lin.leadOf r) (by omega), _, _, rfl, rfl, divc_of l3 (lt_bits (a := 10001) (b := 13400) hW (by decide)), _, rfl, _, rfl, _, rfl, p, _, _, _, rfl, rfl, SqL.of hpT, iz_at (i := f) (by omega), _, _, rfl, rfl, wide_mul (a := 10001) (b := 2000) d1 (toldB r hrm f) (by decide) (by decide) (by decide), ?_⟩
      refine ⟨_, rfl, _, rfl, On, _, _, Lin.leadOf r, rfl, rfl, hOT, ixN_of (by rw [iz_len, oneP_len]; exact l2), Kp.at (k1.trans kT.any) (fun z => by rw [z] at eOz; cases eOz), ?_, _, _, _, rfl⟩
      rw [upd_same, iz_set, oneP_one hr]
    · obtain ⟨k4, hO4, z5, z7, z9, rfl⟩ := p
      have eN : min (ts.map V.ref).length (iz (leadsOf T)).length = T.length := by rw [iz_len, hlen5, List.length_map, tTz.1, Nat.min_self]
      rw [eN, List.take_length] at hO4
      have eF4 := k4.l eFz (fun z => nFO (Option.some.inj z).symm)
      have t4 := tfz.keep k4 (fun p hp z => tfO p hp (Option.some.inj z).symm)
      have off4 := t4.off KP.pos row_len eF4
      have hfl := t4.1
      have hil : i < (Lin.foundP T wd).length := (List.getElem?_eq_some_iff.mp hfo).1
      have fl : (Lin.foundP T wd).length ≤ 1000 := by
        unfold Lin.foundP Lin.freeOf
        rw [List.length_map]
        have := List.length_filter_le (fun p => decide (p ∉ T.map Lin.leadOf)) (List.range wd)
        rw [List.length_range] at this
        omega
      refine ⟨_, rfl, .inl ⟨rfl, _, SqL.of eF4⟩, _, rfl, Fd, _, _, rfl, rfl, eF4, sz_lt (by rw [List.length_map, hfl, List.length_take]; omega), ?_⟩
      have k40 : Kp (some Fd) He H4 := kz.drop (k9.fr On hOn0) k4
      refine ⟨Kp.at k40 (fun z => by rw [z] at eFe; cases eFe), ⟨fps ++ [On], by rw [upd_same, List.map_append]; rfl, ?_⟩, _, _, _, _, _, rfl⟩
      rw [take_one hfo]
      exact (t4.upd off4).snoc (by rw [upd_ne nFO.symm]; exact hO4)
  · obtain ⟨k9, ⟨fps, eF9, t9⟩, z5, z7, z8, z9, z10, rfl⟩ := p
    have hn : (iz ((Lin.freeOf T wd).map fun p : Nat => (p : Int))).length = (Lin.foundP T wd).length := by rw [iz_len, List.length_map]; unfold Lin.foundP; rw [List.length_map]
    rw [hn, List.take_length] at t9
    have k90 : Kp none H H9 := kHe.drop hFd0 k9
    have fl : (Lin.foundP T wd).length ≤ 1000 := by
      unfold Lin.foundP Lin.freeOf
      rw [List.length_map]
      have := List.length_filter_le (fun p => decide (p ∉ T.map Lin.leadOf)) (List.range wd)
      rw [List.length_range] at this
      omega
    refine ⟨_, rfl, _, rfl, Fd, fps, _, wd, rfl, eF9, t9.any, k90.tg hg, foundN, KP.pos, by omega, fl, foundF, fun v Hx kx ex => ?_⟩
    obtain ⟨D, qs, rfl, hD, eD, tD⟩ := ex
    exact hQ _ _ (k90.trans kx) ⟨D, qs, rfl, k90.fr D hD, eD, tD⟩
end
end W0
/-! ## W8 -/
set_option Elab.async false
set_option linter.all false
set_option maxRecDepth 100000
set_option maxHeartbeats 4000000
namespace W0
open PySem PySem.Spec PyProof.Rows L2
section
variable {P : Program} {w : World} {K : PySem.W.Frag} {mg : Str → Option Value} {base : Heap}
/-! ### level_entries, level_rows, ranks_in, killers_in -/
/-- a form's entries as the law draws them -/
structure Small (es : List Int) : Prop where
  pos : 1 ≤ es.length
  few : es.length ≤ 9
  bd : ∀ i, (Lin.fn es i).natAbs ≤ 1000000000000
theorem fac_lt {n : Nat} (h : n ≤ 8) : (Lin.fac n).natAbs < 2 ^ 20 := (by decide : ∀ m : Fin 9, (Lin.fac m.val).natAbs < 2 ^ 20) ⟨n, by omega⟩
def NewInts (H : Hp) (ns : List Int) : V → Hp → Prop := fun v H' => ∃ D : Addr, v = .ref D ∧ H D = none ∧ H' D = some (.lst (iz ns))
def NewTabT (H : Hp) (rs : List (List Int)) : V → Hp → Prop := fun v H' => ∃ (D : Addr) (ps : List Addr), v = .ref D ∧ H D = none ∧ H' D = some (.lst (ps.map V.ref)) ∧ TabT H' ps rs
def sp_level_entries (K : PySem.W.Frag) : Sp := fun vs H Q _ => ∃ (a : Addr) (es : List Int), vs = [.ref a] ∧ H a = some (.tup (iz es)) ∧ Small es ∧ Ret none (NewInts H (Lin.levels es)) H Q
theorem l_level_entries {vs : List V} {H : Hp} {Q : VK} {E : XK} (h : sp_level_entries K vs H Q E) : vs.length = 1 := by
  obtain ⟨a, es, rfl, _⟩ := h
  rfl
abbrev s_level_entries : Stmt := top 40
abbrev N_level_entries : List Str := ["entries", "last", "at", "entry"]
theorem sc_level_entries : FnScope N_level_entries ["entries"] (defScope s_level_entries) := ⟨rfl, rfl, rfl, by decide +kernel, rfl, by decide +kernel, by decide +kernel⟩
theorem d_level_entries (B : Bt mg)  (c_factorial_of : Cal P w K mg base 1 "factorial_of" (sp_factorial_of K)) (D : Dd K mg "level_entries" s_level_entries) : Cal P w K mg base 2 "level_entries" (sp_level_entries K) := by
  refine D.cal sc_level_entries (fun _ _ _ _ _ _ us hl => match us, hl with | [_], _ => rfl) (fun vs H Q E h => ?_) (fun _ cdv A outer s H vs Q E hr h => ?_)
  · exact l_level_entries h
  have nd := sc_level_entries.nd
  refine ⟨_, (pss_cons (ps_set (i := 1) nd rfl (Or.inr rfl) (pe_op op_sub (pe_callB (len_K K) rfl B.len PySem.boot_len (pa_cons (pv 0) pa_nil)) pe_int)) (pss_one (ps_ret (pe_lc (own := [("at", 2), ("entry", 3)]) rfl nd (pi_enumT_K K rfl B.enumerate (pa_cons (pv 0) pa_nil)) (blkOk_by (N := N_level_entries) (sc := defScope s_level_entries) (by decide +kernel)) (fun _ _ _ _ _ => (pg_tup_K K 2 rfl (pgs_cons (pg_name (i := 2) nd rfl (Or.inl rfl) (Or.inr rfl)) (pgs_cons (pg_name (i := 3) nd rfl (Or.inl rfl) (Or.inr rfl)) pgs_nil)))) (fun _ _ _ _ _ => pts_nil) (fun _ _ _ _ _ => (pe_op op_mulW (pe_op op_mulW (pc c_factorial_of hr rfl (pa_cons (pv 2) pa_nil)) (pc c_factorial_of hr rfl (pa_cons (pe_op op_sub (pv 1) (pv 2)) pa_nil))) (pv 3))))))), ?_⟩
  obtain ⟨a, es, rfl, ha, S, hQ⟩ := h
  have h9 := S.few
  have h1 := S.pos
  refine ⟨_, rfl, a, _, rfl, .inr (SqT.of ha), _, _, rfl, rfl, ?_⟩
  rw [iz_len]
  refine ⟨_, rfl, a, _, rfl, SqT.of ha, fun D hD => lc_map (σ := [some (.ref a), some (.int ((es.length : Int) - 1)), none, none]) (vs := [2, 3]) (wk_enumT (d := none) ha) hD (by simp) (by rw [iz_len]; omega) (fun _ _ => True) (fun i v _ => v = .int (Lin.fac i * Lin.fac (es.length - 1 - i) * Lin.fn es i)) trivial (fun _ _ _ _ => trivial) (fun _ _ _ _ _ e => e) (fun i x H2 H3 hi k2 _ _ y R hR => ?_) (fun H2 ys k2 _ hD2 hlen hz2 => ?_)⟩
  · obtain ⟨T, x1, y1, rfl, hT, rfl, h1', h2'⟩ := y
    cases h1'
    obtain ⟨n, hn, rfl⟩ := ints_get h2'
    rw [iz_len] at hi
    have hb := S.bd i
    rw [getI hn] at hb
    have b1 := fac_lt (n := i) (by omega)
    have b2 := fac_lt (n := es.length - 1 - i) (by omega)
    refine ⟨T, _, rfl, SqT.of upd_same, rfl, _, _, rfl, _, _, rfl, rfl, wipe2, ?_⟩
    refine ⟨_, rfl, i, rfl, by omega, _, rfl, _, rfl, _, _, rfl, rfl, es.length - 1 - i, ?_, by omega, _, _, rfl, rfl, wide_mul (a := 20) (b := 20) b1 b2 (by decide) (by decide) (by decide), _, rfl, _, _, rfl, rfl, wide_mul (a := 40) (b := 64) ?_ (Nat.lt_of_le_of_lt hb (by decide)) (by decide) (by decide) (by decide), hR _ _ (Kp.new hT) trivial fun o => ?_⟩
    · show [V.int ((es.length : Int) - 1 - (i : Int))] = _
      congr 2; omega
    · rw [Int.natAbs_mul]
      exact Lin.mul_lt_pow b1 b2
    · rw [getI hn]
  · refine hQ _ _ k2 ⟨D, rfl, hD, ?_⟩
    rw [hD2, ints_of hlen hz2, iz_len]
    rfl
theorem sIx_of {n : Nat} {dflt k : Nat} (h : k ≤ n) : HT.sIx n dflt (some (k : Int)) = k := by
  rw [HT.sIx_nat]; omega
theorem cut_iz {L : List Int} {l m : Nat} (h : l + m ≤ L.length) : cutV (iz L) (some (l : Int)) (some ((l + m : Nat) : Int)) = iz ((List.range m).map fun i => Lin.fn L (l + i)) := by
  unfold cutV
  rw [iz_len, sIx_of (k := l) (by omega), sIx_of (k := l + m) h, show l + m - l = m by omega]
  refine List.ext_getElem? fun i => ?_
  rw [List.getElem?_take]
  by_cases hi : i < m
  · rw [if_pos hi, List.getElem?_drop]
    unfold iz
    rw [List.getElem?_map, List.getElem?_map, List.getElem?_map, List.getElem?_range hi, getI' (by omega : l + i < L.length)]
    rfl
  · rw [if_neg hi]
    unfold iz
    rw [List.getElem?_eq_none (by simp; omega)]
def sp_level_rows (K : PySem.W.Frag) : Sp := fun vs H Q _ => ∃ (a : Addr) (es : List Int) (d : Nat), vs = [.ref a, .int d] ∧ H a = some (.tup (iz es)) ∧ Small es ∧ d ≤ es.length ∧ Ret none (NewTabT H (Lin.lvl es d)) H Q
theorem l_level_rows {vs : List V} {H : Hp} {Q : VK} {E : XK} (h : sp_level_rows K vs H Q E) : vs.length = 2 := by
  obtain ⟨a, es, d, rfl, _⟩ := h
  rfl
theorem levels_len (es : List Int) : (Lin.levels es).length = es.length := by unfold Lin.levels; rw [List.length_map, List.length_range]
theorem lvl_eq {es : List Int} (h1 : 1 ≤ es.length) {d : Nat} (hd : d ≤ es.length) : Lin.lvl es d = (List.range (es.length - d)).map fun l => (List.range (d + 1)).map fun i => Lin.fn (Lin.levels es) (l + i) := by
  unfold Lin.lvl Lin.lev
  rw [show es.length - 1 + 1 - d = es.length - d by omega]
abbrev s_level_rows : Stmt := top 41
abbrev N_level_rows : List Str := ["entries", "degree", "told", "at"]
theorem sc_level_rows : FnScope N_level_rows ["entries", "degree"] (defScope s_level_rows) := ⟨rfl, rfl, rfl, by decide +kernel, rfl, by decide +kernel, by decide +kernel⟩
theorem d_level_rows (B : Bt mg)  (c_level_entries : Cal P w K mg base 2 "level_entries" (sp_level_entries K)) (D : Dd K mg "level_rows" s_level_rows) : Cal P w K mg base 3 "level_rows" (sp_level_rows K) := by
  refine D.cal sc_level_rows (fun _ _ _ _ _ _ us hl => match us, hl with | [_, _], _ => rfl) (fun vs H Q E h => ?_) (fun _ cdv A outer s H vs Q E hr h => ?_)
  · exact l_level_rows h
  have nd := sc_level_rows.nd
  refine ⟨_, (pss_cons (ps_set (i := 2) nd rfl (Or.inr rfl) (pc c_level_entries hr rfl (pa_cons (pv 0) pa_nil))) (pss_one (ps_ret (pe_lc (own := [("at", 3)]) rfl nd (pi_range1 rfl B.range (pa_cons (pe_op op_sub (pe_callB (len_K K) rfl B.len PySem.boot_len (pa_cons (pv 0) pa_nil)) (pv 1)) pa_nil)) (blkOk_by (N := N_level_rows) (sc := defScope s_level_rows) (by decide +kernel)) (fun _ _ _ _ _ => (pg_name (i := 3) nd rfl (Or.inl rfl) (Or.inr rfl))) (fun _ _ _ _ _ => pts_nil) (fun _ _ _ _ _ => (pe_callTy (tuple_K K) rfl B.tuple (by decide +kernel) (pa_cons (pe_slice (sll_K K) (pv 2) (po_some (pv 3)) (po_some (pe_op op_add (pe_op op_add (pv 3) (pv 1)) pe_int))) pa_nil))))))), ?_⟩
  obtain ⟨a, es, d, rfl, ha, S, hd, hQ⟩ := h
  have h9 := S.few
  have h1 := S.pos
  refine ⟨_, rfl, a, es, rfl, ha, S, fun v H1 k1 e1 => ?_⟩
  obtain ⟨L, rfl, hL, eL⟩ := e1
  have ha1 := k1.t ha
  refine ⟨_, rfl, a, _, rfl, .inr (SqT.of ha1), _, rfl, _, _, rfl, rfl, _, rfl, ?_⟩
  rw [iz_len]
  refine ⟨by omega, by omega, fun D hD => lc_map (n := ((es.length : Int) - (d : Int)).toNat) (σ := [some (.ref a), some (.int d), some (.ref L), none]) (vs := [3]) (wk_range (d := none)) hD (by simp) (by omega) (fun _ _ => True) (fun i v H => ∃ p, v = .ref p ∧ H p = some (.tup (iz ((List.range (d + 1)).map fun j => Lin.fn (Lin.levels es) (i + j))))) trivial (fun _ _ _ _ => trivial) (fun i v H H' k z => let ⟨p, e, z⟩ := z; ⟨p, e, k.t z⟩) (fun i x H2 H3 hi k2 _ ac y R hR => ?_) (fun H2 ys k2 _ hD2 hlen hz => ?_)⟩
  · obtain ⟨rfl, rfl⟩ := y
    obtain ⟨acc, hacc⟩ := ac
    have eL2 := k2.l eL
    refine ⟨wipe1, _, rfl, _, rfl, _, rfl, _, rfl, _, rfl, _, _, rfl, rfl, _, _, rfl, rfl, _, rfl, L, _, rfl, SqL.of eL2, fun C hC => ?_⟩
    refine ⟨C, _, rfl, .inl ⟨SqL.of upd_same, fun l hl => ?_⟩⟩
    refine hR _ _ ((Kp.new hC).trans (Kp.new hl)) trivial fun o => ⟨l, rfl, ?_⟩
    have nl : l ≠ D := fun z => by
      rw [z, upd_ne (ne_of_none hacc hC)] at hl
      rw [hacc] at hl; cases hl
    rw [upd_ne nl, upd_same, show (0 : Int) + (i : Int) + (d : Int) + 1 = ((i + (d + 1) : Nat) : Int) by omega, show (0 : Int) + (i : Int) = (i : Int) by omega, cut_iz (by rw [levels_len]; omega)]
  · obtain ⟨qs, rfl, tq⟩ := tabT_of (f := fun i => (List.range (d + 1)).map fun j => Lin.fn (Lin.levels es) (i + j)) hlen hz
    refine hQ _ _ (k1.trans k2) ⟨D, qs, rfl, k1.fr D hD, hD2, ?_⟩
    rw [lvl_eq h1 hd, show es.length - d = ((es.length : Int) - (d : Int)).toNat by omega]
    exact tq
def sp_ranks_in (K : PySem.W.Frag) : Sp := fun vs H Q _ => ∃ (a : Addr) (es : List Int), vs = [.ref a] ∧ H a = some (.tup (iz es)) ∧ Small es ∧ GxR.TabG H (tabK K) ∧ Ret none (NewInts H ((Lin.ranks es).map fun n : Nat => (n : Int))) H Q
theorem l_ranks_in {vs : List V} {H : Hp} {Q : VK} {E : XK} (h : sp_ranks_in K vs H Q E) : vs.length = 1 := by
  obtain ⟨a, es, rfl, _⟩ := h
  rfl
theorem Small.fits {es : List Int} (S : Small es) {d : Nat} (hd : d ≤ es.length) : Lin.KerFits (Lin.lvl es d) (d + 1) (Lin.sz 6 56) := Lin.lvl_fits S.pos S.few S.bd hd
theorem lvl_count {es : List Int} (S : Small es) (d : Nat) : (Lin.lvl es d).length ≤ 9 := by
  have := S.few
  have := S.pos
  rw [Lin.lvl_count]; omega
abbrev s_ranks_in : Stmt := top 42
abbrev N_ranks_in : List Str := ["entries", "degree"]
theorem sc_ranks_in : FnScope N_ranks_in ["entries"] (defScope s_ranks_in) := ⟨rfl, rfl, rfl, by decide +kernel, rfl, by decide +kernel, by decide +kernel⟩
theorem d_ranks_in (B : Bt mg)  (c_rank_of : Cal P w K mg base 5 "rank_of" (sp_rank_of K)) (c_level_rows : Cal P w K mg base 3 "level_rows" (sp_level_rows K)) (D : Dd K mg "ranks_in" s_ranks_in) : Cal P w K mg base 6 "ranks_in" (sp_ranks_in K) := by
  refine D.cal sc_ranks_in (fun _ _ _ _ _ _ us hl => match us, hl with | [_], _ => rfl) (fun vs H Q E h => ?_) (fun _ cdv A outer s H vs Q E hr h => ?_)
  · exact l_ranks_in h
  have nd := sc_ranks_in.nd
  refine ⟨_, (pss_one (ps_ret (pe_lc (own := [("degree", 1)]) rfl nd (pi_range1 rfl B.range (pa_cons (pe_callB (len_K K) rfl B.len PySem.boot_len (pa_cons (pv 0) pa_nil)) pa_nil)) (blkOk_by (N := N_ranks_in) (sc := defScope s_ranks_in) (by decide +kernel)) (fun _ _ _ _ _ => (pg_name (i := 1) nd rfl (Or.inl rfl) (Or.inr rfl))) (fun _ _ _ _ _ => pts_nil) (fun _ _ _ _ _ => (pc c_rank_of hr rfl (pa_cons (pc c_level_rows hr rfl (pa_cons (pv 0) (pa_cons (pv 1) pa_nil))) (pa_cons (pe_op op_add (pv 1) pe_int) pa_nil))))))), ?_⟩
  obtain ⟨a, es, rfl, ha, S, hg, hQ⟩ := h
  have h9 := S.few
  have h1 := S.pos
  refine ⟨_, rfl, a, _, rfl, .inr (SqT.of ha), ?_⟩
  rw [iz_len]
  refine ⟨_, rfl, by omega, by omega, fun D hD => lc_map (n := (es.length : Int).toNat) (σ := [some (.ref a), none]) (vs := [1]) (wk_range (d := none)) hD (by simp) (by omega) (fun _ _ => True) (fun i v _ => v = .int (Lin.rankP es i : Nat)) trivial (fun _ _ _ _ => trivial) (fun _ _ _ _ _ e => e) (fun i x H2 H3 hi k2 _ _ y R hR => ?_) (fun H2 ys k2 _ hD2 hlen hz => ?_)⟩
  · obtain ⟨rfl, rfl⟩ := y
    have hi2 : i < es.length := by omega
    have F := S.fits (d := i) (by omega)
    have e0 : (0 : Int) + (i : Int) = (i : Int) := Int.zero_add _
    refine ⟨wipe1, _, rfl, _, rfl, a, es, i, congrArg (fun z : Int => [V.ref a, V.int z]) e0, k2.t ha, S, by omega, fun v H1 k1 e1 => ?_⟩
    obtain ⟨L, ps, rfl, hL, eL, tL⟩ := e1
    refine ⟨_, rfl, _, _, rfl, rfl, L, ps, _, i + 1, congrArg (fun z : Int => [V.ref L, V.int (z + 1)]) e0, eL, tL.any, (k2.trans k1).tg hg, Lin.lvl_len, by omega, by omega, by have := lvl_count S i; omega, F.rowsP, fun v H4 k4 e4 => hR _ _ (k1.trans k4) trivial fun o => ?_⟩
    rw [e4]
    rfl
  · refine hQ _ _ k2 ⟨D, rfl, hD, ?_⟩
    rw [hD2, ints_of hlen hz]
    unfold Lin.ranks
    rw [List.map_map]
    rfl
def sp_killers_in (K : PySem.W.Frag) : Sp := fun vs H Q _ => ∃ (a : Addr) (es : List Int) (d : Nat), vs = [.ref a, .int d] ∧ H a = some (.tup (iz es)) ∧ Small es ∧ d ≤ es.length ∧ GxR.TabG H (tabK K) ∧ Ret none (NewTabT H (Lin.kills es d)) H Q
theorem l_killers_in {vs : List V} {H : Hp} {Q : VK} {E : XK} (h : sp_killers_in K vs H Q E) : vs.length = 2 := by
  obtain ⟨a, es, d, rfl, _⟩ := h
  rfl
theorem Small.pre {es : List Int} (S : Small es) {d : Nat} (hd : d ≤ es.length) : KerPre (Lin.lvl es d) (d + 1) := by
  have F := S.fits hd
  have := S.few
  exact ⟨Lin.lvl_len, by omega, by omega, by have := lvl_count S d; omega, F.rowsP, F.toldB, F.toldN, F.toldL, F.dvd, F.fitP, F.foundN⟩
abbrev s_killers_in : Stmt := top 43
abbrev N_killers_in : List Str := ["entries", "degree", "row"]
theorem sc_killers_in : FnScope N_killers_in ["entries", "degree"] (defScope s_killers_in) := ⟨rfl, rfl, rfl, by decide +kernel, rfl, by decide +kernel, by decide +kernel⟩
theorem d_killers_in (B : Bt mg)  (c_kernel_rows : Cal P w K mg base 5 "kernel_rows" (sp_kernel_rows K)) (c_level_rows : Cal P w K mg base 3 "level_rows" (sp_level_rows K)) (D : Dd K mg "killers_in" s_killers_in) : Cal P w K mg base 6 "killers_in" (sp_killers_in K) := by
  refine D.cal sc_killers_in (fun _ _ _ _ _ _ us hl => match us, hl with | [_, _], _ => rfl) (fun vs H Q E h => ?_) (fun _ cdv A outer s H vs Q E hr h => ?_)
  · exact l_killers_in h
  have nd := sc_killers_in.nd
  refine ⟨_, (pss_one (ps_ret (pe_lc (own := [("row", 2)]) rfl nd (pi_list_K K (pc c_kernel_rows hr rfl (pa_cons (pc c_level_rows hr rfl (pa_cons (pv 0) (pa_cons (pv 1) pa_nil))) (pa_cons (pe_op op_add (pv 1) pe_int) pa_nil)))) (blkOk_by (N := N_killers_in) (sc := defScope s_killers_in) (by decide +kernel)) (fun _ _ _ _ _ => (pg_name (i := 2) nd rfl (Or.inl rfl) (Or.inr rfl))) (fun _ _ _ _ _ => pts_nil) (fun _ _ _ _ _ => (pe_callTy (tuple_K K) rfl B.tuple (by decide +kernel) (pa_cons (pv 2) pa_nil)))))), ?_⟩
  obtain ⟨a, es, d, rfl, ha, S, hd, hg, hQ⟩ := h
  have h9 := S.few
  refine ⟨_, rfl, _, rfl, a, es, d, rfl, ha, S, hd, fun v H1 k1 e1 => ?_⟩
  obtain ⟨L, ps, rfl, hL, eL, tL⟩ := e1
  refine ⟨_, rfl, _, _, rfl, rfl, L, ps, _, d + 1, rfl, eL, tL.any, k1.tg hg, S.pre hd, fun v Hk kk ek => ?_⟩
  obtain ⟨M, qs, rfl, hM, eM, tM⟩ := ek
  have cnt : (Lin.kerP (Lin.lvl es d) (d + 1)).length ≤ 100 := by
    have := (Lin.ker_ok (rows := Lin.lvl es d) (w := d + 1) Lin.lvl_len).len
    omega
  refine ⟨M, rfl, ⟨_, SqL.of eM⟩, fun D hD => lc_map (σ := [some (.ref a), some (.int d), none]) (vs := [2]) (wk_list (d := none) eM) hD (by simp) (by rw [List.length_map, tM.1]; omega) (fun _ _ => True) (fun i v H => ∃ p, v = .ref p ∧ H p = some (.tup (iz ((Lin.kerP (Lin.lvl es d) (d + 1)).getD i [])))) trivial (fun _ _ _ _ => trivial) (fun i v H H' k z => let ⟨p, e, z⟩ := z; ⟨p, e, k.t z⟩) (fun i x H2 H3 hi k2 _ ac y R hR => ?_) (fun H2 ys k2 _ hD2 hlen hz => ?_)⟩
  · obtain ⟨rfl, hx⟩ := y
    obtain ⟨acc, hacc⟩ := ac
    obtain ⟨p, hp0, rfl⟩ := refs_get hx
    obtain ⟨r, hr, hpr⟩ := tM.get hp0
    refine ⟨wipe1, _, rfl, p, _, rfl, .inl ⟨SqL.of (k2.l hpr), fun l hl => ?_⟩⟩
    refine hR _ _ (Kp.new hl) trivial fun o => ⟨l, rfl, ?_⟩
    rw [upd_ne (fun z => by rw [z, hacc] at hl; cases hl), upd_same, getD_of hr]
  · obtain ⟨ts, rfl, tq⟩ := tabT_of (f := fun i => (Lin.kerP (Lin.lvl es d) (d + 1)).getD i []) hlen hz
    refine hQ _ _ ((k1.trans kk).trans k2) ⟨D, ts, rfl, (k1.trans kk).fr D hD, hD2, ?_⟩
    rw [List.length_map, tM.1, rng_rows (fun r => r), List.map_id'] at tq
    exact tq
end
end W0
/-! ## W9 -/
set_option Elab.async false
set_option linter.all false
set_option maxRecDepth 100000
set_option maxHeartbeats 4000000
namespace W0
open PySem PySem.Spec PyProof.Rows L2
section
variable {P : Program} {w : World} {K : PySem.W.Frag} {mg : Str → Option Value} {base : Heap}
/-! ### is_whole .. require_from -/
def sp_is_whole (K : PySem.W.Frag) : Sp := fun vs H Q _ => ∃ i : Int, vs = [.int i] ∧ Q (.bl true) H
theorem l_is_whole {vs : List V} {H : Hp} {Q : VK} {E : XK} (h : sp_is_whole K vs H Q E) : vs.length = 1 := by
  obtain ⟨i, rfl, _⟩ := h
  rfl
abbrev s_is_whole : Stmt := top 11
abbrev N_is_whole : List Str := ["value"]
theorem sc_is_whole : FnScope N_is_whole ["value"] (defScope s_is_whole) := ⟨rfl, rfl, rfl, by decide +kernel, rfl, by decide +kernel, by decide +kernel⟩
theorem d_is_whole (B : Bt mg)   (D : Dd K mg "is_whole" s_is_whole) : Cal P w K mg base 1 "is_whole" (sp_is_whole K) := by
  refine D.cal sc_is_whole (fun _ _ _ _ _ _ us hl => match us, hl with | [_], _ => rfl) (fun vs H Q E h => ?_) (fun _ cdv A outer s H vs Q E hr h => ?_)
  · exact l_is_whole h
  have nd := sc_is_whole.nd
  refine ⟨_, (pss_one (ps_ret (pe_and (pe_callB call_isi rfl B.isinstance (by decide +kernel) (pa_cons (pv 0) (pa_cons (pe_bltn (v := .ty "int") (u := .type "int") rfl B.int (by decide +kernel) rfl) pa_nil))) (pe_one (pe_not (pe_callB call_isi rfl B.isinstance (by decide +kernel) (pa_cons (pv 0) (pa_cons (pe_bltn (v := .ty "bool") (u := .type "bool") rfl B.bool (by decide +kernel) rfl) pa_nil)))))))), ?_⟩
  obtain ⟨i, rfl, hQ⟩ := h
  exact ⟨_, rfl, .int i, .ty "int", .type "int", .type "int", true, rfl, .ty "int", .base (.int i), kit_ty (by decide +kernel), true, rfl, _, rfl, .int i, .ty "bool", .type "int", .type "bool", false, rfl, .ty "bool", .base (.int i), kit_ty (by decide +kernel), false, rfl, hQ⟩
def sp_is_short (K : PySem.W.Frag) : Sp := fun vs H Q _ => ∃ i : Int, vs = [.int i] ∧ i.natAbs < 10 ^ 60 ∧ Q (.bl true) H
theorem l_is_short {vs : List V} {H : Hp} {Q : VK} {E : XK} (h : sp_is_short K vs H Q E) : vs.length = 1 := by
  obtain ⟨i, rfl, _⟩ := h
  rfl
abbrev s_is_short : Stmt := top 12
abbrev N_is_short : List Str := ["value"]
theorem sc_is_short : FnScope N_is_short ["value"] (defScope s_is_short) := ⟨rfl, rfl, rfl, by decide +kernel, rfl, by decide +kernel, by decide +kernel⟩
theorem d_is_short (B : Bt mg)  (c_is_whole : Cal P w K mg base 1 "is_whole" (sp_is_whole K)) (D : Dd K mg "is_short" s_is_short) : Cal P w K mg base 2 "is_short" (sp_is_short K) := by
  refine D.cal sc_is_short (fun _ _ _ _ _ _ us hl => match us, hl with | [_], _ => rfl) (fun vs H Q E h => ?_) (fun _ cdv A outer s H vs Q E hr h => ?_)
  · exact l_is_short h
  have nd := sc_is_short.nd
  refine ⟨_, (pss_one (ps_ret (pe_and (pc c_is_whole hr rfl (pa_cons (pv 0) pa_nil)) (pe_one (pe_chain op_lt op_lt (pe_un un_neg (pe_gc rfl B.cGREATEST)) (pv 0) (pe_gc rfl B.cGREATEST)))))), ?_⟩
  obtain ⟨i, rfl, hi, hQ⟩ := h
  refine ⟨_, rfl, i, rfl, true, rfl, _, rfl, _, rfl, _, _, rfl, rfl, true, congrArg V.bl (decide_eq_true (by omega)), _, _, rfl, rfl, ?_⟩
  show Q (.bl (decide (i < 10 ^ 60))) H
  rw [decide_eq_true (by omega)]
  exact hQ
def sp_is_from (K : PySem.W.Frag) : Sp := fun vs H Q _ => ∃ i a b : Int, vs = [.int i, .int a, .int b] ∧ a ≤ i ∧ i ≤ b ∧ Q (.bl true) H
theorem l_is_from {vs : List V} {H : Hp} {Q : VK} {E : XK} (h : sp_is_from K vs H Q E) : vs.length = 3 := by
  obtain ⟨i, a, b, rfl, _⟩ := h
  rfl
abbrev s_is_from : Stmt := top 13
abbrev N_is_from : List Str := ["value", "least", "most"]
theorem sc_is_from : FnScope N_is_from ["value", "least", "most"] (defScope s_is_from) := ⟨rfl, rfl, rfl, by decide +kernel, rfl, by decide +kernel, by decide +kernel⟩
theorem d_is_from (B : Bt mg)  (c_is_whole : Cal P w K mg base 1 "is_whole" (sp_is_whole K)) (D : Dd K mg "is_from" s_is_from) : Cal P w K mg base 2 "is_from" (sp_is_from K) := by
  refine D.cal sc_is_from (fun _ _ _ _ _ _ us hl => match us, hl with | [_, _, _], _ => rfl) (fun vs H Q E h => ?_) (fun _ cdv A outer s H vs Q E hr h => ?_)
  · exact l_is_from h
  have nd := sc_is_from.nd
  refine ⟨_, (pss_one (ps_ret (pe_and (pc c_is_whole hr rfl (pa_cons (pv 0) pa_nil)) (pe_one (pe_chain op_le op_le (pv 1) (pv 0) (pv 2)))))), ?_⟩
  obtain ⟨i, a, b, rfl, h1, h2, hQ⟩ := h
  refine ⟨_, rfl, i, rfl, true, rfl, _, rfl, _, rfl, _, _, rfl, rfl, true, congrArg V.bl (decide_eq_true h1), _, rfl, _, _, rfl, rfl, ?_⟩
  show Q (.bl (decide (i ≤ b))) H
  rw [decide_eq_true h2]
  exact hQ
def sp_are_short (K : PySem.W.Frag) : Sp := fun vs H Q _ => ∃ (a : Addr) (ns : List Int), vs = [.ref a] ∧ H a = some (.tup (iz ns)) ∧ ns.length ≤ 1000 ∧ (∀ n ∈ ns, n.natAbs < 10 ^ 60) ∧ Ret none (fun v _ => v = .bl true) H Q
theorem l_are_short {vs : List V} {H : Hp} {Q : VK} {E : XK} (h : sp_are_short K vs H Q E) : vs.length = 1 := by
  obtain ⟨i, ns, rfl, _⟩ := h
  rfl
theorem bl_rep (n : Nat) : (List.range n).map (fun _ => V.bl true) = (List.replicate n true).map V.bl := by
  refine List.ext_getElem (by simp) fun i h1 h2 => ?_
  simp
abbrev s_are_short : Stmt := top 14
abbrev N_are_short : List Str := ["value", "entry"]
theorem sc_are_short : FnScope N_are_short ["value"] (defScope s_are_short) := ⟨rfl, rfl, rfl, by decide +kernel, rfl, by decide +kernel, by decide +kernel⟩
theorem d_are_short (B : Bt mg)  (c_is_short : Cal P w K mg base 2 "is_short" (sp_is_short K)) (D : Dd K mg "are_short" s_are_short) : Cal P w K mg base 3 "are_short" (sp_are_short K) := by
  refine D.cal sc_are_short (fun _ _ _ _ _ _ us hl => match us, hl with | [_], _ => rfl) (fun vs H Q E h => ?_) (fun _ cdv A outer s H vs Q E hr h => ?_)
  · exact l_are_short h
  have nd := sc_are_short.nd
  refine ⟨_, (pss_one (ps_ret (pe_and (pe_callB call_isi rfl B.isinstance (by decide +kernel) (pa_cons (pv 0) (pa_cons (pe_bltn (v := .ty "tuple") (u := .type "tuple") rfl B.tuple (by decide +kernel) rfl) pa_nil))) (pe_one (pe_callB (all_K K rfl) rfl B.all (by decide +kernel) (pa_cons (pe_lc (own := [("entry", 1)]) rfl nd (pi_tup_K K (pv 0)) (blkOk_by (N := N_are_short) (sc := defScope s_are_short) (by decide +kernel)) (fun _ _ _ _ _ => (pg_name (i := 1) nd rfl (Or.inl rfl) (Or.inr rfl))) (fun _ _ _ _ _ => pts_nil) (fun _ _ _ _ _ => (pc c_is_short hr rfl (pa_cons (pv 1) pa_nil)))) pa_nil)))))), ?_⟩
  obtain ⟨a, ns, rfl, ha, hl, hb, hQ⟩ := h
  refine ⟨_, rfl, .ref a, .ty "tuple", .type "tuple", .type "tuple", true, rfl, .ty "tuple", .base (.tup ha), kit_ty (by decide +kernel), true, rfl, ?_⟩
  refine ⟨_, rfl, a, rfl, ⟨_, SqT.of ha⟩, fun D hD => lc_map (σ := [some (.ref a), none]) (vs := [1]) (wk_tup (d := none) ha) hD (by simp) (by rw [iz_len]; omega) (fun _ _ => True) (fun i v _ => v = .bl true) trivial (fun _ _ _ _ => trivial) (fun _ _ _ _ _ e => e) (fun i x H2 H3 hi k2 _ _ y R hR => ?_) (fun H2 ys k2 _ hD2 hlen hz => ?_)⟩
  · obtain ⟨rfl, hx⟩ := y
    obtain ⟨n, hn, rfl⟩ := ints_get hx
    exact ⟨wipe1, _, rfl, n, rfl, hb n (List.mem_of_getElem? hn), hR _ _ .refl trivial fun o => rfl⟩
  · have e : ys = (List.replicate (iz ns).length true).map V.bl := by
      rw [← bl_rep]
      refine List.ext_getElem (by simp [hlen]) fun i h1 h2 => ?_
      rw [hz i _ (List.getElem?_eq_getElem h1)]
      simp
    refine ⟨D, _, rfl, SqL.of (by rw [hD2, e]), hQ _ _ k2 ?_⟩
    rw [show (List.replicate (iz ns).length true).all id = true by simp]
def sp_require_from (K : PySem.W.Frag) : Sp := fun vs H Q _ => ∃ i a b : Int, vs = [.int i, .int a, .int b] ∧ a ≤ i ∧ i ≤ b ∧ Q .non H
theorem l_require_from {vs : List V} {H : Hp} {Q : VK} {E : XK} (h : sp_require_from K vs H Q E) : vs.length = 3 := by
  obtain ⟨i, a, b, rfl, _⟩ := h
  rfl
abbrev s_require_from : Stmt := top 16
abbrev N_require_from : List Str := ["value", "least", "most"]
theorem sc_require_from : FnScope N_require_from ["value", "least", "most"] (defScope s_require_from) := ⟨rfl, rfl, rfl, by decide +kernel, rfl, by decide +kernel, by decide +kernel⟩
theorem d_require_from (B : Bt mg)  (c_is_from : Cal P w K mg base 2 "is_from" (sp_is_from K)) (D : Dd K mg "require_from" s_require_from) : Cal P w K mg base 3 "require_from" (sp_require_from K) := by
  refine D.cal sc_require_from (fun _ _ _ _ _ _ us hl => match us, hl with | [_, _, _], _ => rfl) (fun vs H Q E h => ?_) (fun _ cdv A outer s H vs Q E hr h => ?_)
  · exact l_require_from h
  have nd := sc_require_from.nd
  refine ⟨_, (pss_one (ps_if (pt_not (pt_val (pc c_is_from hr rfl (pa_cons (pv 0) (pa_cons (pv 1) (pa_cons (pv 2) pa_nil)))))) pss_never pss_nil)), ?_⟩
  obtain ⟨i, a, b, rfl, h1, h2, hQ⟩ := h
  exact ⟨_, rfl, _, rfl, _, rfl, i, a, b, rfl, h1, h2, true, rfl, hQ⟩
def sp_are_entries (K : PySem.W.Frag) : Sp := fun vs H Q _ => ∃ (a : Addr) (ns : List Int), vs = [.ref a] ∧ H a = some (.tup (iz ns)) ∧ 1 ≤ ns.length ∧ ns.length ≤ 41 ∧ (∀ n ∈ ns, n.natAbs < 10 ^ 60) ∧ Ret none (fun v _ => v = .bl true) H Q
theorem l_are_entries {vs : List V} {H : Hp} {Q : VK} {E : XK} (h : sp_are_entries K vs H Q E) : vs.length = 1 := by
  obtain ⟨i, ns, rfl, _⟩ := h
  rfl
abbrev s_are_entries : Stmt := top 34
abbrev N_are_entries : List Str := ["value"]
theorem sc_are_entries : FnScope N_are_entries ["value"] (defScope s_are_entries) := ⟨rfl, rfl, rfl, by decide +kernel, rfl, by decide +kernel, by decide +kernel⟩
theorem d_are_entries (B : Bt mg)  (c_are_short : Cal P w K mg base 3 "are_short" (sp_are_short K)) (D : Dd K mg "are_entries" s_are_entries) : Cal P w K mg base 4 "are_entries" (sp_are_entries K) := by
  refine D.cal sc_are_entries (fun _ _ _ _ _ _ us hl => match us, hl with | [_], _ => rfl) (fun vs H Q E h => ?_) (fun _ cdv A outer s H vs Q E hr h => ?_)
  · exact l_are_entries h
  have nd := sc_are_entries.nd
  refine ⟨_, (pss_one (ps_ret (pe_and (pc c_are_short hr rfl (pa_cons (pv 0) pa_nil)) (pe_one (pe_chain op_le op_le pe_int (pe_callB (len_K K) rfl B.len PySem.boot_len (pa_cons (pv 0) pa_nil)) (pe_op op_add (pe_gc rfl B.cMAX_DEGREE) pe_int)))))), ?_⟩
  obtain ⟨a, ns, rfl, ha, h1, h2, hb, hQ⟩ := h
  refine ⟨_, rfl, a, ns, rfl, ha, by omega, hb, fun v H1 k1 e1 => ?_⟩
  subst e1
  refine ⟨true, rfl, _, rfl, a, _, rfl, .inr (SqT.of (k1.t ha)), _, _, rfl, rfl, true, congrArg V.bl (decide_eq_true (by rw [iz_len]; omega)), _, _, rfl, rfl, _, _, rfl, rfl, ?_⟩
  show Q (.bl (decide (((iz ns).length : Int) ≤ 40 + 1))) H1
  rw [iz_len, decide_eq_true (by omega)]
  exact hQ _ _ k1 rfl
end
end W0
/-! ## W10 -/
set_option Elab.async false
set_option linter.all false
set_option maxRecDepth 100000
set_option maxHeartbeats 4000000
namespace W0
open PySem PySem.Spec PyProof.Rows L2 SlX
/-! ### the classes Told and Form -/
def cF (K : PySem.W.Frag) : Addr := He.ga K "Form"
def cT (K : PySem.W.Frag) : Addr := He.ga K "Told"
/-- what of the text the two classes have -/
structure Fm (K : PySem.W.Frag) (mg : Str → Option Value) : Prop where
  gF : mg "Form" = some (.ref (cF K))
  gT : mg "Told" = some (.ref (cT K))
  sF : SCls K (cF K)
  sT : SCls K (cT K)
  iF : SIsi K (cF K)
  iT : SIsi K (cT K)
  oF : ∃ p, Slot1 K (cF K) "own_entries" p 0
  oT : ∃ p, Slot1 K (cT K) "own_row" p 0
  mF : Mk K (cF K) (He.ma K (cF K) "__init__")
  mT : Mk K (cT K) (He.ma K (cT K) "__init__")
  kTT : PySem.W.kitOne K (.ref (cT K)) (.ref (cT K)) = some true
  kFF : PySem.W.kitOne K (.ref (cF K)) (.ref (cF K)) = some true
  kTup : PySem.W.kitOne K (.type "tuple") (.ref (cT K)) = some false
/-- a method's def at f -/
structure Md (K : PySem.W.Frag) (x qual : Str) (st : Stmt) (f : Addr) : Prop where
  ex : ∃ fd : FuncData, FunD K x qual (defArgs st) (defBody st) (defScope st) [] [] f fd
/-- its promise -/
structure Cat (P : Program) (w : World) (K : PySem.W.Frag) (mg : Str → Option Value) (base : Heap) (k : Nat) (f : Addr) (sp : Sp) : Prop where
  ex : ∃ (fd : FuncData) (ps : List Str), FnOk P w K mg base CX0 k f fd ps sp ∧ Binds K fd ps []
/-- a property of the class at C whose getter keeps sp -/
structure Prp (P : Program) (w : World) (K : PySem.W.Frag) (mg : Str → Option Value) (base : Heap) (k : Nat) (C : Addr) (f : Str) (sp : Sp) : Prop where
  ex : ∃ p g : Addr, PySem.W.findIn K (.ref C) f = some (some (.ref p)) ∧ PySem.W.specialIn K (.ref p) "__get__" = some (some (.builtin "property.__get__")) ∧ PySem.W.takesIn K (.ref p) = some true ∧ (∃ rest, PySem.W.recIn K p "property" = some (.ref g :: rest)) ∧ FnR P w K mg base CX0 k g sp
section
variable {P : Program} {w : World} {K : PySem.W.Frag} {mg : Str → Option Value} {base : Heap}
theorem Md.cat {x qual : Str} {st : Stmt} {f : Addr} {N ps : List Str} {k : Nat} {sp : Sp} (D : Md K x qual st f) (S : FnScope N ps (defScope st))
    (hb : ∀ (kV doc pm : Value) (an : Option Addr) (cdv ct : Value) (us : List Value), us.length = ps.length → bindArgs (PySem.W.fnOf x qual (defArgs st) (defBody st) (defScope st) .none kV doc pm an cdv ct) ⟨us, []⟩ = pure (ps.zip us))
    (len : ∀ vs H Q E, sp vs H Q E → vs.length = ps.length)
    (hbody : ∀ (f : Addr) (cdv : Value) (A : Around) (outer : List Env) (s : Shared) (H : Hp) (vs : List V) (Q : VK) (E : XK), Room k (A.deeper (envOfC qual (defScope st) s.heap.objs.size f cdv)) → sp vs H Q E →
      ∃ t, PSs (cxOf CX0 P w K mg base N qual (defScope st) f cdv A outer s H E).nox (defBody st) t ∧ t { nx := fun _ H' => Q .non H', rt := Q } (start N vs) H) : Cat P w K mg base (k + 1) f sp := by
  obtain ⟨fd, F⟩ := D.ex
  exact ⟨fd, ps, F.ok S len (fun cdv A outer s H vs Q E hr h => let ⟨t, a, b⟩ := hbody _ cdv A outer s H vs Q E hr h; ⟨t, PSs.nox a, b⟩), F.bindsN hb⟩
theorem Cat.raw {k : Nat} {f : Addr} {sp : Sp} (c : Cat P w K mg base k f sp) : FnR P w K mg base CX0 k f sp := by
  obtain ⟨fd, ps, F, b⟩ := c.ex
  exact (F.raw b .nil).imp fun vs H Q E h => by rw [List.append_nil]; exact h
end
section
variable {X : Cx}
theorem pmk {j k : Nat} {x : Str} {C f : Addr} {sp : Sp} {e : Expr} {es : List Expr} {t : TA} {p pos : Pos} (c : Cat X.prog X.w X.K X.mg X.base k f sp) (M : Mk X.K C f) (hr : Room j X.A) (hg : Gl X x) (hm : X.mg x = some (.ref C)) (ha : PA X (e :: es) t) (hk : k + 1 ≤ j := by decide)
    (hdb : (x == ("__debug__" : Str)) = false := by decide) (he : starEach (e :: es) X.env = (false, eval e X.env) :: starEach es X.env := by rfl) (hpl : (backTo pos (starEach es X.env)).any (·.1) = false := by rfl) :
    PE X (.Call (.Name x p) (e :: es) [] pos) (tMake C sp [] E0 t) := by
  obtain ⟨fd, ps, F, b⟩ := c.ex
  exact pe_make M F (hr.mono hk) hg hm b .nil pass0 ha hdb he hpl
theorem pprp {j k : Nat} {C : Addr} {f : Str} {sp : Sp} {e : Expr} {pos : Pos} {ta : TE} (c : Prp X.prog X.w X.K X.mg X.base k C f sp) (sc : SCls X.K C) (hr : Room j X.A) (he : PE X e ta) (hk : k + 1 ≤ j := by decide)
    (hb : attributeBase e f X.env (eval e X.env) = eval e X.env := by rfl) : PE X (.Attribute e f pos) (tPropSl C sp E0 ta) := by
  obtain ⟨p, g, h1, h2, h3, h4, F⟩ := c.ex
  exact pe_propSl he sc h1 h2 h3 h4 F (hr.mono hk) (fun _ _ _ _ z => z) hb
end
section
variable {P : Program} {w : World} {K : PySem.W.Frag} {mg : Str → Option Value} {base : Heap}
/-- a form at f, its entries es the tuple at t -/
def FormAt (K : PySem.W.Frag) (H : Hp) (f t : Addr) (es : List Int) : Prop := H t = some (.tup (iz es)) ∧ ∃ dx, H f = some (SlO f (cF K) dx [some (.ref t)]) ∧ H dx = some (.xd [])
theorem FormAt.slt {H : Hp} {f t : Addr} {es : List Int} (h : FormAt K H f t es) : ∃ dx, Slt H f (cF K) dx [some (.ref t)] := let ⟨_, dx, a, b⟩ := h; ⟨dx, .inr ⟨a, b⟩⟩
theorem slO_tbl {a C dx : Addr} {vs : List (Option V)} (ps : Array Value) : SlO a C dx vs ≠ .tbl ps := fun z => by unfold SlO at z; cases z
theorem FormAt.keep {H H1 : Hp} {f t : Addr} {es : List Int} (h : FormAt K H f t es) (k : Kp none H H1) : FormAt K H1 f t es := by
  obtain ⟨a, dx, b, c⟩ := h
  exact ⟨k.t a, dx, k.keep _ _ (by simp) b fun ps => slO_tbl ps, k.keep _ _ (by simp) c fun _ z => by cases z⟩
theorem FormAt.keepD {d : Option Addr} {H H1 : Hp} {f t : Addr} {es : List Int} (h : FormAt K H f t es) (k : Kp d H H1) (hd : ∀ p, d = some p → ∃ xs, H p = some (.lst xs)) : FormAt K H1 f t es := by
  obtain ⟨a, dx, b, c⟩ := h
  have n : ∀ {q : Addr} {o : HO}, H q = some o → (∀ xs, o ≠ .lst xs) → d ≠ some q := fun {q o} e ne z => by
    obtain ⟨xs, e2⟩ := hd q z
    rw [e] at e2
    exact ne xs (Option.some.inj e2)
  exact ⟨k.t a (n a fun _ z => by cases z), dx, k.keep _ _ (n b fun xs z => by unfold SlO at z; cases z) b fun ps => slO_tbl ps, k.keep _ _ (n c fun _ z => by cases z) c fun _ z => by cases z⟩
theorem FormAt.upd {H : Hp} {f t D : Addr} {es : List Int} {xs : List V} {o : HO} (h : FormAt K H f t es) (hD : H D = some (.lst xs)) : FormAt K (upd H D o) f t es := by
  obtain ⟨a, dx, b, c⟩ := h
  exact ⟨by rw [upd_ne (ne_of a hD fun z => by cases z)]; exact a, dx, by rw [upd_ne (ne_of b hD fun z => by unfold SlO at z; cases z)]; exact b, by rw [upd_ne (ne_of c hD fun z => by cases z)]; exact c⟩
/-- entries that Form takes -/
structure Ents (es : List Int) : Prop where
  pos : 1 ≤ es.length
  few : es.length ≤ 41
  bd : ∀ n ∈ es, n.natAbs < 10 ^ 60
theorem Small.ents {es : List Int} (S : Small es) : Ents es := by
  refine ⟨S.pos, by have := S.few; omega, fun n hn => ?_⟩
  obtain ⟨i, hi, rfl⟩ := List.mem_iff_getElem.mp hn
  have := S.bd i
  rw [getI (List.getElem?_eq_getElem hi)] at this
  exact Nat.lt_of_le_of_lt this (by decide)
def sp_toldInit (K : PySem.W.Frag) : Sp := fun vs H Q _ => ∃ (x dx : Addr) (r : V), vs = [.ref x, r] ∧ Slt H x (cT K) dx [] ∧ Q .non (slH H x (cT K) dx [some r])
theorem l_toldInit {vs : List V} {H : Hp} {Q : VK} {E : XK} (h : sp_toldInit K vs H Q E) : vs.length = 2 := by
  obtain ⟨x, dx, r, rfl, _⟩ := h
  rfl
abbrev s_toldInit : Stmt := inClass (top 33) 1
abbrev N_toldInit : List Str := ["self", "row"]
theorem sc_toldInit : FnScope N_toldInit ["self", "row"] (defScope s_toldInit) := ⟨rfl, rfl, rfl, by decide +kernel, rfl, by decide +kernel, by decide +kernel⟩
theorem d_toldInit (B : Bt mg) (C : Fm K mg)  (D : Md K "__init__" "Told.__init__" s_toldInit (He.ma K (cT K) "__init__")) : Cat P w K mg base 1 (He.ma K (cT K) "__init__") (sp_toldInit K) := by
  refine D.cat sc_toldInit (fun _ _ _ _ _ _ us hl => match us, hl with | [_, _], _ => rfl) (fun vs H Q E h => ?_) (fun _ cdv A outer s H vs Q E hr h => ?_)
  · exact l_toldInit h
  have nd := sc_toldInit.nd
  refine ⟨_, (pss_one (SlX.ps_sl (pv 0) (pv 1))), ?_⟩
  obtain ⟨x, dx, r, rfl, hs, hQ⟩ := h
  obtain ⟨p, o⟩ := C.oT
  exact ⟨_, rfl, _, rfl, x, cT K, dx, p, [], 0, rfl, hs, C.sT, o, hQ⟩
def sp_formInit (K : PySem.W.Frag) : Sp := fun vs H Q _ => ∃ (x dx : Addr) (r : V) (t : Addr), vs = [.ref x, r] ∧ Slt H x (cF K) dx [] ∧ ((r = .ref t ∧ ∃ es, H t = some (.tup (iz es)) ∧ Ents es) ∨ (∃ b db, r = .ref b ∧ Slt H b (cT K) db [some (.ref t)])) ∧
  ∀ H', Kp none H H' → Q .non (slH H' x (cF K) dx [some (.ref t)])
theorem l_formInit {vs : List V} {H : Hp} {Q : VK} {E : XK} (h : sp_formInit K vs H Q E) : vs.length = 2 := by
  obtain ⟨x, dx, r, t, rfl, _⟩ := h
  rfl
theorem Slt.keep0 {H H1 : Hp} {a C dx : Addr} (h : Slt H a C dx []) (k : Kp none H H1) : Slt H1 a C dx [] := by
  rcases h with ⟨a, b⟩ | ⟨a, b⟩
  · exact .inl ⟨k.keep _ _ (by simp) a (fun _ z => by cases z), b⟩
  · exact .inr ⟨k.keep _ _ (by simp) a (fun ps => slO_tbl ps), k.keep _ _ (by simp) b (fun _ z => by cases z)⟩
abbrev s_formInit : Stmt := inClass (top 35) 1
abbrev N_formInit : List Str := ["self", "entries"]
theorem sc_formInit : FnScope N_formInit ["self", "entries"] (defScope s_formInit) := ⟨rfl, rfl, rfl, by decide +kernel, rfl, by decide +kernel, by decide +kernel⟩
theorem d_formInit (B : Bt mg) (C : Fm K mg) (c_are_entries : Cal P w K mg base 4 "are_entries" (sp_are_entries K)) (D : Md K "__init__" "Form.__init__" s_formInit (He.ma K (cF K) "__init__")) : Cat P w K mg base 5 (He.ma K (cF K) "__init__") (sp_formInit K) := by
  refine D.cat sc_formInit (fun _ _ _ _ _ _ us hl => match us, hl with | [_, _], _ => rfl) (fun vs H Q E h => ?_) (fun _ cdv A outer s H vs Q E hr h => ?_)
  · exact l_formInit h
  have nd := sc_formInit.nd
  refine ⟨_, (pss_cons (ps_if (PW.pt (pw_and (pt_not (pt_val (pe_callB (CallR.or (isi_K K) (call_isiSl (.ref (cT K)))) rfl B.isinstance (by decide +kernel) (pa_cons (pv 1) (pa_cons (pe_glob (v := .ref (cT K)) rfl C.gT rfl) pa_nil))))) (pw_and1 (pt_not (pt_val (pc c_are_entries hr rfl (pa_cons (pv 1) pa_nil))))))) pss_never pss_nil) (pss_one (SlX.ps_sl (pv 0) (pe_ifExp (pt_val (pe_callB (CallR.or (isi_K K) (call_isiSl (.ref (cT K)))) rfl B.isinstance (by decide +kernel) (pa_cons (pv 1) (pa_cons (pe_glob (v := .ref (cT K)) rfl C.gT rfl) pa_nil)))) (pe_sl (pv 1)) (pv 1))))), ?_⟩
  obtain ⟨x, dx, r, t, rfl, hs, hr, hQ⟩ := h
  obtain ⟨p, o⟩ := C.oF
  obtain ⟨q, oT⟩ := C.oT
  rcases hr with ⟨rfl, es, ht, Es⟩ | ⟨b, db, rfl, hb⟩
  · refine ⟨_, rfl, .inl ⟨.ref t, .ref (cT K), .type "tuple", .ref (cT K), false, rfl, .own _, .base (.tup ht), C.kTup, false, rfl, ?_⟩⟩
    refine ⟨_, rfl, t, es, rfl, ht, Es.pos, Es.few, Es.bd, fun v H1 k1 e1 => ?_⟩
    subst e1
    refine ⟨true, rfl, ?_⟩
    refine ⟨_, rfl, .inl ⟨.ref t, .ref (cT K), .type "tuple", .ref (cT K), false, rfl, .own _, .base (.tup (k1.t ht)), C.kTup, false, rfl, ?_⟩⟩
    exact ⟨_, rfl, _, rfl, x, cF K, dx, p, [], 0, rfl, Slt.keep0 hs k1, C.sF, o, hQ _ k1⟩
  · have tt : ∀ w, RelV (.ref (cT K)) w → w = .ref (cT K) := fun w z => z
    refine ⟨_, rfl, .inr ⟨b, cT K, db, _, .ref (cT K), true, rfl, rfl, tt, hb, C.sT, C.iT, C.kTT, true, rfl, ?_⟩⟩
    refine ⟨_, rfl, .inr ⟨b, cT K, db, _, .ref (cT K), true, rfl, rfl, tt, hb, C.sT, C.iT, C.kTT, true, rfl, ?_⟩⟩
    exact ⟨_, rfl, b, cT K, db, q, _, 0, _, rfl, hb, C.sT, oT, rfl, _, rfl, x, cF K, dx, p, [], 0, rfl, hs, C.sF, o, hQ _ .refl⟩
/-! ### making forms -/
theorem make_kp {H H' : Hp} {x dx C : Addr} {vs : List (Option V)} (hx : H x = none) (hdx : H dx = none) (hne : dx ≠ x) (k : Kp none (upd (upd H dx (.own x)) x (.ins C dx [])) H') : Kp none H (slH H' x C dx vs) := by
  have k0 : Kp none H (upd (upd H dx (.own x)) x (.ins C dx [])) := (Kp.new hdx).mut hx
  unfold slH
  exact ((k0.trans k).mut hdx).mut hx
theorem form_at {H H' : Hp} {x dx t : Addr} {es : List Int} (hx : H x = none) (hdx : H dx = none) (hne : dx ≠ x) (ht : H t = some (.tup (iz es))) (k : Kp none (upd (upd H dx (.own x)) x (.ins (cF K) dx [])) H') : FormAt K (slH H' x (cF K) dx [some (.ref t)]) x t es := by
  have tx : t ≠ x := ne_of_none ht hx
  have td : t ≠ dx := ne_of_none ht hdx
  have k0 : Kp none H (upd (upd H dx (.own x)) x (.ins (cF K) dx [])) := (Kp.new hdx).mut hx
  exact ⟨by rw [slH_ne tx td]; exact (k0.trans k).t ht, dx, upd_same, by unfold slH; rw [upd_ne hne, upd_same]⟩
/-- Form(t), t a tuple of entries -/
theorem mk_tuple {H : Hp} {t : Addr} {es : List Int} {Q : VK} (ht : H t = some (.tup (iz es))) (S : Ents es) (hQ : ∀ f H', Kp none H H' → H f = none → FormAt K H' f t es → Q (.ref f) H') :
    ∀ x dx, H x = none → H dx = none → dx ≠ x → sp_formInit K (.ref x :: ([.ref t] ++ [])) (upd (upd H dx (.own x)) x (.ins (cF K) dx [])) (fun v H2 => v = .non ∧ Q (.ref x) H2) E0 := by
  intro x dx hx hdx hne
  refine ⟨x, dx, .ref t, t, rfl, .inl ⟨upd_same, rfl⟩, .inl ⟨rfl, es, ?_, S⟩, fun H' k => ⟨rfl, hQ x _ (make_kp hx hdx hne k) hx (form_at hx hdx hne ht k)⟩⟩
  rw [upd_ne (ne_of_none ht hx), upd_ne (ne_of_none ht hdx)]
  exact ht
/-! ### form_of, require_form, the properties -/
def sp_form_of (K : PySem.W.Frag) : Sp := fun vs H Q _ => ∃ (t : Addr) (es : List Int), vs = [.ref t] ∧ H t = some (.tup (iz es)) ∧ Ret none (fun v H' => ∃ f, v = .ref f ∧ H f = none ∧ FormAt K H' f t es) H Q
theorem l_form_of {vs : List V} {H : Hp} {Q : VK} {E : XK} (h : sp_form_of K vs H Q E) : vs.length = 1 := by
  obtain ⟨t, es, rfl, _⟩ := h
  rfl
abbrev s_form_of : Stmt := top 36
abbrev N_form_of : List Str := ["entries"]
theorem sc_form_of : FnScope N_form_of ["entries"] (defScope s_form_of) := ⟨rfl, rfl, rfl, by decide +kernel, rfl, by decide +kernel, by decide +kernel⟩
theorem d_form_of (B : Bt mg) (C : Fm K mg) (cTi : Cat P w K mg base 1 (He.ma K (cT K) "__init__") (sp_toldInit K)) (cFi : Cat P w K mg base 5 (He.ma K (cF K) "__init__") (sp_formInit K))  (D : Dd K mg "form_of" s_form_of) : Cal P w K mg base 7 "form_of" (sp_form_of K) := by
  refine D.cal sc_form_of (fun _ _ _ _ _ _ us hl => match us, hl with | [_], _ => rfl) (fun vs H Q E h => ?_) (fun _ cdv A outer s H vs Q E hr h => ?_)
  · exact l_form_of h
  have nd := sc_form_of.nd
  refine ⟨_, (pss_one (ps_ret (pmk cFi C.mF hr rfl C.gF (pa_cons (pmk cTi C.mT hr rfl C.gT (pa_cons (pv 0) pa_nil)) pa_nil)))), ?_⟩
  obtain ⟨t, es, rfl, ht, hQ⟩ := h
  refine ⟨_, rfl, fun b db hb hdb hne => ?_⟩
  have k0 : Kp none H (slH (upd (upd H db (.own b)) b (.ins (cT K) db [])) b (cT K) db [some (.ref t)]) := make_kp hb hdb hne .refl
  refine ⟨b, db, .ref t, rfl, .inl ⟨upd_same, rfl⟩, rfl, fun x dx hx hdx hne2 => ?_⟩
  have sb : Slt (slH (upd (upd H db (.own b)) b (.ins (cT K) db [])) b (cT K) db [some (.ref t)]) b (cT K) db [some (.ref t)] := slH_slt hne
  generalize slH (upd (upd H db (.own b)) b (.ins (cT K) db [])) b (cT K) db [some (.ref t)] = H1 at k0 hx hdx sb
  have ht1 := k0.t ht
  refine ⟨x, dx, .ref b, t, rfl, .inl ⟨upd_same, rfl⟩, .inr ⟨b, db, rfl, ?_⟩, fun H' k => ⟨rfl, hQ _ _ (k0.trans (make_kp hx hdx hne2 k)) ⟨x, rfl, k0.fr x hx, form_at hx hdx hne2 ht1 k⟩⟩⟩
  have k1 : Kp none H1 (upd (upd H1 dx (.own x)) x (.ins (cF K) dx [])) := (Kp.new hdx).mut hx
  rcases sb with ⟨_, z⟩ | ⟨a1, a2⟩
  · cases z
  · exact .inr ⟨k1.keep _ _ (by simp) a1 (fun ps => slO_tbl ps), k1.keep _ _ (by simp) a2 (fun _ z => by cases z)⟩
def sp_require_form (K : PySem.W.Frag) : Sp := fun vs H Q _ => ∃ (f t : Addr) (es : List Int), vs = [.ref f] ∧ FormAt K H f t es ∧ Q .non H
theorem l_require_form {vs : List V} {H : Hp} {Q : VK} {E : XK} (h : sp_require_form K vs H Q E) : vs.length = 1 := by
  obtain ⟨t, _, es, rfl, _⟩ := h
  rfl
abbrev s_require_form : Stmt := top 37
abbrev N_require_form : List Str := ["value"]
theorem sc_require_form : FnScope N_require_form ["value"] (defScope s_require_form) := ⟨rfl, rfl, rfl, by decide +kernel, rfl, by decide +kernel, by decide +kernel⟩
theorem d_require_form (B : Bt mg) (C : Fm K mg)  (D : Dd K mg "require_form" s_require_form) : Cal P w K mg base 1 "require_form" (sp_require_form K) := by
  refine D.cal sc_require_form (fun _ _ _ _ _ _ us hl => match us, hl with | [_], _ => rfl) (fun vs H Q E h => ?_) (fun _ cdv A outer s H vs Q E hr h => ?_)
  · exact l_require_form h
  have nd := sc_require_form.nd
  refine ⟨_, (pss_one (ps_if (pt_not (pt_val (pe_callB (call_isiSl (.ref (cF K))) rfl B.isinstance (by decide +kernel) (pa_cons (pv 0) (pa_cons (pe_glob (v := .ref (cF K)) rfl C.gF rfl) pa_nil))))) pss_never pss_nil)), ?_⟩
  obtain ⟨f, t, es, rfl, hf, hQ⟩ := h
  obtain ⟨dx, hs⟩ := hf.slt
  exact ⟨_, rfl, f, cF K, dx, _, .ref (cF K), true, rfl, rfl, fun w z => z, hs, C.sF, C.iF, C.kFF, true, rfl, hQ⟩
def sp_entries (K : PySem.W.Frag) : Sp := fun vs H Q _ => ∃ (f t : Addr) (es : List Int), vs = [.ref f] ∧ FormAt K H f t es ∧ Q (.ref t) H
theorem l_entries {vs : List V} {H : Hp} {Q : VK} {E : XK} (h : sp_entries K vs H Q E) : vs.length = 1 := by
  obtain ⟨t, _, es, rfl, _⟩ := h
  rfl
abbrev s_entries : Stmt := inClass (top 35) 4
abbrev N_entries : List Str := ["self"]
theorem sc_entries : FnScope N_entries ["self"] (defScope s_entries) := ⟨rfl, rfl, rfl, by decide +kernel, rfl, by decide +kernel, by decide +kernel⟩
theorem d_entries (B : Bt mg) (C : Fm K mg) {gA : Addr}  (D : Md K "entries" "Form.entries" s_entries gA) : Cat P w K mg base 1 gA (sp_entries K) := by
  refine D.cat sc_entries (fun _ _ _ _ _ _ us hl => match us, hl with | [_], _ => rfl) (fun vs H Q E h => ?_) (fun _ cdv A outer s H vs Q E hr h => ?_)
  · exact l_entries h
  have nd := sc_entries.nd
  refine ⟨_, (pss_one (ps_ret (pe_sl (pv 0)))), ?_⟩
  obtain ⟨f, t, es, rfl, hf, hQ⟩ := h
  obtain ⟨dx, hs⟩ := hf.slt
  obtain ⟨p, o⟩ := C.oF
  exact ⟨_, rfl, f, cF K, dx, p, _, 0, _, rfl, hs, C.sF, o, rfl, hQ⟩
def sp_degree (K : PySem.W.Frag) : Sp := fun vs H Q _ => ∃ (f t : Addr) (es : List Int), vs = [.ref f] ∧ FormAt K H f t es ∧ Q (.int ((es.length : Int) - 1)) H
theorem l_degree {vs : List V} {H : Hp} {Q : VK} {E : XK} (h : sp_degree K vs H Q E) : vs.length = 1 := by
  obtain ⟨t, _, es, rfl, _⟩ := h
  rfl
abbrev s_degree : Stmt := inClass (top 35) 5
abbrev N_degree : List Str := ["self"]
theorem sc_degree : FnScope N_degree ["self"] (defScope s_degree) := ⟨rfl, rfl, rfl, by decide +kernel, rfl, by decide +kernel, by decide +kernel⟩
theorem d_degree (B : Bt mg) (C : Fm K mg) {gA : Addr}  (D : Md K "degree" "Form.degree" s_degree gA) : Cat P w K mg base 1 gA (sp_degree K) := by
  refine D.cat sc_degree (fun _ _ _ _ _ _ us hl => match us, hl with | [_], _ => rfl) (fun vs H Q E h => ?_) (fun _ cdv A outer s H vs Q E hr h => ?_)
  · exact l_degree h
  have nd := sc_degree.nd
  refine ⟨_, (pss_one (ps_ret (pe_op op_sub (pe_callB (len_K K) rfl B.len PySem.boot_len (pa_cons (pe_sl (pv 0)) pa_nil)) pe_int))), ?_⟩
  obtain ⟨f, t, es, rfl, hf, hQ⟩ := h
  obtain ⟨dx, hs⟩ := hf.slt
  obtain ⟨p, o⟩ := C.oF
  refine ⟨_, rfl, f, cF K, dx, p, _, 0, _, rfl, hs, C.sF, o, rfl, t, _, rfl, .inr (SqT.of hf.1), _, _, rfl, rfl, ?_⟩
  rw [iz_len]
  exact hQ
/-! ### killer_ranks, killers -/
def NewIntsT (H : Hp) (ns : List Int) : V → Hp → Prop := fun v H' => ∃ D : Addr, v = .ref D ∧ H D = none ∧ H' D = some (.tup (iz ns))
def sp_killer_ranks (K : PySem.W.Frag) : Sp := fun vs H Q _ => ∃ (f t : Addr) (es : List Int), vs = [.ref f] ∧ FormAt K H f t es ∧ Small es ∧ GxR.TabG H (tabK K) ∧ Ret none (NewIntsT H ((Lin.ranks es).map fun n : Nat => (n : Int))) H Q
theorem l_killer_ranks {vs : List V} {H : Hp} {Q : VK} {E : XK} (h : sp_killer_ranks K vs H Q E) : vs.length = 1 := by
  obtain ⟨t, _, es, rfl, _⟩ := h
  rfl
abbrev s_killer_ranks : Stmt := top 44
abbrev N_killer_ranks : List Str := ["form"]
theorem sc_killer_ranks : FnScope N_killer_ranks ["form"] (defScope s_killer_ranks) := ⟨rfl, rfl, rfl, by decide +kernel, rfl, by decide +kernel, by decide +kernel⟩
theorem d_killer_ranks (B : Bt mg) (C : Fm K mg) (pE : Prp P w K mg base 1 (cF K) "entries" (sp_entries K)) (c_ranks_in : Cal P w K mg base 6 "ranks_in" (sp_ranks_in K)) (c_require_form : Cal P w K mg base 1 "require_form" (sp_require_form K)) (D : Dd K mg "killer_ranks" s_killer_ranks) : Cal P w K mg base 7 "killer_ranks" (sp_killer_ranks K) := by
  refine D.cal sc_killer_ranks (fun _ _ _ _ _ _ us hl => match us, hl with | [_], _ => rfl) (fun vs H Q E h => ?_) (fun _ cdv A outer s H vs Q E hr h => ?_)
  · exact l_killer_ranks h
  have nd := sc_killer_ranks.nd
  refine ⟨_, (pss_cons (ps_expr (pc c_require_form hr rfl (pa_cons (pv 0) pa_nil))) (pss_one (ps_ret (pe_callTy (tuple_K K) rfl B.tuple (by decide +kernel) (pa_cons (pc c_ranks_in hr rfl (pa_cons (pprp pE C.sF hr (pv 0)) pa_nil)) pa_nil))))), ?_⟩
  obtain ⟨f, t, es, rfl, hf, S, hg, hQ⟩ := h
  obtain ⟨dx, hs⟩ := hf.slt
  refine ⟨_, rfl, f, t, es, rfl, hf, ?_⟩
  refine ⟨_, rfl, f, dx, _, rfl, hs, f, t, es, rfl, hf, t, es, rfl, hf.1, S, hg, fun v H1 k1 e1 => ?_⟩
  obtain ⟨D, rfl, hD, eD⟩ := e1
  refine ⟨D, _, rfl, .inl ⟨SqL.of eD, fun l hl => ?_⟩⟩
  exact hQ _ _ (k1.trans (Kp.new hl)) ⟨l, rfl, k1.fr l hl, upd_same⟩
/-- forms in a row -/
def Forms (K : PySem.W.Frag) (H : Hp) (fs : List Addr) (rs : List (List Int)) : Prop := fs.length = rs.length ∧ ∀ (i : Nat) (f : Addr) (r : List Int), fs[i]? = some f → rs[i]? = some r → ∃ t, FormAt K H f t r
def sp_killers (K : PySem.W.Frag) : Sp := fun vs H Q _ => ∃ (f t : Addr) (es : List Int) (d : Nat), vs = [.ref f, .int d] ∧ FormAt K H f t es ∧ Small es ∧ d ≤ es.length ∧ GxR.TabG H (tabK K) ∧
  Ret none (fun v H' => ∃ (T : Addr) (fs : List Addr), v = .ref T ∧ H T = none ∧ H' T = some (.tup (fs.map V.ref)) ∧ Forms K H' fs (Lin.kills es d)) H Q
theorem l_killers {vs : List V} {H : Hp} {Q : VK} {E : XK} (h : sp_killers K vs H Q E) : vs.length = 2 := by
  obtain ⟨t, _, es, d, rfl, _⟩ := h
  rfl
theorem kills_cnt (es : List Int) (d : Nat) : (Lin.kills es d).length ≤ d + 1 := by
  have := (Lin.ker_ok (rows := Lin.lvl es d) (w := d + 1) Lin.lvl_len).len
  show (Lin.kerP (Lin.lvl es d) (d + 1)).length ≤ d + 1
  omega
abbrev s_killers : Stmt := top 45
abbrev N_killers : List Str := ["form", "degree", "row"]
theorem sc_killers : FnScope N_killers ["form", "degree"] (defScope s_killers) := ⟨rfl, rfl, rfl, by decide +kernel, rfl, by decide +kernel, by decide +kernel⟩
theorem d_killers (B : Bt mg) (C : Fm K mg) (pE : Prp P w K mg base 1 (cF K) "entries" (sp_entries K)) (pD : Prp P w K mg base 1 (cF K) "degree" (sp_degree K)) (c_killers_in : Cal P w K mg base 6 "killers_in" (sp_killers_in K)) (c_form_of : Cal P w K mg base 7 "form_of" (sp_form_of K)) (c_require_from : Cal P w K mg base 3 "require_from" (sp_require_from K)) (c_require_form : Cal P w K mg base 1 "require_form" (sp_require_form K)) (D : Dd K mg "killers" s_killers) : Cal P w K mg base 8 "killers" (sp_killers K) := by
  refine D.cal sc_killers (fun _ _ _ _ _ _ us hl => match us, hl with | [_, _], _ => rfl) (fun vs H Q E h => ?_) (fun _ cdv A outer s H vs Q E hr h => ?_)
  · exact l_killers h
  have nd := sc_killers.nd
  refine ⟨_, (pss_cons (ps_expr (pc c_require_form hr rfl (pa_cons (pv 0) pa_nil))) (pss_cons (ps_expr (pc c_require_from hr rfl (pa_cons (pv 1) (pa_cons pe_int (pa_cons (pe_callB (call_min2 rfl) rfl B.min (by decide +kernel) (pa_cons (pe_op op_add (pprp pD C.sF hr (pv 0)) pe_int) (pa_cons (pe_gc rfl B.cMAX_DEGREE) pa_nil))) pa_nil))))) (pss_one (ps_ret (pe_callTy (tuple_K K) rfl B.tuple (by decide +kernel) (pa_cons (pe_lc (own := [("row", 2)]) rfl nd (pi_list_K K (pc c_killers_in hr rfl (pa_cons (pprp pE C.sF hr (pv 0)) (pa_cons (pv 1) pa_nil)))) (blkOk_by (N := N_killers) (sc := defScope s_killers) (by decide +kernel)) (fun _ _ _ _ _ => (pg_name (i := 2) nd rfl (Or.inl rfl) (Or.inr rfl))) (fun _ _ _ _ _ => pts_nil) (fun _ _ _ _ _ => (pc c_form_of hr rfl (pa_cons (pv 2) pa_nil)))) pa_nil)))))), ?_⟩
  obtain ⟨f, t, es, d, rfl, hf, S, hd, hg, hQ⟩ := h
  have h9 := S.few
  have h1 := S.pos
  obtain ⟨dx, hs⟩ := hf.slt
  refine ⟨_, rfl, f, t, es, rfl, hf, ?_⟩
  refine ⟨_, rfl, _, rfl, f, dx, _, rfl, hs, f, t, es, rfl, hf, _, _, rfl, rfl, _, _, rfl, _, _, _, rfl, by omega, ?_, ?_⟩
  · split <;> omega
  refine ⟨_, rfl, f, dx, _, rfl, hs, f, t, es, rfl, hf, _, rfl, t, es, d, rfl, hf.1, S, hd, hg, fun v H1 k1 e1 => ?_⟩
  obtain ⟨M, ps, rfl, hM, eM, tM⟩ := e1
  have cnt := kills_cnt es d
  refine ⟨M, rfl, ⟨_, SqL.of eM⟩, fun D hD => lc_map (σ := [some (.ref f), some (.int d), none]) (vs := [2]) (wk_list (d := none) eM) hD (by simp) (by rw [List.length_map, tM.1]; omega) (fun _ _ => True) (fun i v H => ∃ g t, v = .ref g ∧ FormAt K H g t ((Lin.kills es d).getD i [])) trivial (fun _ _ _ _ => trivial) (fun i v H H' k z => let ⟨g, t, e, z⟩ := z; ⟨g, t, e, z.keep k⟩) (fun i x H2 H3 hi k2 _ ac y R hR => ?_) (fun H2 ys k2 _ hD2 hlen hz => ?_)⟩
  · obtain ⟨rfl, hx⟩ := y
    obtain ⟨acc, hacc⟩ := ac
    obtain ⟨p, hp0, rfl⟩ := refs_get hx
    obtain ⟨r, hr, hpr⟩ := tM.get hp0
    refine ⟨wipe1, _, rfl, p, r, rfl, k2.t hpr, fun v H4 k4 e4 => ?_⟩
    obtain ⟨g, rfl, hg0, hgf⟩ := e4
    refine hR _ _ k4 trivial fun o => ⟨g, p, rfl, ?_⟩
    rw [getD_of hr]
    exact hgf.upd (k4.l hacc)
  · obtain ⟨fs, rfl⟩ := refs_of fun i y hy => let ⟨g, _, e, _⟩ := hz i y hy; ⟨g, e⟩
    refine ⟨D, _, rfl, .inl ⟨SqL.of hD2, fun l hl => ?_⟩⟩
    have kl : Kp none H2 (upd H2 l (.tup (fs.map V.ref))) := Kp.new hl
    refine hQ _ _ ((k1.trans k2).trans kl) ⟨l, fs, rfl, (k1.trans k2).fr l hl, upd_same, ?_, fun i g r hi hr => ?_⟩
    · have := tM.1
      simp at hlen
      omega
    · obtain ⟨g', t', e, z⟩ := hz i (.ref g) (by rw [List.getElem?_map, hi]; rfl)
      cases e
      rw [getD_of hr] at z
      exact ⟨t', z.keep kl⟩
end
end W0
/-! ## W11 -/
set_option Elab.async false
set_option linter.all false
set_option maxRecDepth 100000
set_option maxHeartbeats 4000000
namespace W0
open PySem PySem.Spec PyProof.Rows L2 SlX
/-! ### tuple(x) of an instance with its own __iter__ and __len__ -/
def TiO (t it : Addr) (i : Nat) : HO := .ext fun h => h.IsTupleIter it t i
def TiE (it : Addr) : HO := .ext fun h => ∃ o, h.get? it = some o
theorem tiO_ok {P : Program} {w : World} {H : Hp} {h : Heap} {t it : Addr} {i : Nat} (e : h.IsTupleIter it t i) : ObjOk P w H h it (TiO t it i) := by
  obtain ⟨o, ho, _⟩ := id e
  exact ⟨e, ⟨o, ho⟩, fun h1 h2 ⟨o, ho, q⟩ k => ⟨o, k o ho, q⟩⟩
theorem tiE_ok {P : Program} {w : World} {H : Hp} {h : Heap} {it : Addr} (e : ∃ o, h.get? it = some o) : ObjOk P w H h it (TiE it) := ⟨e, e, fun h1 h2 ⟨o, ho⟩ k => ⟨o, k o ho⟩⟩
theorem next_tend {prog : Program} {w : World} {A : Around} {E : Value → Shared → Prop} {s : Shared} {it t : Addr} {i : Nat} {items : Array Value} {Q : Option Value → Shared → Prop} (hh : A.handled = none)
    (hit : s.heap.IsTupleIter it t i) (ht : s.heap.IsTuple t items) (hx : items[i]? = none)
    (hQ : ∀ h', Heap.ExtBut it s.heap h' → (∃ o, h'.get? it = some o) → Q none { s with heap := h' }) : wpAny (model prog w) A (pyNext (.ref it)) Q E s := by
  obtain ⟨o, ho, hc, hd⟩ := id hit
  obtain ⟨ol, hol, _, nl, hdl⟩ := ht
  unfold pyNext
  refine wpAny_bind (wpAny_attempt (wpAny_callSpecial?_slot (name := Str.ofString "__next__") hit.typeIs PySem.F.slot_tuple_iterator_next
    (wpAny_call_entry PySem.F.slot_tuple_iterator_next hit.typeIs PySem.F.entry_tuple_iterator_next ?_ (PySem.F.args_tuple_iterator_next_1 _))))
  show wpAny _ _ (field (.ref it) 0 >>= _) _ _ s
  refine wpAny_bind (wpAny_field ho hd (x := .ref t) rfl ?_)
  show wpAny _ _ (if (Value.ref t == Value.none) = true then _ else _) _ _ s
  rw [if_neg (show ¬ ((Value.ref t == Value.none) = true) from Bool.false_ne_true)]
  show wpAny _ _ (field (.ref it) 1 >>= _) _ _ s
  refine wpAny_bind (wpAny_field ho hd (x := .int i 0) rfl ?_)
  show wpAny _ _ (seqItems? (.ref t) >>= _) _ _ s
  refine wpAny_bind (wpAny_seqItems hol hdl ?_)
  simp only [Int.toNat_natCast, hx]
  refine wpAny_bind (wpAny_rule (wpAny_bind (wpAny_setField ho hd (by simp) ?_)))
  show wpAny _ _ (newExc (.type "StopIteration") [] >>= _) _ _ _
  refine wpAny_bind ?_
  simp only [newExc, newTuple]
  refine wpAny_bind (wpAny_newObj_type ?_ (by size_fits))
  refine wpAny_bind (m := firstArgMember _ _) (wpAny_of_eq (a := Value.none) (by first | rfl | (simp only [firstArgMember]; rfl)) ?_)
  refine wpAny_newObj_type ?_ (by size_fits)
  simp only [raiseNew]
  refine wpAny_bind (wpAny_handled ?_)
  first | rw [show A.in1.handled = none from hh] | rw [hh]
  refine wpAny_bind (wpAny_pure (wpAny_throw ?_))
  refine wpAny_bind (wpAny_isInstance (T := "StopIteration") (b := true) ⟨_, Heap.get?_push_size _ rfl, rfl⟩ isSubtype_stop ?_)
  exact wpAny_pure (hQ _ (((Heap.SameBut.update ..).extBut.push _).push _) ⟨_, Heap.get?_push_of_some _ (Heap.get?_push_of_some _ (Heap.get?_update_self _ ho (by cases o; simp only at hc hd; subst hc hd; rfl)))⟩)
/-- all but S and it is as it was -/
def But2 (S it : Addr) (H H' : Hp) : Prop := ∀ b, b ≠ S → b ≠ it → H' b = H b
section
variable {X : Cx} {pins : List (Addr × Obj)} {σ : L2.St} {A1 : Around} {S it t : Addr} {ys : List V}
theorem tup_loop {H0 : Hp} {Rs : Result → Shared → Prop} (hh : A1.in1.handled = none) (nSI : S ≠ it) (nTS : t ≠ S) (nTI : t ≠ it) (hT0 : H0 t = some (.tup ys)) (hys : ys.length ≤ 1000)
    (hdone : ∀ H s, Inv X pins σ H s → But2 S it H0 H → H S = some (.lst ys) → H it ≠ none → Rs (.ok (.ret (.ref S))) s) :
    ∀ (n i : Nat) (H : Hp) (s : Shared), n = ys.length - i → i ≤ ys.length → Inv X pins σ H s → But2 S it H0 H → H S = some (.lst (ys.take i)) → H it = some (TiO t it i) →
      codeAny (model X.prog X.w) A1 (.builtin "list.extend.loop" ⟨[.ref S, .ref it, .ref S], []⟩) Rs s := by
  intro n
  induction n with
  | zero =>
    intro i H s hn hi I hb hS hI
    have ei : i = ys.length := by omega
    subst ei
    have hT : SqT X.K H t ys := SqT.of ((hb t nTS nTI).trans hT0)
    obtain ⟨its, rv, p, _⟩ := I.tuple hT
    have hit : s.heap.IsTupleIter it t ys.length := (I.hok it _ hI).1
    refine codeAny_builtin PySem.F.entry_extend_loop ?_
    rw [Around.under_plainId PySem.F.plain_extend_loop _]
    show wpAny _ A1.in1 (pyNext (.ref it) >>= _) _ _ s
    refine wpAny_bind (next_tend hh hit p (by rw [List.getElem?_toArray, List.getElem?_eq_none]; rw [rv.length]; exact Nat.le_refl _) fun h' eb ex => ?_)
    have mu : Mut (H it) := by rw [hI]; exact True.intro
    have I2 : Inv X pins σ (upd H it (TiE it)) { s with heap := h' } := I.write (x := it) (e := it) (t' := s.toks) mu (.inl rfl) (fun b o nb z => eb b o nb z) ex (tiE_ok ex)
    refine wpAny_pure (hdone _ _ I2 (fun b h1 h2 => by rw [upd_ne h2]; exact hb b h1 h2) (by rw [upd_ne nSI, hS, List.take_length]) (by rw [upd_same]; simp))
  | succ n ih =>
    intro i H s hn hi I hb hS hI
    have hlt : i < ys.length := by omega
    have hT : SqT X.K H t ys := SqT.of ((hb t nTS nTI).trans hT0)
    obtain ⟨its, rv, p, _⟩ := I.tuple hT
    have hit : s.heap.IsTupleIter it t i := (I.hok it _ hI).1
    obtain ⟨u, hu, ru⟩ := rv.get (List.getElem?_eq_getElem hlt)
    refine codeAny_builtin PySem.F.entry_extend_loop ?_
    rw [Around.under_plainId PySem.F.plain_extend_loop _]
    show wpAny _ A1.in1 (pyNext (.ref it) >>= _) _ _ s
    refine wpAny_bind (wpAny_pyNext_tuple_item hit p (x := u) (by rw [List.getElem?_toArray]; exact hu) fun h' hit' sb => ?_)
    have mu : Mut (H it) := by rw [hI]; exact True.intro
    have I2 : Inv X pins σ (upd H it (TiO t it (i + 1))) { s with heap := h' } := I.write (x := it) (e := it) (t' := s.toks) mu (.inl rfl) (fun b o nb z => (sb.2 b nb).trans z) (let ⟨o, ho, _⟩ := id hit'; ⟨o, ho⟩) (tiO_ok hit')
    have hS2 : upd H it (TiO t it (i + 1)) S = some (.lst (ys.take i)) := by rw [upd_ne nSI]; exact hS
    obtain ⟨z, its2, k, r2, hl, e⟩ := I2.lstM hS2
    show wpAny _ A1.in1 (updateSeq S (·.push u) >>= _) _ _ _
    have hz : its2.length ≤ 1000 := by rw [← hl, List.length_take]; omega
    refine wpAny_bind (wpAny_updateSeq e rfl (wpAny_pure ⟨plainId_quiet PySem.F.plain_extend_loop _, ?_⟩) (by rw [List.size_toArray]; exact sz_le (by omega)) (by show (its2.toArray.push u).size ≤ sizeLine + 1; rw [Array.size_push, List.size_toArray]; have := sizeLine_eq; omega))
    have et : ys.take (i + 1) = ys.take i ++ [ys[i]] := take_one (List.getElem?_eq_getElem hlt)
    refine ih (i + 1) _ _ (by omega) (by omega) (I2.lset (its' := its2 ++ [u]) (ys := ys.take (i + 1)) (t' := s.toks) hS2 e (by simp) (by rw [et]; exact r2.append (.cons ru .nil)) (by rw [List.length_take]; exact sz_le (by omega))) (fun b h1 h2 => by rw [upd_ne h1, upd_ne h2]; exact hb b h1 h2) upd_same (by rw [upd_ne nSI.symm, upd_same])
variable {C fi fl a : Addr} {kk : Nat} {spI spL : Sp} {s : Shared} {H : Hp}
/-- a class whose instances' __iter__ and __len__ are its own defs at fi, fl -/
structure ItL (K : PySem.W.Frag) (C fi fl : Addr) : Prop where
  it : PySem.W.findIn K (.ref C) "__iter__" = some (some (.ref fi))
  itF : PySem.W.isFn K (.ref fi) = true
  ln : PySem.W.findIn K (.ref C) "__len__" = some (some (.ref fl))
  lnF : PySem.W.isFn K (.ref fl) = true
theorem run_sub {A : Around} {Q : VK} {us : List Value} {vs : List V} {g : Addr} {sp : Sp} (sb : Sub X kk A) (F : FnR X.prog X.w X.K X.mg X.base CX0 kk g sp) (I : Inv X pins σ H s) (r : Vals vs us) (h : sp vs H Q E0) {E : Value → Shared → Prop} :
    wpAny (model X.prog X.w) A (call (.ref g) us) (EP X pins σ Q) E s := by
  have e0 : Env0 X.prog X.w X.K X.mg X.base A X.stack s H := by
    have e := I.env0
    exact ⟨by rw [sb.fr]; exact e.frames, e.mod, e.bs, e.bsz, e.funs, e.frf, e.hok, e.bare⟩
  refine wpAny_call (codeAny_mono (F A X.stack s H us vs Q E0 sb.room e0 r h) fun r s' hq => ?_)
  cases r with
  | error e => exact False.elim hq
  | ok fl =>
    cases fl with
    | ret u => exact I.after hq
    | next => exact False.elim hq
    | brk => exact False.elim hq
    | cont => exact False.elim hq
theorem collect_own {A : Around} {E : Value → Shared → Prop} {Q : List Value → Shared → Prop} {dx : Addr} {vs : List (Option V)} (hh : A.handled = none) (sb : Sub X kk A.in1) (sb2 : Sub X kk A.in1.in1) (c : ItL X.K C fi fl) (FI : FnR X.prog X.w X.K X.mg X.base CX0 kk fi spI) (FL : FnR X.prog X.w X.K X.mg X.base CX0 kk fl spL)
    (I : Inv X pins σ H s) (ha : Slt H a C dx vs) (hne : ∀ xs, H a ≠ some (.lst xs)) (ht : H t = some (.tup ys)) (hys : ys.length ≤ 1000)
    (hI : ∀ (H' : Hp) (Q : VK), Kp none H H' → (∀ it, H' it = none → Q (.ref it) (upd H' it (TiO t it 0))) → spI [.ref a] H' Q E0)
    (hL : ∀ (H' : Hp) (Q : VK), Kp none H H' → Q (.int ys.length) H' → spL [.ref a] H' Q E0)
    (hQ : ∀ acc s' H', Inv X pins σ H' s' → Kp none H H' → Vals ys acc → Q acc s') : wpAny (model X.prog X.w) A (collect (.ref a)) Q E s := by
  unfold collect
  refine wpAny_bind (wpAny_runValue (codeAny_builtin PySem.F.entry_proto_collect ?_))
  rw [Around.under_plainId PySem.F.plain_proto_collect _]
  show wpAny _ A.in1 (newList [] >>= fun l => again (.builtin "list.__iadd__" ⟨[l, .ref a], []⟩)) _ _ s
  refine wpAny_bind (wpAny_newObj_type ?_)
  refine wpAny_pure ⟨plainId_quiet PySem.F.plain_list_iadd _, codeAny_builtin PySem.F.entry_list_iadd ?_⟩
  rw [Around.under_plainId PySem.F.plain_list_iadd _]
  have fr : H s.heap.objs.size = none := I.hok.fresh (Nat.le_refl _)
  have I1 : Inv X pins σ (upd H s.heap.objs.size (.lst [])) { s with heap := s.heap.push { cls := .type "list", data := .seq ([] : List Value).toArray } } := I.lnew (its := []) (t' := s.toks) .nil (Nat.zero_le _)
  have k1 : Kp none H (upd H s.heap.objs.size (.lst [])) := Kp.new fr
  have ht1 := k1.t ht
  have eS : upd H s.heap.objs.size (.lst []) s.heap.objs.size = some (.lst []) := upd_same
  have ha1 : Slt (upd H s.heap.objs.size (.lst [])) a C dx vs := by
    rcases ha with ⟨a1, a2⟩ | ⟨a1, a2⟩
    · exact .inl ⟨k1.keep _ _ (by simp) a1 (fun _ z => by cases z), a2⟩
    · exact .inr ⟨k1.keep _ _ (by simp) a1 (fun ps => slO_tbl ps), k1.keep _ _ (by simp) a2 (fun _ z => by cases z)⟩
  have nSa : s.heap.objs.size ≠ a := fun z => by
    rcases ha with ⟨a1, _⟩ | ⟨a1, _⟩
    · rw [← z, fr] at a1; cases a1
    · rw [← z, fr] at a1; cases a1
  show wpAny _ A.in1 (Builtin.List.listExtendWith (.ref s.heap.objs.size) (.ref a) (.ref s.heap.objs.size)) _ _ _
  have hH1 : ∀ b o, b ≠ s.heap.objs.size → H b = some o → upd H s.heap.objs.size (.lst []) b = some o := fun b o hb e => by rw [upd_ne hb]; exact e
  generalize s.heap.objs.size = S at *
  generalize ({ s with heap := s.heap.push { cls := .type "list", data := .seq ([] : List Value).toArray } } : Shared) = s1 at *
  generalize upd H S (.lst []) = H1 at *
  obtain ⟨sl, od, _, J, _⟩ := slt_inst I1 ha1
  obtain ⟨m0, hF⟩ := I1.fr
  unfold Builtin.List.listExtendWith
  refine wpAny_bind (J.type.here ?_)
  have h1 : Builtin.List.listSameRef (.ref S) (.ref a) = false := by simp [Builtin.List.listSameRef, nSa]
  have h2 : (Value.ref C == Value.type "list") = false := rfl
  have h3 : (Value.ref C == Value.type "tuple") = false := rfl
  simp only [h1, h2, h3, Bool.or_false, Bool.false_eq_true, if_false]
  refine wpAny_bind (PySem.W.owit_iter hF I1.ok.mod.kin J c.it c.itF ?_)
  refine wpAny_mono (run_sub (us := [.ref a]) (vs := [.ref a]) (E := fun _ _ => False) sb FI I1 (.cons rfl .nil) (hI H1 (fun v H' => ∃ it, H1 it = none ∧ v = .ref it ∧ H' = upd H1 it (TiO t it 0)) k1 fun it hit => ⟨it, hit, rfl, rfl⟩)) (fun u s2 hu => ?_) fun _ _ z => z.elim
  obtain ⟨v, H2, I2, rv, it, hit, rfl, rfl⟩ := hu
  cases rv
  have hiter : s2.heap.IsTupleIter it t 0 := (I2.hok it _ upd_same).1
  unfold PySem.W.OwitIt
  refine wpAny_specialOf hiter.typeIs PySem.F.slot_tuple_iterator_next.lookup ?_
  have k2 : Kp none H1 (upd H1 it (TiO t it 0)) := Kp.new hit
  have ha2 : Slt (upd H1 it (TiO t it 0)) a C dx vs := by
    rcases ha1 with ⟨a1, a2⟩ | ⟨a1, a2⟩
    · exact .inl ⟨k2.keep _ _ (by simp) a1 (fun _ z => by cases z), a2⟩
    · exact .inr ⟨k2.keep _ _ (by simp) a1 (fun ps => slO_tbl ps), k2.keep _ _ (by simp) a2 (fun _ z => by cases z)⟩
  have nSI : S ≠ it := ne_of_none eS hit
  have nTI : t ≠ it := ne_of_none ht1 hit
  have nTS : t ≠ S := ne_of_none ht fr
  obtain ⟨sl2, od2, _, J2, _⟩ := slt_inst I2 ha2
  obtain ⟨m2, hF2⟩ := I2.fr
  refine wpAny_bind (wpAny_holding ?_)
  unfold Builtin.List.listLengthHint
  refine wpAny_bind (wpAny_bind (J2.type.here ((PySem.W.looks_findIn I2.kIn c.ln).here ?_)))
  refine PySem.W.KFB.if_not rfl ?_
  refine PySem.W.KFB.if_so rfl ?_
  refine wpAny_bind (wpAny_rule ?_)
  refine wpAny_bind (wpAny_attempt (PySem.W.len_K hF2 I2.ok.mod.kin J2 c.ln c.lnF ?_))
  refine wpAny_mono (run_sub (us := [.ref a]) (vs := [.ref a]) (E := fun _ _ => False) sb2 FL I2 (.cons rfl .nil) (hL _ (fun v H' => v = .int ys.length ∧ H' = upd H1 it (TiO t it 0)) (k1.trans k2) ⟨rfl, rfl⟩)) (fun u s3 hu => ?_) fun _ _ z => z.elim
  obtain ⟨v, H3, I3, rv, rfl, rfl⟩ := hu
  obtain ⟨tk, rfl⟩ := rv
  have I4 : Inv X pins σ (upd H1 it (TiO t it 0)) { s3 with toks := s3.toks + 1 } := I3.tok _
  refine ⟨⟨by omega, by omega⟩, ?_⟩
  refine wpAny_bind (wpAny_pure ?_)
  have hnl : Builtin.List.listTooLong (ys.length : Int).toNat = false := notLongL (sz_le (by omega))
  refine PySem.W.KFB.if_not hnl (wpAny_pure ?_)
  have eS2 : upd H1 it (TiO t it 0) S = some (.lst []) := by rw [upd_ne nSI]; exact eS
  have fin : ∀ (H5 : Hp) (s5 : Shared), Inv X pins σ H5 s5 → But2 S it H1 H5 → H5 S = some (.lst (ys.take 0)) → H5 it = some (TiO t it 0) → codeAny (model X.prog X.w) A (.builtin "list.extend.loop" ⟨[.ref S, .ref it, .ref S], []⟩) (fun r s' => match r with
      | .ok (.ret v) => wpAny (model X.prog X.w) A (match v with
          | .ref a => do match (← load a).data with
              | .seq xs _ => pure xs.toList
              | _ => unsupported "internal:collect"
          | _ => unsupported "internal:collect") Q E s'
      | .ok _ => False
      | .error e => E e s') s5 := fun H5 s5 I5 b5 e5 i5 => by
    refine tup_loop hh nSI nTS nTI (ht1) hys (fun H6 s6 I6 b6 e6 n6 => ?_) ys.length 0 H5 s5 (by omega) (Nat.zero_le _) I5 b5 e5 i5
    obtain ⟨z, its, k, r2, hl, e⟩ := I6.lstM e6
    show wpAny _ A (load S >>= _) _ _ s6
    refine wpAny_bind (wpAny_load e ?_)
    refine wpAny_pure (hQ _ _ H6 I6 ?_ (by simpa using r2))
    have nb : ∀ b o, H b = some o → H6 b = some o := fun b o hb => by
      have b0 : b ≠ S := ne_of_none hb fr
      have e1 : H1 b = some o := hH1 b o b0 hb
      rw [b6 b b0 (ne_of_none e1 hit)]
      exact e1
    refine ⟨fun b o _ hb hn => nb b o hb, fun b _ hb => ?_, fun b hb => ?_⟩
    · obtain ⟨ps, e, q⟩ := hb
      exact ⟨ps, nb b _ e, q⟩
    · have z1 : b ≠ S := fun z2 => by rw [z2, e6] at hb; cases hb
      have z3 : b ≠ it := fun z2 => by rw [z2] at hb; exact n6 hb
      rw [b6 b z1 z3] at hb
      exact k1.fr b hb
  refine wpAny_ite_split (fun _ => ?_) (fun _ => wpAny_pure ⟨plainId_quiet PySem.F.plain_extend_loop _, fin _ _ I4 (fun b _ h => by rw [upd_ne h]) eS2 upd_same⟩)
  refine wpAny_bind (wpAny_rule ?_)
  refine wpAny_bind ?_
  show wpAny _ _ (updateSeq S (·.push .none) >>= fun _ => updateSeq S (·.pop)) _ _ _
  obtain ⟨z, its, k, r3, hl3, e3⟩ := I4.lstM eS2
  cases r3
  refine wpAny_bind (wpAny_updateSeq e3 rfl ?_)
  have I5 := I4.lset (f := (·.push Value.none)) (its' := [Value.none]) (ys := [.non]) (t' := s3.toks + 1) eS2 e3 (by simp) (.cons rfl .nil) (by rw [List.length_singleton, sizeLine_eq]; decide)
  obtain ⟨z4, its4, k4, r4, hl4, e4⟩ := I5.lstM upd_same
  obtain ⟨u4, rfl, ru4⟩ := r4.one
  refine wpAny_updateSeq e4 rfl ?_ (by show 1 ≤ sizeLine; rw [sizeLine_eq]; decide) (by show 0 ≤ sizeLine + 1; exact Nat.zero_le _)
  have I6 := I5.lset (f := (·.pop)) (its := [u4]) (its' := []) (ys := []) (t' := s3.toks + 1) upd_same e4 (by rfl) .nil (Nat.zero_le _)
  rw [upd_upd] at I6
  refine wpAny_pure ⟨plainId_quiet PySem.F.plain_extend_loop _, fin _ _ I6 (fun b h1 h2 => by rw [upd_ne h1, upd_ne h2]) upd_same (by rw [upd_ne nSI.symm, upd_same])⟩
/-- tuple(x) -/
def rTupOwn (K : PySem.W.Frag) (C : Addr) (spI spL : Sp) : List V → Hp → VK → Prop := fun xs H Q => ∃ (a dx t : Addr) (vs : List (Option V)) (ys : List V), xs = [.ref a] ∧ Slt H a C dx vs ∧ (∀ xs, H a ≠ some (.lst xs)) ∧ H t = some (.tup ys) ∧ ys.length ≤ 1000 ∧
  (∀ (H' : Hp) (Q : VK), Kp none H H' → (∀ it, H' it = none → Q (.ref it) (upd H' it (TiO t it 0))) → spI [.ref a] H' Q E0) ∧ (∀ (H' : Hp) (Q : VK), Kp none H H' → Q (.int ys.length) H' → spL [.ref a] H' Q E0) ∧
  Ret none (fun v H' => ∃ T, v = .ref T ∧ H T = none ∧ H' T = some (.tup ys)) H Q
theorem call_tupOwn (hc : X.calm = true) (c : ItL X.K C fi fl) (FI : FnR X.prog X.w X.K X.mg X.base CX0 kk fi spI) (FL : FnR X.prog X.w X.K X.mg X.base CX0 kk fl spL) (hr : Room (kk + 4) X.A) : CallR X (.type "tuple") (rTupOwn X.K C spI spL) := by
  intro pins s σ H xs us Q I r h
  obtain ⟨a, dx, t, vs, ys, rfl, ha, hne, ht, hys, hI, hL, hQ⟩ := h
  obtain ⟨u, rfl, ru⟩ := vals1 r
  cases ru
  obtain ⟨sl, od, _, J, _⟩ := slt_inst I ha
  have sb0 : Sub X (kk + 4) X.A := ⟨hr, rfl⟩
  refine callType_codes (Q₁ := fun obj s₁ => s₁.TypeIs obj "tuple" ∧ EP X pins σ Q obj s₁) PySem.F.called_tuple (PySem.F.typeCall_tuple_1 _) PySem.F.entry_object_init ?_ fun obj s₁ h₁ => ?_
  · refine codeAny_of_tree ?_
    show wpAny _ X.A.in1.in1 (do checkBuiltinCall "tuple.__new__" ⟨[.type "tuple", .ref a], []⟩; again (.builtin "tuple.__new__" ⟨[.type "tuple", .ref a], []⟩)) _ _ s
    refine wpAny_bind (wpAny_of_eq (PySem.F.newCall_tuple_1 _) (wpAny_pure ⟨plainId_quiet PySem.F.plain_tuple_new _, codeAny_builtin PySem.F.entry_tuple_new ?_⟩))
    rw [Around.under_plainId PySem.F.plain_tuple_new _]
    have hsub := sub_tuple_self
    have hinit := init_tuple_lookup
    have hmh := madeHere_tuple
    have hex : ∀ {A : Around} {E : Value → Shared → Prop} {Q : Bool → Shared → Prop}, Q false s → wpAny (model X.prog X.w) A (Builtin.Tuple.tupleIsExact (.ref a)) Q E s := fun {A E Q} q => by
      unfold Builtin.Tuple.tupleIsExact
      exact wpAny_bind (J.type.here (wpAny_pure q))
    have hco : ∀ {E : Value → Shared → Prop} {Q : List Value → Shared → Prop}, (∀ acc s' H', Inv X pins σ H' s' → Kp none H H' → Vals ys acc → Q acc s') → wpAny (model X.prog X.w) X.A.in1.in1 (collect (.ref a)) Q E s := fun {E Q} q =>
      collect_own (A := X.A.in1.in1) hr.hd (sb0.in1.in1.in1.mono (by omega)) (sb0.in1.in1.in1.in1) c FI FL I ha hne ht hys hI hL q
    wp_walk using hex, hco
    intro acc s' H' I' k' r'
    show wpAny _ _ (Builtin.Tuple.tupleExact acc.toArray >>= fun v => ret v) _ _ _
    unfold Builtin.Tuple.tupleExact
    have hl := r'.length
    refine wpAny_bind (wpAny_newObj_type ?_ (by show acc.toArray.size ≤ sizeLine; rw [List.size_toArray]; exact sz_le (by omega)))
    refine wpAny_pure ?_
    have fr : H' s'.heap.objs.size = none := I'.hok.fresh (Nat.le_refl _)
    refine ⟨⟨_, Heap.get?_push_size _ rfl, rfl⟩, .ref s'.heap.objs.size, _, I'.laid (t' := s'.toks) (o := .tup ys) (fun b o e => Heap.get?_push_of_some _ e) (Nat.le_refl _) ⟨sz_le (by omega), acc, r', IsTup.new _ _⟩, rfl, ?_⟩
    exact hQ _ _ (k'.trans (Kp.new fr)) ⟨_, rfl, k'.fr _ fr, upd_same⟩
  · exact ⟨h₁.1, PySem.F.args_object_init_2 obj _, object_init_meets PySem.F.called_tuple.init.lookup PySem.F.called_tuple.made (by decide) X.prog X.w X.A.in1 _ s₁ ⟨h₁.1, rfl, h₁.2⟩⟩
end
end W0
/-! ## W12 -/
set_option Elab.async false
set_option linter.all false
set_option maxRecDepth 100000
set_option maxHeartbeats 4000000
namespace W0
open PySem PySem.Spec PyProof.Rows L2 SlX
section
variable {P : Program} {w : World} {K : PySem.W.Frag} {mg : Str → Option Value} {base : Heap}
/-! ### Form's __iter__ and __len__ -/
def rIterT (K : PySem.W.Frag) : List V → Hp → VK → Prop := fun vs H Q => ∃ (t : Addr) (xs : List V), vs = [.ref t] ∧ SqT K H t xs ∧ ∀ it, H it = none → Q (.ref it) (upd H it (TiO t it 0))
theorem call_iterT {X : Cx} : CallR X (.builtin "iter") (rIterT X.K) := by
  intro pins s σ H xs us Q I r h
  obtain ⟨t, zs, rfl, hq, q⟩ := h
  obtain ⟨u, rfl, ru⟩ := vals1 r
  cases ru
  obtain ⟨its, rv, p, hz⟩ := I.tuple hq
  refine Calls.call_function_entry (by decide +kernel) (by decide +kernel) PySem.W.kdk_entry_iter (PySem.W.kdk_args_iter _) ?_
  unfold Builtin.«iter»
  refine wpAny_bind (m := someArgs "iter" 1 2 _) (wpAny_of_eq (a := [Value.ref t]) (by first | rfl | kernel_rfl!) ?_)
  show wpAny _ _ (pyIter (.ref t) >>= _) _ _ _
  refine wpAny_bind (wpAny_pyIter_tuple p ?_)
  exact wpAny_pure ⟨_, rfl, .ref s.heap.objs.size, _, I.laid (t' := s.toks) (fun b u e => Heap.get?_push_of_some _ e) (Nat.le_refl _) (tiO_ok ⟨_, Heap.get?_push_size _ rfl, rfl, rfl⟩), rfl, q _ (I.hok.fresh (Nat.le_refl _))⟩
def sp_iter (K : PySem.W.Frag) : Sp := fun vs H Q _ => ∃ (f t : Addr) (es : List Int), vs = [.ref f] ∧ FormAt K H f t es ∧ ∀ it, H it = none → Q (.ref it) (upd H it (TiO t it 0))
theorem l_iter {vs : List V} {H : Hp} {Q : VK} {E : XK} (h : sp_iter K vs H Q E) : vs.length = 1 := by
  obtain ⟨t, _, es, rfl, _⟩ := h
  rfl
abbrev s_iter : Stmt := inClass (top 35) 20
abbrev N_iter : List Str := ["self"]
theorem sc_iter : FnScope N_iter ["self"] (defScope s_iter) := ⟨rfl, rfl, rfl, by decide +kernel, rfl, by decide +kernel, by decide +kernel⟩
theorem d_iter (B : Bt mg) (C : Fm K mg) {gA : Addr}  (D : Md K "__iter__" "Form.__iter__" s_iter gA) : Cat P w K mg base 1 gA (sp_iter K) := by
  refine D.cat sc_iter (fun _ _ _ _ _ _ us hl => match us, hl with | [_], _ => rfl) (fun vs H Q E h => ?_) (fun _ cdv A outer s H vs Q E hr h => ?_)
  · exact l_iter h
  have nd := sc_iter.nd
  refine ⟨_, (pss_one (ps_ret (pe_callB call_iterT rfl B.iter (by decide +kernel) (pa_cons (pe_sl (pv 0)) pa_nil)))), ?_⟩
  obtain ⟨f, t, es, rfl, hf, hQ⟩ := h
  obtain ⟨dx, hs⟩ := hf.slt
  obtain ⟨p, o⟩ := C.oF
  exact ⟨_, rfl, f, cF K, dx, p, _, 0, _, rfl, hs, C.sF, o, rfl, t, _, rfl, SqT.of hf.1, hQ⟩
def sp_flen (K : PySem.W.Frag) : Sp := fun vs H Q _ => ∃ (f t : Addr) (es : List Int), vs = [.ref f] ∧ FormAt K H f t es ∧ Q (.int (es.length : Int)) H
theorem l_flen {vs : List V} {H : Hp} {Q : VK} {E : XK} (h : sp_flen K vs H Q E) : vs.length = 1 := by
  obtain ⟨t, _, es, rfl, _⟩ := h
  rfl
abbrev s_flen : Stmt := inClass (top 35) 19
abbrev N_flen : List Str := ["self"]
theorem sc_flen : FnScope N_flen ["self"] (defScope s_flen) := ⟨rfl, rfl, rfl, by decide +kernel, rfl, by decide +kernel, by decide +kernel⟩
theorem d_flen (B : Bt mg) (C : Fm K mg) {gA : Addr}  (D : Md K "__len__" "Form.__len__" s_flen gA) : Cat P w K mg base 1 gA (sp_flen K) := by
  refine D.cat sc_flen (fun _ _ _ _ _ _ us hl => match us, hl with | [_], _ => rfl) (fun vs H Q E h => ?_) (fun _ cdv A outer s H vs Q E hr h => ?_)
  · exact l_flen h
  have nd := sc_flen.nd
  refine ⟨_, (pss_one (ps_ret (pe_callB (len_K K) rfl B.len PySem.boot_len (pa_cons (pe_sl (pv 0)) pa_nil)))), ?_⟩
  obtain ⟨f, t, es, rfl, hf, hQ⟩ := h
  obtain ⟨dx, hs⟩ := hf.slt
  obtain ⟨p, o⟩ := C.oF
  refine ⟨_, rfl, f, cF K, dx, p, _, 0, _, rfl, hs, C.sF, o, rfl, t, _, rfl, .inr (SqT.of hf.1), ?_⟩
  rw [iz_len]
  exact hQ
/-- tuple(form) -/
def rTupForm (K : PySem.W.Frag) : List V → Hp → VK → Prop := fun xs H Q => ∃ (f t : Addr) (es : List Int), xs = [.ref f] ∧ FormAt K H f t es ∧ es.length ≤ 1000 ∧ Ret none (NewIntsT H es) H Q
theorem tup_form {X : Cx} {fi fl : Addr} {k : Nat} (K : PySem.W.Frag) (hc : X.calm = true) (c : ItL X.K (cF X.K) fi fl) (FI : Cat X.prog X.w X.K X.mg X.base 1 fi (sp_iter X.K)) (FL : Cat X.prog X.w X.K X.mg X.base 1 fl (sp_flen X.K)) (hr : Room k X.A) (hk : 5 ≤ k := by decide) (h : X.K = K := by rfl) : CallR X (.type "tuple") (rTupForm K) := by
  subst h
  intro pins s σ H xs us Q I r h
  obtain ⟨f, t, es, rfl, hf, hl, hQ⟩ := h
  obtain ⟨dx, hs⟩ := hf.slt
  refine call_tupOwn (kk := 1) hc c FI.raw FL.raw (hr.mono (by omega)) pins s σ H _ us Q I r ⟨f, dx, t, _, iz es, rfl, hs, fun xs z => ?_, hf.1, by rw [iz_len]; exact hl, fun H' Q k q => ⟨f, t, es, rfl, hf.keep k, q⟩, fun H' Q k q => ⟨f, t, es, rfl, hf.keep k, by rw [iz_len] at q; exact q⟩, hQ⟩
  obtain ⟨_, dx2, b, _⟩ := hf
  rw [b] at z
  unfold SlO at z
  cases z
/-! ### the dice -/
def Dice (H : Hp) (d : Addr) (m : Nat) : Prop := ∃ a b c : Int, H d = some (.lst [.int a, .int b, .int c]) ∧ 0 ≤ a ∧ a.natAbs < 2 ^ 400 ∧ b.natAbs < 2 ^ 80 ∧ 0 ≤ c ∧ c + m ≤ 1000000000
theorem Dice.less {H : Hp} {d : Addr} {m n : Nat} (h : Dice H d m) (hn : n ≤ m) : Dice H d n := let ⟨a, b, c, e, h1, h2, h3, h4, h5⟩ := h; ⟨a, b, c, e, h1, h2, h3, h4, by omega⟩
theorem Dice.upd {H : Hp} {d D : Addr} {m : Nat} {o : HO} (h : Dice H d m) (hn : d ≠ D) : Dice (upd H D o) d m := let ⟨a, b, c, e, r⟩ := h; ⟨a, b, c, by rw [upd_ne hn]; exact e, r⟩
theorem Dice.keep {H H' : Hp} {d : Addr} {m : Nat} (h : Dice H d m) (k : Kp none H H') : Dice H' d m := let ⟨a, b, c, e, r⟩ := h; ⟨a, b, c, k.l e, r⟩
theorem Dice.ne {H : Hp} {d : Addr} {m : Nat} (h : Dice H d m) : H d ≠ none := let ⟨a, b, c, e, _⟩ := h; fun z => by rw [e] at z; cases z
theorem Dice.new {H : Hp} {d D : Addr} {m : Nat} (h : Dice H d m) (hD : H D = none) : d ≠ D := fun z => h.ne (by rw [z]; exact hD)
def sp_dice (K : PySem.W.Frag) : Sp := fun vs H Q _ => ∃ (a : Addr) (ns : List Int) (sp : Nat), vs = [.ref a, .int sp] ∧ SqL K H a (iz ns) ∧ sp ≤ 10 ∧ Ret none (fun v H' => ∃ d, v = .ref d ∧ H d = none ∧ Dice H' d 900000000) H Q
theorem l__law_dice {vs : List V} {H : Hp} {Q : VK} {E : XK} (h : sp_dice K vs H Q E) : vs.length = 2 := by
  obtain ⟨a, ns, sp, rfl, _⟩ := h
  rfl
abbrev s__law_dice : Stmt := top 47
abbrev N__law_dice : List Str := ["_law_script", "_law_spot", "_law_cell", "_law_left"]
theorem sc__law_dice : FnScope N__law_dice ["_law_script", "_law_spot"] (defScope s__law_dice) := ⟨rfl, rfl, rfl, by decide +kernel, rfl, by decide +kernel, by decide +kernel⟩
theorem d__law_dice (B : Bt mg)   (D : Dd K mg "_law_dice" s__law_dice) : Cal P w K mg base 1 "_law_dice" (sp_dice K) := by
  refine D.cal sc__law_dice (fun _ _ _ _ _ _ us hl => match us, hl with | [_, _], _ => rfl) (fun vs H Q E h => ?_) (fun _ cdv A outer s H vs Q E hr h => ?_)
  · exact l__law_dice h
  have nd := sc__law_dice.nd
  refine ⟨_, (pss_cons (ps_set (i := 2) nd rfl (Or.inl rfl) (pe_ifExp (pt_cmpR op_lt (pv 1) (pe_callB (len_K K) rfl B.len PySem.boot_len (pa_cons (pv 0) pa_nil)) (nomark _)) (pe_callTy call_int1 rfl B.int (by decide +kernel) (pa_cons (pe_ix (ixl_K K) (pv 0) (pv 1) (fun _ _ => rfl)) pa_nil)) (pe_op op_add (pe_op op_mulW pe_int (pv 1)) pe_int))) (pss_cons (ps_set (i := 3) nd rfl (Or.inl rfl) (pe_op op_modN (pe_callB (call_max2 rfl) rfl B.max (by decide +kernel) (pa_cons pe_int (pa_cons (pe_op op_sub (pe_callB call_abs rfl B.abs (by decide +kernel) (pa_cons (pv 2) pa_nil)) (pe_op op_pow pe_int pe_int)) pa_nil))) (pe_op op_mulW (pe_op op_pow pe_int pe_int) (pe_op op_pow pe_int pe_int)))) (pss_one (ps_ret (pe_lst (pa_cons (pv 3) (pa_cons (pe_op op_add (pe_op op_add (pe_op op_add (pe_op op_mulW (pe_op op_modN (pe_callB call_abs rfl B.abs (by decide +kernel) (pa_cons (pv 2) pa_nil)) pe_int) pe_int) (pe_op op_mulW pe_int (pv 1))) (pe_op op_mulW pe_int (pe_callTy call_int1 rfl B.int (by decide +kernel) (pa_cons (pe_cmpR op_lt (pv 2) pe_int (nomark _)) pa_nil)))) pe_int) (pa_cons pe_int pa_nil)))))))), ?_⟩
  obtain ⟨a, ns, sp, rfl, ha, hsp, hQ⟩ := h
  have fin : ∀ (cell : Int), CPow 10 16 ∧ CPow 10 60 := fun _ => ⟨⟨by decide, by decide, by decide⟩, ⟨by decide, by decide, by decide⟩⟩
  have p60 : CMulW ((10 : Int) ^ (60 : Int).toNat) ((10 : Int) ^ (60 : Int).toNat) := wide_mul (a := 200) (b := 200) (by decide) (by decide) (by decide) (by decide) (by decide)
  have pos60 : 0 < (10 : Int) ^ (60 : Int).toNat * (10 : Int) ^ (60 : Int).toNat := by decide
  have m60 : (10 : Int) ^ (60 : Int).toNat * (10 : Int) ^ (60 : Int).toNat ≠ 0 := by decide
  have m61 : ∀ x : Int, (Int.fmod x 1152921504606846697).natAbs < 2 ^ 61 := fun x => by
    have h1 := Int.fmod_nonneg_of_pos x (by decide : (0 : Int) < 1152921504606846697)
    have h2 := Int.fmod_lt_of_pos x (by decide : (0 : Int) < 1152921504606846697)
    omega
  have mF : ∀ x : Int, 0 ≤ Int.fmod x ((10 : Int) ^ (60 : Int).toNat * (10 : Int) ^ (60 : Int).toNat) ∧ (Int.fmod x ((10 : Int) ^ (60 : Int).toNat * (10 : Int) ^ (60 : Int).toNat)).natAbs < 2 ^ 400 := fun x => by
    have h1 := Int.fmod_nonneg_of_pos x pos60
    have h2 := Int.fmod_lt_of_pos x pos60
    refine ⟨h1, ?_⟩
    generalize Int.fmod x ((10 : Int) ^ (60 : Int).toNat * (10 : Int) ^ (60 : Int).toNat) = z at h1 h2
    have h3 : ((10 : Int) ^ (60 : Int).toNat * (10 : Int) ^ (60 : Int).toNat).natAbs < 2 ^ 400 := by decide
    exact Nat.lt_of_le_of_lt (by omega) h3
  have bnd : ∀ x bb : Int, bb = 0 ∨ bb = 1 → (Int.fmod x 1152921504606846697 * 83 + 883 * (sp : Int) + 43 * bb + 19).natAbs < 2 ^ 80 := fun x bb h => by
    have := m61 x
    generalize Int.fmod x 1152921504606846697 = mm at this
    omega
  have ne61 : (1152921504606846697 : Int) ≠ 0 := by decide
  have bit : ∀ b : Bool, (if b = true then (1 : Int) else 0) = 0 ∨ (if b = true then (1 : Int) else 0) = 1 := fun b => by cases b; exact .inl rfl; exact .inr rfl
  have bitL : ∀ b : Bool, (if b = true then (1 : Int) else 0).natAbs < 2 ^ 10 := fun b => by cases b <;> decide
  by_cases hlt : sp < ns.length
  · refine ⟨_, rfl, _, rfl, a, _, rfl, .inl ha, _, _, rfl, rfl, _, rfl, ifT (decide_eq_true (by rw [iz_len]; omega)) ?_⟩
    refine ⟨_, rfl, _, rfl, a, _, _, _, rfl, rfl, ha, iz_at hlt, .inl ⟨_, rfl, ?_⟩⟩
    generalize Lin.fn ns sp = cell
    refine ⟨_, rfl, _, rfl, _, _, rfl, rfl, (fin 0).1, _, _, rfl, rfl, _, _, rfl, _, _, rfl, rfl, (fin 0).2, _, _, rfl, rfl, (fin 0).2, _, _, rfl, rfl, p60, _, _, rfl, rfl, m60, ?_⟩
    refine ⟨_, rfl, _, rfl, _, rfl, _, _, rfl, rfl, ne61, _, _, rfl, rfl, wide_mul (a := 61) (b := 10) (m61 _) (by decide) (by decide) (by decide) (by decide), _, rfl, _, _, rfl, rfl, wide_mul (a := 10) (b := 10) (by decide) (by omega) (by decide) (by decide) (by decide), _, _, rfl, rfl, _, rfl, _, _, rfl, rfl, .inr ⟨_, rfl, _, _, rfl, rfl, wide_mul (a := 10) (b := 10) (by decide) (bitL _) (by decide) (by decide) (by decide), _, _, rfl, rfl, _, _, rfl, rfl, by show 3 ≤ sizeLine; exact sz_le (by decide), fun D hD => ?_⟩⟩
    exact hQ _ _ (Kp.new hD) ⟨D, rfl, hD, _, _, _, upd_same, (mF _).1, (mF _).2, bnd _ _ (bit _), Int.le_refl _, by omega⟩
  · refine ⟨_, rfl, _, rfl, a, _, rfl, .inl ha, _, _, rfl, rfl, _, rfl, ifF (decide_eq_false (by rw [iz_len]; omega)) ?_⟩
    refine ⟨_, rfl, _, _, rfl, rfl, wide_mul (a := 10) (b := 10) (by decide) (by omega) (by decide) (by decide) (by decide), _, _, rfl, rfl, ?_⟩
    generalize 89 * (sp : Int) + 37 = cell
    refine ⟨_, rfl, _, rfl, _, _, rfl, rfl, (fin 0).1, _, _, rfl, rfl, _, _, rfl, _, _, rfl, rfl, (fin 0).2, _, _, rfl, rfl, (fin 0).2, _, _, rfl, rfl, p60, _, _, rfl, rfl, m60, ?_⟩
    refine ⟨_, rfl, _, rfl, _, rfl, _, _, rfl, rfl, ne61, _, _, rfl, rfl, wide_mul (a := 61) (b := 10) (m61 _) (by decide) (by decide) (by decide) (by decide), _, rfl, _, _, rfl, rfl, wide_mul (a := 10) (b := 10) (by decide) (by omega) (by decide) (by decide) (by decide), _, _, rfl, rfl, _, rfl, _, _, rfl, rfl, .inr ⟨_, rfl, _, _, rfl, rfl, wide_mul (a := 10) (b := 10) (by decide) (bitL _) (by decide) (by decide) (by decide), _, _, rfl, rfl, _, _, rfl, rfl, by show 3 ≤ sizeLine; exact sz_le (by decide), fun D hD => ?_⟩⟩
    exact hQ _ _ (Kp.new hD) ⟨D, rfl, hD, _, _, _, upd_same, (mF _).1, (mF _).2, bnd _ _ (bit _), Int.le_refl _, by omega⟩
end
end W0
/-! ## W13 -/
set_option Elab.async false
set_option linter.all false
set_option maxRecDepth 100000
set_option maxHeartbeats 4000000
namespace W0
open PySem PySem.Spec PyProof.Rows L2 SlX
section
variable {P : Program} {w : World} {K : PySem.W.Frag} {mg : Str → Option Value} {base : Heap}
/-! ### _law_roll, _law_near -/
def sp_roll (K : PySem.W.Frag) : Sp := fun vs H Q _ => ∃ (d : Addr) (m : Nat) (n : Int), vs = [.ref d, .int n] ∧ Dice H d (m + 1) ∧ 0 < n ∧ Ret (some d) (fun v H' => Dice H' d m ∧ ∃ r, v = .int r ∧ 0 ≤ r ∧ r < n) H Q
theorem l__law_roll {vs : List V} {H : Hp} {Q : VK} {E : XK} (h : sp_roll K vs H Q E) : vs.length = 2 := by
  obtain ⟨d, m, n, rfl, _⟩ := h
  rfl
abbrev s__law_roll : Stmt := top 48
abbrev N__law_roll : List Str := ["_law_dice_here", "_law_total", "_law_found", "_law_one", "_law_two"]
theorem sc__law_roll : FnScope N__law_roll ["_law_dice_here", "_law_total"] (defScope s__law_roll) := ⟨rfl, rfl, rfl, by decide +kernel, rfl, by decide +kernel, by decide +kernel⟩
theorem d__law_roll (B : Bt mg)   (D : Dd K mg "_law_roll" s__law_roll) : Cal P w K mg base 1 "_law_roll" (sp_roll K) := by
  refine D.cal sc__law_roll (fun _ _ _ _ _ _ us hl => match us, hl with | [_, _], _ => rfl) (fun vs H Q E h => ?_) (fun _ cdv A outer s H vs Q E hr h => ?_)
  · exact l__law_roll h
  have nd := sc__law_roll.nd
  refine ⟨_, (pss_cons (ps_if (pt_cmpR op_gt (pe_ix (ixl_K K) (pv 0) pe_int (fun _ _ => rfl)) pe_int (nomark _)) (pss_cons (ps_set (i := 2) nd rfl (Or.inl rfl) (pe_op op_modN (pe_callTy call_int1 rfl B.int (by decide +kernel) (pa_cons (pe_ix (ixl_K K) (pv 0) pe_int (fun _ _ => rfl)) pa_nil)) (pv 1))) (pss_cons (ps_asg (pe_op op_fdivC (pe_ix (ixl_K K) (pv 0) pe_int (fun _ _ => rfl)) (pv 1)) (pg_sub (pv 0) pe_int set_list)) (pss_one (ps_ret (pv 2))))) pss_nil) (pss_cons (ps_asg (pe_op op_add (pe_ix (ixl_K K) (pv 0) pe_int (fun _ _ => rfl)) pe_int) (pg_sub (pv 0) pe_int set_list)) (pss_cons (ps_set (i := 3) nd rfl (Or.inl rfl) (pe_op op_modN (pe_callTy call_int1 rfl B.int (by decide +kernel) (pa_cons (pe_op op_add (pe_ix (ixl_K K) (pv 0) pe_int (fun _ _ => rfl)) (pe_op op_mulW pe_int (pe_ix (ixl_K K) (pv 0) pe_int (fun _ _ => rfl)))) pa_nil)) pe_int)) (pss_cons (ps_set (i := 4) nd rfl (Or.inl rfl) (pe_op op_add (pe_op op_mulW (pe_op op_modN (pe_callTy call_int1 rfl B.int (by decide +kernel) (pa_cons (pe_op op_add (pe_op op_mulW (pv 3) (pv 3)) (pe_op op_mulW pe_int (pe_ix (ixl_K K) (pv 0) pe_int (fun _ _ => rfl)))) pa_nil)) pe_int) pe_int) (pv 3))) (pss_one (ps_ret (pe_op op_modN (pe_callTy call_int1 rfl B.int (by decide +kernel) (pa_cons (pe_op op_fdivC (pv 4) pe_int) pa_nil)) (pv 1)))))))), ?_⟩
  obtain ⟨d, m, n, rfl, hd, hn, hQ⟩ := h
  obtain ⟨a, b, c, e, h1, h2, h3, h4, h5⟩ := id hd
  have n0 : n ≠ 0 := by omega
  have at0 : atI [V.int a, .int b, .int c] 0 = some (.int a) := atI_nat (j := 0) rfl
  by_cases ha : 0 < a
  · refine ⟨_, rfl, d, _, _, _, rfl, rfl, SqL.of e, at0, _, _, rfl, rfl, _, rfl, ifT (decide_eq_true ha) ?_⟩
    refine ⟨_, rfl, d, _, _, _, rfl, rfl, SqL.of e, at0, .inl ⟨_, rfl, _, rfl, _, _, rfl, rfl, n0, ?_⟩⟩
    refine ⟨_, rfl, d, _, _, _, rfl, rfl, SqL.of e, at0, _, rfl, _, _, rfl, rfl, divc_of n0 (lt_bits (a := 400) (b := 13400) h2 (by decide)), _, rfl, d, _, 0, 0, rfl, rfl, e, ixN_of (by show 0 < 3; decide), ?_⟩
    have q1 : a.fdiv n = a / n := Int.fdiv_eq_ediv_of_nonneg _ (by omega)
    have q2 := Int.ediv_nonneg h1 (by omega : 0 ≤ n)
    have q3 := Int.ediv_le_self n h1
    refine ⟨_, rfl, hQ _ _ (Kp.at .refl hd.ne) ⟨⟨a.fdiv n, b, c, upd_same, by rw [q1]; exact q2, by rw [q1]; exact Nat.lt_of_le_of_lt (by omega) h2, h3, h4, by omega⟩, _, rfl, Int.fmod_nonneg_of_pos _ hn, Int.fmod_lt_of_pos _ hn⟩⟩
  · refine ⟨_, rfl, d, _, _, _, rfl, rfl, SqL.of e, at0, _, _, rfl, rfl, _, rfl, ifF (decide_eq_false ha) ?_⟩
    have at2 : atI [V.int a, .int b, .int c] 2 = some (.int c) := atI_nat (j := 2) rfl
    refine ⟨_, rfl, d, _, _, _, rfl, rfl, SqL.of e, at2, _, _, rfl, rfl, _, rfl, d, _, 2, 2, rfl, rfl, e, ixN_of (by show 2 < 3; decide), ?_⟩
    have e1 : (upd H d (.lst [.int a, .int b, .int (c + 1)])) d = some (.lst [.int a, .int b, .int (c + 1)]) := upd_same
    show tSeq _ _ _ [some (.ref d), some (.int n), none, none, none] (upd H d (.lst [.int a, .int b, .int (c + 1)]))
    have k1 : Kp (some d) H (upd H d (.lst [.int a, .int b, .int (c + 1)])) := Kp.at .refl hd.ne
    generalize upd H d (.lst [.int a, .int b, .int (c + 1)]) = H1 at e1 k1
    have at1 : atI [V.int a, .int b, .int (c + 1)] 1 = some (.int b) := atI_nat (j := 1) rfl
    have at2' : atI [V.int a, .int b, .int (c + 1)] 2 = some (.int (c + 1)) := atI_nat (j := 2) rfl
    have hc : (c + 1).natAbs < 2 ^ 40 := by omega
    have N1 : (2305843009213691579 : Int) ≠ 0 := by decide
    have N2 : (2305843009213692227 : Int) ≠ 0 := by decide
    refine ⟨_, rfl, d, _, _, _, rfl, rfl, SqL.of e1, at1, _, rfl, d, _, _, _, rfl, rfl, SqL.of e1, at2', _, _, rfl, rfl, wide_mul (a := 40) (b := 40) (by decide) hc (by decide) (by decide) (by decide), _, _, rfl, rfl, .inl ⟨_, rfl, _, _, rfl, rfl, N1, ?_⟩⟩
    have m1 : ∀ x : Int, (Int.fmod x 2305843009213691579).natAbs < 2 ^ 62 := fun x => by
      have h1 := Int.fmod_nonneg_of_pos x (by decide : (0 : Int) < 2305843009213691579)
      have h2 := Int.fmod_lt_of_pos x (by decide : (0 : Int) < 2305843009213691579)
      omega
    have m2 : ∀ x : Int, (Int.fmod x 2305843009213692227).natAbs < 2 ^ 62 := fun x => by
      have h1 := Int.fmod_nonneg_of_pos x (by decide : (0 : Int) < 2305843009213692227)
      have h2 := Int.fmod_lt_of_pos x (by decide : (0 : Int) < 2305843009213692227)
      omega
    have hone := m1 (b + 92821991 * (c + 1))
    show tSeq _ _ _ [some (.ref d), some (.int n), none, some (.int (Int.fmod (b + 92821991 * (c + 1)) 2305843009213691579)), none] H1
    generalize Int.fmod (b + 92821991 * (c + 1)) 2305843009213691579 = one at hone
    refine ⟨_, rfl, _, rfl, _, _, rfl, rfl, wide_mul (a := 62) (b := 62) hone hone (by decide) (by decide) (by decide), _, rfl, d, _, _, _, rfl, rfl, SqL.of e1, at2', _, _, rfl, rfl, wide_mul (a := 40) (b := 40) (by decide) hc (by decide) (by decide) (by decide), _, _, rfl, rfl, .inl ⟨_, rfl, _, _, rfl, rfl, N2, _, _, rfl, rfl, wide_mul (a := 62) (b := 40) (m2 _) (by decide) (by decide) (by decide) (by decide), _, rfl, _, _, rfl, rfl, ?_⟩⟩
    have htwo : (Int.fmod (one * one + 101 * (c + 1)) 2305843009213692227 * 5915587 + one).natAbs < 2 ^ 120 := by
      have := m2 (one * one + 101 * (c + 1))
      generalize Int.fmod (one * one + 101 * (c + 1)) 2305843009213692227 = z at this
      omega
    refine ⟨_, rfl, _, _, rfl, rfl, divc_of (by decide) (lt_bits (a := 120) (b := 13400) htwo (by decide)), .inl ⟨_, rfl, _, rfl, _, _, rfl, rfl, n0, ?_⟩⟩
    exact hQ _ _ k1 ⟨⟨a, b, c + 1, e1, h1, h2, h3, by omega, by omega⟩, _, rfl, Int.fmod_nonneg_of_pos _ hn, Int.fmod_lt_of_pos _ hn⟩
def sp_near (K : PySem.W.Frag) : Sp := fun vs H Q _ => ∃ (d : Addr) (m : Nat) (n : Nat), vs = [.ref d, .int n] ∧ Dice H d (m + 1) ∧ n ≤ 10000000000000 ∧ Ret (some d) (fun v H' => Dice H' d m ∧ ∃ r, v = .int r ∧ r.natAbs ≤ n) H Q
theorem l__law_near {vs : List V} {H : Hp} {Q : VK} {E : XK} (h : sp_near K vs H Q E) : vs.length = 2 := by
  obtain ⟨d, m, n, rfl, _⟩ := h
  rfl
abbrev s__law_near : Stmt := top 49
abbrev N__law_near : List Str := ["_law_dice_here", "_law_most"]
theorem sc__law_near : FnScope N__law_near ["_law_dice_here", "_law_most"] (defScope s__law_near) := ⟨rfl, rfl, rfl, by decide +kernel, rfl, by decide +kernel, by decide +kernel⟩
theorem d__law_near (B : Bt mg)  (c__law_roll : Cal P w K mg base 1 "_law_roll" (sp_roll K)) (D : Dd K mg "_law_near" s__law_near) : Cal P w K mg base 2 "_law_near" (sp_near K) := by
  refine D.cal sc__law_near (fun _ _ _ _ _ _ us hl => match us, hl with | [_, _], _ => rfl) (fun vs H Q E h => ?_) (fun _ cdv A outer s H vs Q E hr h => ?_)
  · exact l__law_near h
  have nd := sc__law_near.nd
  refine ⟨_, (pss_one (ps_ret (pe_op op_sub (pc c__law_roll hr rfl (pa_cons (pv 0) (pa_cons (pe_op op_add (pe_op op_mulW pe_int (pv 1)) pe_int) pa_nil))) (pv 1)))), ?_⟩
  obtain ⟨d, m, n, rfl, hd, hn, hQ⟩ := h
  refine ⟨_, rfl, _, rfl, _, _, rfl, rfl, wide_mul (a := 10) (b := 50) (by decide) (by omega) (by decide) (by decide) (by decide), _, _, rfl, rfl, d, m, _, rfl, hd, by omega, fun v H1 k1 e1 => ?_⟩
  obtain ⟨d1, r, rfl, r1, r2⟩ := e1
  exact ⟨_, rfl, _, _, rfl, rfl, hQ _ _ k1 ⟨d1, _, rfl, by omega⟩⟩
/-! ### _law_gcd, _law_shared -/
def sp_gcd (K : PySem.W.Frag) : Sp := fun vs H Q _ => ∃ a b : Int, vs = [.int a, .int b] ∧ Q (.int (Nat.gcd a.natAbs b.natAbs : Nat)) H
theorem l__law_gcd {vs : List V} {H : Hp} {Q : VK} {E : XK} (h : sp_gcd K vs H Q E) : vs.length = 2 := by
  obtain ⟨a, b, rfl, _⟩ := h
  rfl
abbrev s__law_gcd : Stmt := top 50
abbrev N__law_gcd : List Str := ["_law_one", "_law_other"]
theorem sc__law_gcd : FnScope N__law_gcd ["_law_one", "_law_other"] (defScope s__law_gcd) := ⟨rfl, rfl, rfl, by decide +kernel, rfl, by decide +kernel, by decide +kernel⟩
theorem d__law_gcd (B : Bt mg)   (D : Dd K mg "_law_gcd" s__law_gcd) : Cal P w K mg base 1 "_law_gcd" (sp_gcd K) := by
  refine D.cal sc__law_gcd (fun _ _ _ _ _ _ us hl => match us, hl with | [_, _], _ => rfl) (fun vs H Q E h => ?_) (fun _ cdv A outer s H vs Q E hr h => ?_)
  · exact l__law_gcd h
  have nd := sc__law_gcd.nd
  refine ⟨_, (pss_cons (ps_par (i := 0) (j := 1) rfl nd rfl rfl (by decide) rfl rfl (pa_cons (pe_callB call_abs rfl B.abs (by decide +kernel) (pa_cons (pv 0) pa_nil)) (pa_cons (pe_callB call_abs rfl B.abs (by decide +kernel) (pa_cons (pv 1) pa_nil)) pa_nil)) rfl) (pss_cons (ps_while PassesOwn.never (pt_cmpR op_gt (pv 1) pe_int (nomark _)) (pss_one (ps_par (i := 0) (j := 1) rfl nd rfl rfl (by decide) rfl rfl (pa_cons (pv 1) (pa_cons (pe_op op_modN (pe_callTy call_int1 rfl B.int (by decide +kernel) (pa_cons (pv 0) pa_nil)) (pv 1)) pa_nil)) rfl))) (pss_one (ps_ret (pv 0))))), ?_⟩
  obtain ⟨a, b, rfl, hQ⟩ := h
  have ab : ∀ i : Int, (if i < 0 then -i else i) = (i.natAbs : Int) := fun i => by split <;> omega
  refine ⟨_, rfl, _, rfl, _, rfl, _, rfl, _, _, rfl, ?_⟩
  refine while_by (fun σ H' => H' = H ∧ ∃ x y : Nat, σ = [some (.int (x : Nat)), some (.int (y : Nat))] ∧ Nat.gcd x y = Nat.gcd a.natAbs b.natAbs) (fun σ _ => match σ with | [_, some (.int y)] => y.toNat | _ => 0) ⟨rfl, a.natAbs, b.natAbs, by rw [← ab a, ← ab b]; rfl, rfl⟩ (fun σ H' p => ?_) (fun σ H' Q1 Q2 hq hc => ?_)
  · obtain ⟨rfl, x, y, rfl, hg⟩ := p
    refine ⟨_, rfl, _, _, rfl, rfl, _, rfl, ?_⟩
    by_cases hy : 0 < y
    · refine ifT (decide_eq_true (by omega)) ⟨_, rfl, _, rfl, .inl ⟨_, rfl, _, rfl, _, _, rfl, rfl, by omega, _, _, rfl, ?_⟩⟩
      have e : Int.fmod (x : Int) (y : Int) = ((x % y : Nat) : Int) := by rw [Int.fmod_eq_emod_of_nonneg _ (by omega)]; rfl
      have : (H' = H' ∧ ∃ x' y' : Nat, [some (V.int (y : Int)), some (V.int (Int.fmod (x : Int) (y : Int)))] = [some (.int (x' : Nat)), some (.int (y' : Nat))] ∧ Nat.gcd x' y' = Nat.gcd a.natAbs b.natAbs) ∧ (Int.fmod (x : Int) (y : Int)).toNat < (y : Int).toNat := by
        refine ⟨⟨rfl, y, x % y, by rw [e], ?_⟩, ?_⟩
        · rw [← hg, Nat.gcd_comm x y, Nat.gcd_rec y x, Nat.gcd_comm]
        · rw [e]
          have := Nat.mod_lt x hy
          omega
      exact this
    · refine ifF (decide_eq_false (by omega)) ⟨_, rfl, ?_⟩
      have e0 : y = 0 := by omega
      subst e0
      rw [Nat.gcd_zero_right] at hg
      rw [hg]
      exact hQ
  · obtain ⟨v, e1, i, j, e2, e3, b, e4, q⟩ := hc
    exact ⟨v, e1, i, j, e2, e3, b, e4, hq _ _ q⟩
def sp_shared (K : PySem.W.Frag) : Sp := fun vs H Q _ => ∃ (a : Addr) (ns : List Int), vs = [.ref a] ∧ (H a = some (.lst (iz ns)) ∨ H a = some (.tup (iz ns))) ∧ Q (.int (Lin.shN ns : Nat)) H
theorem l__law_shared {vs : List V} {H : Hp} {Q : VK} {E : XK} (h : sp_shared K vs H Q E) : vs.length = 1 := by
  obtain ⟨a, ns, rfl, _⟩ := h
  rfl
abbrev s__law_shared : Stmt := top 51
abbrev N__law_shared : List Str := ["_law_numbers", "_law_found", "_law_number"]
theorem sc__law_shared : FnScope N__law_shared ["_law_numbers"] (defScope s__law_shared) := ⟨rfl, rfl, rfl, by decide +kernel, rfl, by decide +kernel, by decide +kernel⟩
theorem d__law_shared (B : Bt mg)  (c__law_gcd : Cal P w K mg base 1 "_law_gcd" (sp_gcd K)) (D : Dd K mg "_law_shared" s__law_shared) : Cal P w K mg base 2 "_law_shared" (sp_shared K) := by
  refine D.cal sc__law_shared (fun _ _ _ _ _ _ us hl => match us, hl with | [_], _ => rfl) (fun vs H Q E h => ?_) (fun _ cdv A outer s H vs Q E hr h => ?_)
  · exact l__law_shared h
  have nd := sc__law_shared.nd
  refine ⟨_, (pss_cons (ps_set (i := 1) nd rfl (Or.inl rfl) pe_int) (pss_cons (ps_for PassesOwn.never rfl (pi_or (pi_list_K K (pv 0)) (pi_tup_K K (pv 0))) (pg_name (i := 2) nd rfl (Or.inl rfl) (Or.inl rfl)) (pss_one (ps_set (i := 1) nd rfl (Or.inl rfl) (pc c__law_gcd hr rfl (pa_cons (pv 1) (pa_cons (pv 2) pa_nil)))))) (pss_one (ps_ret (pv 1))))), ?_⟩
  obtain ⟨a, ns, rfl, ha, hQ⟩ := h
  rcases ha with ha | ha
  · refine .inl ⟨_, rfl, a, rfl, ⟨_, SqL.of ha⟩, for_it (wk_list (d := none) ha) (fun i σ H' => H' = H ∧ ∃ z, σ = [some (.ref a), some (.int (Lin.shN (ns.take i) : Nat)), z]) ⟨rfl, none, rfl⟩ (fun i σ H' _ p => by rw [p.1]; exact .refl) (fun i x σ H0 H' hi p y => ?_) (fun σ H' p => ?_)⟩
    · obtain ⟨rfl, z, rfl⟩ := p
      obtain ⟨rfl, hx⟩ := y
      obtain ⟨n, hn, rfl⟩ := ints_get hx
      exact ⟨_, rfl, _, rfl, _, _, rfl, rfl, some (.int n), by rw [shN_one hn]; rfl⟩
    · obtain ⟨rfl, z, rfl⟩ := p
      refine ⟨_, rfl, ?_⟩
      rw [show ns.take (iz ns).length = ns by simp [iz]]
      exact hQ
  · refine .inr ⟨_, rfl, a, rfl, ⟨_, SqT.of ha⟩, for_it (wk_tup (d := none) ha) (fun i σ H' => H' = H ∧ ∃ z, σ = [some (.ref a), some (.int (Lin.shN (ns.take i) : Nat)), z]) ⟨rfl, none, rfl⟩ (fun i σ H' _ p => by rw [p.1]; exact .refl) (fun i x σ H0 H' hi p y => ?_) (fun σ H' p => ?_)⟩
    · obtain ⟨rfl, z, rfl⟩ := p
      obtain ⟨rfl, hx⟩ := y
      obtain ⟨n, hn, rfl⟩ := ints_get hx
      exact ⟨_, rfl, _, rfl, _, _, rfl, rfl, some (.int n), by rw [shN_one hn]; rfl⟩
    · obtain ⟨rfl, z, rfl⟩ := p
      refine ⟨_, rfl, ?_⟩
      rw [show ns.take (iz ns).length = ns by simp [iz]]
      exact hQ
end
end W0
/-! ## W14 -/
set_option Elab.async false
set_option linter.all false
set_option maxRecDepth 100000
set_option maxHeartbeats 4000000
namespace W0
open PySem PySem.Spec PyProof.Rows L2 SlX
section
variable {P : Program} {w : World} {K : PySem.W.Frag} {mg : Str → Option Value} {base : Heap}
/-! ### _law_plus .. _law_power -/
def sp_plus (K : PySem.W.Frag) : Sp := fun vs H Q _ => ∃ (a b : Addr) (f g : List Int), vs = [.ref a, .ref b] ∧ H a = some (.tup (iz f)) ∧ H b = some (.tup (iz g)) ∧ f.length ≤ 1000 ∧ Ret none (NewIntsT H (Lin.plusL f g)) H Q
theorem l__law_plus {vs : List V} {H : Hp} {Q : VK} {E : XK} (h : sp_plus K vs H Q E) : vs.length = 2 := by
  obtain ⟨a, b, f, g, rfl, _⟩ := h
  rfl
theorem new_tup {H H1 : Hp} {D : Addr} {ns : List Int} {Q : VK} (hQ : Ret none (NewIntsT H ns) H Q) (k : Kp none H H1) (l : Addr) (hl : H1 l = none) : Q (.ref l) (upd H1 l (.tup (iz ns))) := hQ _ _ (k.trans (Kp.new hl)) ⟨l, rfl, k.fr l hl, upd_same⟩
abbrev s__law_plus : Stmt := top 52
abbrev N__law_plus : List Str := ["_law_one", "_law_other", "_law_first", "_law_second"]
theorem sc__law_plus : FnScope N__law_plus ["_law_one", "_law_other"] (defScope s__law_plus) := ⟨rfl, rfl, rfl, by decide +kernel, rfl, by decide +kernel, by decide +kernel⟩
theorem d__law_plus (B : Bt mg)   (D : Dd K mg "_law_plus" s__law_plus) : Cal P w K mg base 1 "_law_plus" (sp_plus K) := by
  refine D.cal sc__law_plus (fun _ _ _ _ _ _ us hl => match us, hl with | [_, _], _ => rfl) (fun vs H Q E h => ?_) (fun _ cdv A outer s H vs Q E hr h => ?_)
  · exact l__law_plus h
  have nd := sc__law_plus.nd
  refine ⟨_, (pss_one (ps_ret (pe_callTy (tuple_K K) rfl B.tuple (by decide +kernel) (pa_cons (pe_lc (own := [("_law_first", 2), ("_law_second", 3)]) rfl nd (RZ.pi_zipA rfl B.zip (pa_cons (pv 0) (pa_cons (pv 1) pa_nil))) (blkOk_by (N := N__law_plus) (sc := defScope s__law_plus) (by decide +kernel)) (fun _ _ _ _ _ => (pg_tup_K K 2 rfl (pgs_cons (pg_name (i := 2) nd rfl (Or.inl rfl) (Or.inr rfl)) (pgs_cons (pg_name (i := 3) nd rfl (Or.inl rfl) (Or.inr rfl)) pgs_nil)))) (fun _ _ _ _ _ => pts_nil) (fun _ _ _ _ _ => (pe_op op_add (pv 2) (pv 3)))) pa_nil)))), ?_⟩
  obtain ⟨a, b, f, g, rfl, ha, hb, hl, hQ⟩ := h
  refine ⟨_, rfl, _, rfl, a, b, _, _, rfl, .inr ⟨SqT.of ha, SqT.of hb, fun D hD => lc_map (σ := [some (.ref a), some (.ref b), none, none]) (vs := [2, 3]) (wk_zipT (d := none) ha hb) hD (by simp) (by rw [iz_len, iz_len]; omega) (fun _ _ => True) (fun i v _ => v = .int (Lin.fn f i + Lin.fn g i)) trivial (fun _ _ _ _ => trivial) (fun _ _ _ _ _ e => e) (fun i x H2 H3 hi k2 _ _ y R hR => ?_) (fun H2 ys k2 _ hD2 hlen hz2 => ?_)⟩⟩
  · obtain ⟨T, x1, y1, rfl, hT, rfl, h1, h2⟩ := y
    obtain ⟨n1, hn1, rfl⟩ := ints_get h1
    obtain ⟨n2, hn2, rfl⟩ := ints_get h2
    refine ⟨T, _, rfl, SqT.of upd_same, rfl, _, _, rfl, _, _, rfl, rfl, wipe2, _, rfl, _, rfl, _, _, rfl, rfl, hR _ _ (Kp.new hT) trivial fun o => ?_⟩
    rw [getI hn1, getI hn2]
  · refine ⟨D, _, rfl, .inl ⟨SqL.of hD2, fun l hl => ?_⟩⟩
    rw [ints_of hlen hz2, range_zip (fun x y => x + y) _ (by rw [iz_len, iz_len])]
    exact new_tup (D := D) hQ k2 l hl
def sp_scaled (K : PySem.W.Frag) : Sp := fun vs H Q _ => ∃ (a : Addr) (f : List Int) (c : Int), vs = [.ref a, .int c] ∧ H a = some (.tup (iz f)) ∧ c.natAbs < 2 ^ 64 ∧ Lin.Bd 1000 f ∧ f.length ≤ 1000 ∧ Ret none (NewIntsT H (Lin.scaleL f c)) H Q
theorem l__law_scaled {vs : List V} {H : Hp} {Q : VK} {E : XK} (h : sp_scaled K vs H Q E) : vs.length = 2 := by
  obtain ⟨a, f, g, rfl, _⟩ := h
  rfl
abbrev s__law_scaled : Stmt := top 53
abbrev N__law_scaled : List Str := ["_law_form_here", "_law_factor", "_law_entry"]
theorem sc__law_scaled : FnScope N__law_scaled ["_law_form_here", "_law_factor"] (defScope s__law_scaled) := ⟨rfl, rfl, rfl, by decide +kernel, rfl, by decide +kernel, by decide +kernel⟩
theorem d__law_scaled (B : Bt mg)   (D : Dd K mg "_law_scaled" s__law_scaled) : Cal P w K mg base 1 "_law_scaled" (sp_scaled K) := by
  refine D.cal sc__law_scaled (fun _ _ _ _ _ _ us hl => match us, hl with | [_, _], _ => rfl) (fun vs H Q E h => ?_) (fun _ cdv A outer s H vs Q E hr h => ?_)
  · exact l__law_scaled h
  have nd := sc__law_scaled.nd
  refine ⟨_, (pss_one (ps_ret (pe_callTy (tuple_K K) rfl B.tuple (by decide +kernel) (pa_cons (pe_lc (own := [("_law_entry", 2)]) rfl nd (pi_tup_K K (pv 0)) (blkOk_by (N := N__law_scaled) (sc := defScope s__law_scaled) (by decide +kernel)) (fun _ _ _ _ _ => (pg_name (i := 2) nd rfl (Or.inl rfl) (Or.inr rfl))) (fun _ _ _ _ _ => pts_nil) (fun _ _ _ _ _ => (pe_op op_mulW (pv 1) (pv 2)))) pa_nil)))), ?_⟩
  obtain ⟨a, f, c, rfl, ha, hc, hb, hl, hQ⟩ := h
  refine ⟨_, rfl, a, rfl, ⟨_, SqT.of ha⟩, fun D hD => lc_map (σ := [some (.ref a), some (.int c), none]) (vs := [2]) (wk_tup (d := none) ha) hD (by simp) (by rw [iz_len]; omega) (fun _ _ => True) (fun i v _ => v = .int (c * Lin.fn f i)) trivial (fun _ _ _ _ => trivial) (fun _ _ _ _ _ e => e) (fun i x H2 H3 hi k2 _ _ y R hR => ?_) (fun H2 ys k2 _ hD2 hlen hz2 => ?_)⟩
  · obtain ⟨rfl, hx⟩ := y
    obtain ⟨n, hn, rfl⟩ := ints_get hx
    refine ⟨wipe1, _, rfl, _, rfl, _, _, rfl, rfl, wide_mul (a := 64) (b := 1000) hc (bd_in hb (List.mem_of_getElem? hn)) (by decide) (by decide) (by decide), hR _ _ .refl trivial fun o => ?_⟩
    rw [getI hn]
  · refine ⟨D, _, rfl, .inl ⟨SqL.of hD2, fun l hl => ?_⟩⟩
    rw [ints_of hlen hz2, iz_len, range_fn (fun x => c * x)]
    exact new_tup (D := D) hQ k2 l hl
def sp_product (K : PySem.W.Frag) : Sp := fun vs H Q _ => ∃ (a b : Addr) (f g : List Int), vs = [.ref a, .ref b] ∧ H a = some (.tup (iz f)) ∧ H b = some (.tup (iz g)) ∧ f.length ≤ 1000 ∧ g.length ≤ 1000 ∧ Lin.Bd 1000 f ∧ Lin.Bd 1000 g ∧ Ret none (NewIntsT H (Lin.conv f g)) H Q
theorem l__law_product {vs : List V} {H : Hp} {Q : VK} {E : XK} (h : sp_product K vs H Q E) : vs.length = 2 := by
  obtain ⟨a, b, f, g, rfl, _⟩ := h
  rfl
abbrev s__law_product : Stmt := top 54
abbrev N__law_product : List Str := ["_law_one", "_law_other", "_law_found", "_law_place", "_law_at", "_law_first", "_law_second"]
theorem sc__law_product : FnScope N__law_product ["_law_one", "_law_other"] (defScope s__law_product) := ⟨rfl, rfl, rfl, by decide +kernel, rfl, by decide +kernel, by decide +kernel⟩
theorem d__law_product (B : Bt mg)   (D : Dd K mg "_law_product" s__law_product) : Cal P w K mg base 1 "_law_product" (sp_product K) := by
  refine D.cal sc__law_product (fun _ _ _ _ _ _ us hl => match us, hl with | [_, _], _ => rfl) (fun vs H Q E h => ?_) (fun _ cdv A outer s H vs Q E hr h => ?_)
  · exact l__law_product h
  have nd := sc__law_product.nd
  refine ⟨_, (pss_cons (ps_setLc (i := 2) (own := [("_law_place", 3)]) rfl nd rfl rfl (sw_true rfl rfl rfl (by decide +kernel)) (pi_range1 rfl B.range (pa_cons (pe_op op_sub (pe_op op_add (pe_callB (len_K K) rfl B.len PySem.boot_len (pa_cons (pv 0) pa_nil)) (pe_callB (len_K K) rfl B.len PySem.boot_len (pa_cons (pv 1) pa_nil))) pe_int) pa_nil)) (blkOk_by (N := N__law_product) (sc := defScope s__law_product) (by decide +kernel)) (fun _ _ _ _ _ => (pg_name (i := 3) nd rfl (Or.inl rfl) (Or.inr rfl))) (fun _ _ _ _ _ => pts_nil) (fun _ _ _ _ _ => pe_int)) (pss_cons (ps_for PassesOwn.never rfl (pi_enumT_K K rfl B.enumerate (pa_cons (pv 0) pa_nil)) (pg_tup_K K 2 rfl (pgs_cons (pg_name (i := 4) nd rfl (Or.inl rfl) (Or.inl rfl)) (pgs_cons (pg_name (i := 5) nd rfl (Or.inl rfl) (Or.inl rfl)) pgs_nil))) (pss_one (ps_for PassesOwn.never rfl (pi_enumT_K K rfl B.enumerate (pa_cons (pv 1) pa_nil)) (pg_tup_K K 2 rfl (pgs_cons (pg_name (i := 3) nd rfl (Or.inl rfl) (Or.inl rfl)) (pgs_cons (pg_name (i := 6) nd rfl (Or.inl rfl) (Or.inl rfl)) pgs_nil))) (pss_one (ps_asg (pe_op op_add (pe_ix (ixl_K K) (pv 2) (pe_op op_add (pv 4) (pv 3)) (fun _ _ => rfl)) (pe_op op_mulW (pv 5) (pv 6))) (pg_sub (pv 2) (pe_op op_add (pv 4) (pv 3)) set_list)))))) (pss_one (ps_ret (pe_callTy (tuple_K K) rfl B.tuple (by decide +kernel) (pa_cons (pv 2) pa_nil)))))), ?_⟩
  obtain ⟨a, b, f, g, rfl, ha, hb, hl, hl2, B1, B2, hQ⟩ := h
  refine ⟨_, rfl, a, _, rfl, .inr (SqT.of ha), _, rfl, b, _, rfl, .inr (SqT.of hb), _, _, rfl, rfl, _, _, rfl, rfl, ?_⟩
  rw [iz_len, iz_len]
  refine ⟨_, rfl, by omega, by omega, fun F hF => lc_map (n := ((f.length : Int) + (g.length : Int) - 1).toNat) (σ := [some (.ref a), some (.ref b), none, none, none, none, none]) (vs := [3]) (wk_range (d := none)) hF (by simp) (by omega) (fun _ _ => True) (fun i v _ => v = .int 0) trivial (fun _ _ _ _ => trivial) (fun _ _ _ _ _ e => e) (fun i x H2 H3 hi k2 _ _ y R hR => ⟨wipe1, hR _ _ (by rw [y.1]; exact .refl) trivial fun o => rfl⟩) (fun H1 ys k1 _ eF hlen hz => ?_)⟩
  have eF1 : H1 F = some (.lst (iz (Lin.cpart f g 0 0))) := by
    rw [eF, Lin.cpart_zero, ints_of (f := fun _ => 0) hlen hz, show ((f.length : Int) + (g.length : Int) - 1).toNat = f.length + g.length - 1 by omega]
    congr 2
    refine congrArg iz (List.ext_getElem (by simp) fun i h1 h2 => by simp)
  clear hz hlen eF
  refine ⟨_, rfl, a, _, rfl, SqT.of (k1.t ha), for_it (wk_enumT (d := none) ha) (fun i σ H' => Kp none H H' ∧ H' F = some (.lst (iz (Lin.cpart f g i 0))) ∧ ∃ z3 z4 z5 z6, σ = [some (.ref a), some (.ref b), some (.ref F), z3, z4, z5, z6]) ⟨k1, eF1, _, _, _, _, rfl⟩ (fun i σ H' _ p => p.1) (fun i x σ H2 H3 hi p y => ?_) (fun σ H2 p => ?_)⟩
  · obtain ⟨k2, e2, z3, z4, z5, z6, rfl⟩ := p
    obtain ⟨T, x1, y1, rfl, hT, rfl, h1, h2⟩ := y
    cases h1
    obtain ⟨n1, hn1, rfl⟩ := ints_get h2
    refine ⟨T, _, rfl, SqT.of upd_same, rfl, _, _, rfl, _, _, rfl, rfl, ?_⟩
    have kT : Kp none H2 (upd H2 T (.tup [.int (i : Nat), .int n1])) := Kp.new hT
    have hi1 : i < f.length := by rw [iz_len] at hi; exact hi
    refine ⟨_, rfl, b, _, rfl, SqT.of ((k2.trans kT).t hb), for_it (wk_enumT (d := none) hb) (fun j σ H' => Kp none H H' ∧ H' F = some (.lst (iz (Lin.cpart f g i j))) ∧ ∃ z3 z6, σ = [some (.ref a), some (.ref b), some (.ref F), z3, some (.int (i : Nat)), some (.int n1), z6]) ⟨k2.trans kT, kT.l e2, _, _, rfl⟩ (fun j σ H' _ p => p.1) (fun j x σ H4 H5 hj p y => ?_) (fun σ H4 p => ?_)⟩
    · obtain ⟨k4, e4, z3, z6, rfl⟩ := p
      obtain ⟨T2, x1, y1, rfl, hT2, rfl, h1, h2⟩ := y
      cases h1
      obtain ⟨n2, hn2, rfl⟩ := ints_get h2
      refine ⟨T2, _, rfl, SqT.of upd_same, rfl, _, _, rfl, _, _, rfl, rfl, ?_⟩
      have kT2 : Kp none H4 (upd H4 T2 (.tup [.int (j : Nat), .int n2])) := Kp.new hT2
      have e5 := kT2.l e4
      have hj1 : j < g.length := by rw [iz_len] at hj; exact hj
      have hij : i + j < (Lin.cpart f g i j).length := by rw [Lin.cpart_len]; omega
      have at1 : atI (iz (Lin.cpart f g i j)) ((i : Int) + (j : Int)) = some (.int (Lin.fn (Lin.cpart f g i j) (i + j))) := by rw [show (i : Int) + (j : Int) = ((i + j : Nat) : Int) by omega]; exact iz_at hij
      have ix1 : ixN (iz (Lin.cpart f g i j)).length ((i : Int) + (j : Int)) = some (i + j) := by rw [show (i : Int) + (j : Int) = ((i + j : Nat) : Int) by omega]; exact ixN_of (by rw [iz_len]; exact hij)
      refine ⟨_, rfl, _, rfl, _, rfl, _, _, rfl, rfl, F, _, _, _, rfl, rfl, SqL.of e5, at1, _, rfl, _, rfl, _, _, rfl, rfl, wide_mul (a := 1000) (b := 1000) (bd_in B1 (List.mem_of_getElem? hn1)) (bd_in B2 (List.mem_of_getElem? hn2)) (by decide) (by decide) (by decide), _, _, rfl, rfl, _, rfl, _, rfl, _, rfl, _, _, rfl, rfl, F, _, _, i + j, rfl, rfl, e5, ix1, (k4.trans kT2).mut hF, ?_, _, _, rfl⟩
      rw [upd_same]
      have := Lin.cpart_step hi1 hj1
      rw [getI hn1, getI hn2] at this
      rw [← this]
      exact congrArg (fun z => some (HO.lst z)) iz_set
    · obtain ⟨k4, e4, z3, z6, rfl⟩ := p
      rw [iz_len, Lin.cpart_next] at e4
      exact ⟨k4, e4, _, _, _, _, rfl⟩
  · obtain ⟨k2, e2, z3, z4, z5, z6, rfl⟩ := p
    rw [iz_len, Lin.cpart_end] at e2
    exact ⟨_, rfl, F, _, rfl, .inl ⟨SqL.of e2, fun l hl => new_tup (D := F) hQ k2 l hl⟩⟩
def sp_all_product (K : PySem.W.Frag) : Sp := fun vs H Q _ => ∃ (a : Addr) (ps : List Addr) (fs : List (List Int)), vs = [.ref a] ∧ H a = some (.lst (ps.map V.ref)) ∧ TabT H ps fs ∧ (∀ f ∈ fs, f.length ≤ 1000 ∧ Lin.Bd 1000 f) ∧ (∀ i, i ≤ fs.length → (Lin.allConv (fs.take i)).length ≤ 1000 ∧ Lin.Bd 1000 (Lin.allConv (fs.take i))) ∧ Ret none (NewIntsT H (Lin.allConv fs)) H Q
theorem l__law_all_product {vs : List V} {H : Hp} {Q : VK} {E : XK} (h : sp_all_product K vs H Q E) : vs.length = 1 := by
  obtain ⟨a, f, g, rfl, _⟩ := h
  rfl
theorem allConv_one {fs : List (List Int)} {i : Nat} {f : List Int} (h : fs[i]? = some f) : Lin.allConv (fs.take (i + 1)) = Lin.conv (Lin.allConv (fs.take i)) f := by
  rw [take_one h]
  unfold Lin.allConv
  rw [List.foldl_append]
  rfl
abbrev s__law_all_product : Stmt := top 55
abbrev N__law_all_product : List Str := ["_law_forms", "_law_found", "_law_form_here"]
theorem sc__law_all_product : FnScope N__law_all_product ["_law_forms"] (defScope s__law_all_product) := ⟨rfl, rfl, rfl, by decide +kernel, rfl, by decide +kernel, by decide +kernel⟩
theorem d__law_all_product (B : Bt mg)  (c__law_product : Cal P w K mg base 1 "_law_product" (sp_product K)) (D : Dd K mg "_law_all_product" s__law_all_product) : Cal P w K mg base 2 "_law_all_product" (sp_all_product K) := by
  refine D.cal sc__law_all_product (fun _ _ _ _ _ _ us hl => match us, hl with | [_], _ => rfl) (fun vs H Q E h => ?_) (fun _ cdv A outer s H vs Q E hr h => ?_)
  · exact l__law_all_product h
  have nd := sc__law_all_product.nd
  refine ⟨_, (pss_cons (ps_set (i := 1) nd rfl (Or.inl rfl) (pe_tup (pa_cons pe_int pa_nil))) (pss_cons (ps_for PassesOwn.never rfl (pi_list_K K (pv 0)) (pg_name (i := 2) nd rfl (Or.inl rfl) (Or.inl rfl)) (pss_one (ps_set (i := 1) nd rfl (Or.inl rfl) (pc c__law_product hr rfl (pa_cons (pv 1) (pa_cons (pv 2) pa_nil)))))) (pss_one (ps_ret (pv 1))))), ?_⟩
  obtain ⟨a, ps, fs, rfl, ha, ht, hb, hc, hQ⟩ := h
  refine ⟨sz_le (by decide), fun F hF => ?_⟩
  have k0 : Kp none H (upd H F (.tup [.int 1])) := Kp.new hF
  refine ⟨_, rfl, a, rfl, ⟨_, SqL.of (k0.l ha)⟩, for_it (wk_list (d := none) ha) (fun i σ H' => Kp none H H' ∧ ∃ F z2, H F = none ∧ H' F = some (.tup (iz (Lin.allConv (fs.take i)))) ∧ σ = [some (.ref a), some (.ref F), z2]) ⟨k0, F, _, hF, upd_same, rfl⟩ (fun i σ H' _ p => p.1) (fun i x σ Hq H2 hi p y => ?_) (fun σ H2 p => ?_)⟩
  · obtain ⟨k2, F, z2, hF, e2, rfl⟩ := p
    obtain ⟨rfl, hx⟩ := y
    obtain ⟨p, hp0, rfl⟩ := refs_get hx
    obtain ⟨f, hf, hpf⟩ := ht.get hp0
    obtain ⟨f1, f2⟩ := hb f (List.mem_of_getElem? hf)
    obtain ⟨c1, c2⟩ := hc i (by have := (List.getElem?_eq_some_iff.mp hf).1; omega)
    refine ⟨_, rfl, _, rfl, F, p, _, f, rfl, e2, k2.t hpf, c1, f1, c2, f2, fun v H3 k3 e3 => ?_⟩
    obtain ⟨T, rfl, hT, eT⟩ := e3
    exact ⟨k2.trans k3, T, _, k2.fr T hT, by rw [allConv_one hf]; exact eT, rfl⟩
  · obtain ⟨k2, F, z2, hF, e2, rfl⟩ := p
    refine ⟨_, rfl, hQ _ _ k2 ⟨F, rfl, hF, ?_⟩⟩
    rw [List.length_map, ht.1, List.take_length] at e2
    exact e2
def sp_power (K : PySem.W.Frag) : Sp := fun vs H Q _ => ∃ (a : Addr) (f : List Int) (n : Nat), vs = [.ref a, .int n] ∧ H a = some (.tup (iz f)) ∧ f.length = 2 ∧ Lin.Bd 1000 f ∧ n ≤ 100 ∧ (∀ i, i ≤ n → Lin.Bd 1000 (Lin.powL f i)) ∧ Ret none (NewIntsT H (Lin.powL f n)) H Q
theorem l__law_power {vs : List V} {H : Hp} {Q : VK} {E : XK} (h : sp_power K vs H Q E) : vs.length = 2 := by
  obtain ⟨a, f, g, rfl, _⟩ := h
  rfl
abbrev s__law_power : Stmt := top 56
abbrev N__law_power : List Str := ["_law_pair", "_law_times", "_law_found", "_law_turn"]
theorem sc__law_power : FnScope N__law_power ["_law_pair", "_law_times"] (defScope s__law_power) := ⟨rfl, rfl, rfl, by decide +kernel, rfl, by decide +kernel, by decide +kernel⟩
theorem d__law_power (B : Bt mg)  (c__law_product : Cal P w K mg base 1 "_law_product" (sp_product K)) (D : Dd K mg "_law_power" s__law_power) : Cal P w K mg base 2 "_law_power" (sp_power K) := by
  refine D.cal sc__law_power (fun _ _ _ _ _ _ us hl => match us, hl with | [_, _], _ => rfl) (fun vs H Q E h => ?_) (fun _ cdv A outer s H vs Q E hr h => ?_)
  · exact l__law_power h
  have nd := sc__law_power.nd
  refine ⟨_, (pss_cons (ps_set (i := 2) nd rfl (Or.inl rfl) (pe_tup (pa_cons pe_int pa_nil))) (pss_cons (ps_for PassesOwn.never rfl (pi_range1 rfl B.range (pa_cons (pv 1) pa_nil)) (pg_name (i := 3) nd rfl (Or.inl rfl) (Or.inl rfl)) (pss_one (ps_set (i := 2) nd rfl (Or.inl rfl) (pc c__law_product hr rfl (pa_cons (pv 2) (pa_cons (pv 0) pa_nil)))))) (pss_one (ps_ret (pv 2))))), ?_⟩
  obtain ⟨a, f, n, rfl, ha, hl, hb, hn, hc, hQ⟩ := h
  refine ⟨sz_le (by decide), fun F hF => ?_⟩
  have k0 : Kp none H (upd H F (.tup [.int 1])) := Kp.new hF
  refine ⟨_, rfl, n, rfl, by omega, by omega, for_it (n := (n : Int).toNat) (wk_range (d := none) (H1 := H)) (fun i σ H' => Kp none H H' ∧ ∃ F z2, H F = none ∧ H' F = some (.tup (iz (Lin.powL f i))) ∧ σ = [some (.ref a), some (.int n), some (.ref F), z2]) ⟨k0, F, _, hF, upd_same, rfl⟩ (fun i σ H' _ p => p.1) (fun i x σ Hq H2 hi p y => ?_) (fun σ H2 p => ?_)⟩
  · obtain ⟨k2, F, z2, hF, e2, rfl⟩ := p
    obtain ⟨rfl, rfl⟩ := y
    refine ⟨_, rfl, _, rfl, F, a, _, f, rfl, e2, k2.t ha, by rw [Lin.powL_len hl]; omega, by omega, hc i (by omega), hb, fun v H3 k3 e3 => ?_⟩
    obtain ⟨T, rfl, hT, eT⟩ := e3
    exact ⟨k2.trans k3, T, _, k2.fr T hT, eT, rfl⟩
  · obtain ⟨k2, F, z2, hF, e2, rfl⟩ := p
    exact ⟨_, rfl, hQ _ _ k2 ⟨F, rfl, hF, by rw [Int.toNat_natCast] at e2; exact e2⟩⟩
end
end W0
/-! ## W15 -/
set_option Elab.async false
set_option linter.all false
set_option maxRecDepth 100000
set_option maxHeartbeats 4000000
namespace W0
open PySem PySem.Spec PyProof.Rows L2 SlX
section
variable {P : Program} {w : World} {K : PySem.W.Frag} {mg : Str → Option Value} {base : Heap}
/-! ### _law_plain, _law_line -/
theorem pick_fst {r : List Int} (h : ∃ i, Lin.fn r i ≠ 0) : (pick r.length (fun i => decide (Lin.fn r i ≠ 0)) (fun i => Lin.fn r i))[0]? = some (Lin.fst0 r) := by
  have e : r = (List.range r.length).map (Lin.fn r) := by
    refine List.ext_getElem (by simp) fun i h1 h2 => ?_
    simp only [List.getElem_map, List.getElem_range]
    rw [getI (List.getElem?_eq_getElem h1)]
  unfold pick Lin.fst0
  rw [List.getElem?_map, ← List.head?_eq_getElem?]
  conv => rhs; rw [e]
  rw [List.find?_map, List.head?_filter]
  show Option.map (Lin.fn r) ((List.range r.length).find? _) = some (Option.getD (Option.map (Lin.fn r) ((List.range r.length).find? _)) 0)
  have : ((fun x => decide (x ≠ 0)) ∘ Lin.fn r) = (fun i => decide (Lin.fn r i ≠ 0)) := rfl
  rw [this]
  cases q : (List.range r.length).find? (fun i => decide (Lin.fn r i ≠ 0)) with
  | none =>
    obtain ⟨i, hi⟩ := h
    rw [List.find?_eq_none] at q
    have hl : i < r.length := Classical.byContradiction fun z => hi (Lin.fn_out (by omega))
    exact absurd (decide_eq_true hi) (q i (List.mem_range.mpr hl))
  | some j => rfl
def sp_plain (K : PySem.W.Frag) : Sp := fun vs H Q _ => ∃ (a : Addr) (ns : List Int), vs = [.ref a] ∧ H a = some (.tup (iz ns)) ∧ ns.length ≤ 1000 ∧ (∀ n ∈ ns, n.natAbs < 2 ^ 13400) ∧ Ret none (fun v H' => ∃ T, v = .ref T ∧ (T = a ∨ H T = none) ∧ H' T = some (.tup (iz (Lin.prim ns)))) H Q
theorem l__law_plain {vs : List V} {H : Hp} {Q : VK} {E : XK} (h : sp_plain K vs H Q E) : vs.length = 1 := by
  obtain ⟨a, f, rfl, _⟩ := h
  rfl
abbrev s__law_plain : Stmt := top 57
abbrev N__law_plain : List Str := ["_law_form_here", "_law_part", "_law_first", "_law_entry"]
theorem sc__law_plain : FnScope N__law_plain ["_law_form_here"] (defScope s__law_plain) := ⟨rfl, rfl, rfl, by decide +kernel, rfl, by decide +kernel, by decide +kernel⟩
theorem d__law_plain (B : Bt mg)  (c__law_shared : Cal P w K mg base 2 "_law_shared" (sp_shared K)) (D : Dd K mg "_law_plain" s__law_plain) : Cal P w K mg base 3 "_law_plain" (sp_plain K) := by
  refine D.cal sc__law_plain (fun _ _ _ _ _ _ us hl => match us, hl with | [_], _ => rfl) (fun vs H Q E h => ?_) (fun _ cdv A outer s H vs Q E hr h => ?_)
  · exact l__law_plain h
  have nd := sc__law_plain.nd
  refine ⟨_, (pss_cons (ps_set (i := 1) nd rfl (Or.inr rfl) (pc c__law_shared hr rfl (pa_cons (pv 0) pa_nil))) (pss_cons (ps_if (pt_cmpR op_eq (pv 1) pe_int (nomark _)) (pss_one (ps_ret (pv 0))) pss_nil) (pss_cons (ps_set (i := 2) nd rfl (Or.inr rfl) (pe_ix (ixl_K K) (pe_lc (own := [("_law_entry", 3)]) rfl nd (pi_tup_K K (pv 0)) (blkOk_by (N := N__law_plain) (sc := defScope s__law_plain) (by decide +kernel)) (fun _ _ _ _ _ => (pg_name (i := 3) nd rfl (Or.inl rfl) (Or.inr rfl))) (fun _ _ _ _ _ => (pts_one (pt_cmpR op_ne (pv 3) pe_int (nomark _)))) (fun _ _ _ _ _ => (pv 3))) pe_int (fun _ _ => rfl))) (pss_one (ps_ret (pe_callTy (tuple_K K) rfl B.tuple (by decide +kernel) (pa_cons (pe_lc (own := [("_law_entry", 3)]) rfl nd (pi_tup_K K (pv 0)) (blkOk_by (N := N__law_plain) (sc := defScope s__law_plain) (by decide +kernel)) (fun _ _ _ _ _ => (pg_name (i := 3) nd rfl (Or.inl rfl) (Or.inr rfl))) (fun _ _ _ _ _ => pts_nil) (fun _ _ _ _ _ => (pe_op op_fdivC (pv 3) (pe_ifExp (pt_cmpR op_gt (pv 2) pe_int (nomark _)) (pv 1) (pe_op op_sub pe_int (pv 1)))))) pa_nil))))))), ?_⟩
  obtain ⟨a, ns, rfl, ha, hl, hb, hQ⟩ := h
  refine ⟨_, rfl, a, ns, rfl, .inr ha, ?_⟩
  by_cases hz : Lin.shN ns = 0
  · refine ⟨_, rfl, rfl, _, rfl, ifT (eqT (by omega)) ⟨_, rfl, hQ _ _ .refl ⟨a, rfl, .inl rfl, ?_⟩⟩⟩
    unfold Lin.prim
    rw [if_pos hz]
    exact ha
  · have hnz : ∃ i, Lin.fn ns i ≠ 0 := Classical.byContradiction fun z => hz (by
      have : ∀ i, Lin.fn ns i = 0 := fun i => Classical.byContradiction fun q => z ⟨i, q⟩
      obtain ⟨c, hc, hcc⟩ := Lin.prim_fn hz
      have h1 := (Lin.prim_nrm hz).one
      have h2 : ∀ n ∈ Lin.prim ns, n = 0 := fun n hn => by
        obtain ⟨i, hi, rfl⟩ := List.mem_iff_getElem.mp hn
        have q := hcc i
        rw [this i, getI (List.getElem?_eq_getElem hi)] at q
        rcases Int.mul_eq_zero.mp q.symm with z | z
        · exact absurd z hc
        · exact z
      have h3 : Lin.shN (Lin.prim ns) = 0 := by
        generalize Lin.prim ns = ps at h2
        clear h1 hcc
        have : ∀ (xs : List Int) (a : Nat), (∀ n ∈ xs, n = 0) → xs.foldl (fun f n => Nat.gcd f n.natAbs) a = a := by
          intro xs
          induction xs with
          | nil => intro a _; rfl
          | cons x xs ih =>
            intro a h
            rw [List.foldl_cons, h x (by simp)]
            show xs.foldl _ (Nat.gcd a 0) = a
            rw [Nat.gcd_zero_right]
            exact ih a fun n hn => h n (List.mem_cons_of_mem _ hn)
        exact this ps 0 h2
      omega)
    refine ⟨_, rfl, rfl, _, rfl, ifF (eqF (by omega)) ?_⟩
    refine ⟨_, rfl, a, rfl, ⟨_, SqT.of ha⟩, fun D hD => lc_filter (σ := [some (.ref a), some (.int (Lin.shN ns : Nat)), none, none]) (vs := [3]) (wk_tup (d := none) ha) hD (by simp) (by rw [iz_len]; omega) (fun i => decide (Lin.fn ns i ≠ 0)) (fun i => Lin.fn ns i) (fun i x H2 H3 hi k2 y KK NN hK hN => ?_) (fun H2 k2 hD2 => ?_)⟩
    · obtain ⟨rfl, hx⟩ := y
      obtain ⟨n, hn, rfl⟩ := ints_get hx
      refine ⟨wipe1, _, rfl, rfl, _, rfl, ?_⟩
      by_cases z : n = 0
      · rw [eqT z]
        exact hN _ .refl (decide_eq_false (by rw [getI hn]; exact fun q => q z))
      · rw [eqF z]
        have := hK _ .refl (decide_eq_true (by rw [getI hn]; exact z))
        rw [getI hn] at this
        exact ⟨_, rfl, this⟩
    refine ⟨D, _, _, _, rfl, rfl, SqL.of hD2, atI_nat (j := 0) (v := V.int (Lin.fst0 ns)) (by rw [List.getElem?_map, iz_len, pick_fst hnz]; rfl), ?_⟩
    have ha2 := k2.t ha
    have c0 : (if Lin.fst0 ns > 0 then (Lin.shN ns : Int) else -(Lin.shN ns : Int)) ≠ 0 := by split <;> omega
    refine ⟨_, rfl, a, rfl, ⟨_, SqT.of ha2⟩, fun D2 hD3 => lc_map (σ := [some (.ref a), some (.int (Lin.shN ns : Nat)), some (.int (Lin.fst0 ns)), none]) (vs := [3]) (wk_tup (d := none) ha2) hD3 (by simp) (by rw [iz_len]; omega) (fun _ _ => True) (fun i v _ => v = .int ((Lin.fn ns i).fdiv (if Lin.fst0 ns > 0 then (Lin.shN ns : Int) else -(Lin.shN ns : Int)))) trivial (fun _ _ _ _ => trivial) (fun _ _ _ _ _ e => e) (fun i x H4 H5 hi k4 _ _ y R hR => ?_) (fun H4 ys k4 _ hD4 hlen4 hz4 => ?_)⟩
    · obtain ⟨rfl, hx⟩ := y
      obtain ⟨n, hn, rfl⟩ := ints_get hx
      by_cases hf : Lin.fst0 ns > 0
      · rw [if_pos hf] at c0 hR
        refine ⟨wipe1, _, rfl, _, rfl, _, _, rfl, rfl, _, rfl, ifT (decide_eq_true hf) ⟨_, rfl, _, _, rfl, rfl, divc_of c0 (hb n (List.mem_of_getElem? hn)), hR _ _ .refl trivial fun o => ?_⟩⟩
        rw [getI hn]
      · rw [if_neg hf] at c0 hR
        refine ⟨wipe1, _, rfl, _, rfl, _, _, rfl, rfl, _, rfl, ifF (decide_eq_false hf) ⟨_, rfl, _, _, rfl, rfl, _, _, rfl, rfl, divc_of (by omega) (hb n (List.mem_of_getElem? hn)), hR _ _ .refl trivial fun o => ?_⟩⟩
        rw [getI hn, Int.zero_sub]
    · refine ⟨D2, _, rfl, .inl ⟨SqL.of hD4, fun l hl => ?_⟩⟩
      have k := k2.trans k4
      refine hQ _ _ (k.trans (Kp.new hl)) ⟨l, rfl, .inr (k.fr l hl), ?_⟩
      rw [upd_same, ints_of hlen4 hz4, iz_len, range_fn (fun e => e.fdiv (if Lin.fst0 ns > 0 then (Lin.shN ns : Int) else -(Lin.shN ns : Int)))]
      unfold Lin.prim
      rw [if_neg hz]
def sp_line (K : PySem.W.Frag) : Sp := fun vs H Q _ => ∃ (a : Addr) (p : List Int), vs = [.ref a] ∧ H a = some (.tup (iz p)) ∧ p.length = 2 ∧ Ret none (NewIntsT H (Lin.lineOf p)) H Q
theorem l__law_line {vs : List V} {H : Hp} {Q : VK} {E : XK} (h : sp_line K vs H Q E) : vs.length = 1 := by
  obtain ⟨a, f, rfl, _⟩ := h
  rfl
abbrev s__law_line : Stmt := top 58
abbrev N__law_line : List Str := ["_law_point_here"]
theorem sc__law_line : FnScope N__law_line ["_law_point_here"] (defScope s__law_line) := ⟨rfl, rfl, rfl, by decide +kernel, rfl, by decide +kernel, by decide +kernel⟩
theorem d__law_line (B : Bt mg)   (D : Dd K mg "_law_line" s__law_line) : Cal P w K mg base 1 "_law_line" (sp_line K) := by
  refine D.cal sc__law_line (fun _ _ _ _ _ _ us hl => match us, hl with | [_], _ => rfl) (fun vs H Q E h => ?_) (fun _ cdv A outer s H vs Q E hr h => ?_)
  · exact l__law_line h
  have nd := sc__law_line.nd
  refine ⟨_, (pss_one (ps_ret (pe_tup (pa_cons (pe_ix (ixt_K K) (pv 0) pe_int (fun _ _ => rfl)) (pa_cons (pe_op op_sub pe_int (pe_ix (ixt_K K) (pv 0) pe_int (fun _ _ => rfl))) pa_nil))))), ?_⟩
  obtain ⟨a, p, rfl, ha, hl, hQ⟩ := h
  refine ⟨_, rfl, a, _, _, _, rfl, rfl, SqT.of ha, iz_at (i := 1) (by omega), _, rfl, a, _, _, _, rfl, rfl, SqT.of ha, iz_at (i := 0) (by omega), _, _, rfl, rfl, sz_le (by show 2 ≤ 1000000; decide), fun l hl => ?_⟩
  refine hQ _ _ (Kp.new hl) ⟨l, rfl, hl, ?_⟩
  rw [upd_same]
  show some (HO.tup [V.int (Lin.fn p 1), V.int (0 - Lin.fn p 0)]) = _
  rw [Int.zero_sub]
  rfl
/-! ### points -/
theorem small_pnt {x y : Int} (hx : x.natAbs ≤ 3) (hy : y.natAbs ≤ 3) (h : ¬ (x = 0 ∧ y = 0)) : Lin.Pnt (Lin.prim [x, y]) := by
  have hs : Lin.shN [x, y] ≠ 0 := by
    show Nat.gcd (Nat.gcd 0 x.natAbs) y.natAbs ≠ 0
    rw [Nat.gcd_zero_left]
    intro z
    exact h ⟨Int.natAbs_eq_zero.mp (Nat.eq_zero_of_gcd_eq_zero_left z), Int.natAbs_eq_zero.mp (Nat.eq_zero_of_gcd_eq_zero_right z)⟩
  have b2 : Lin.Bd 2 [x, y] := fun i => by
    match i with
    | 0 => show x.natAbs < 2 ^ 2; omega
    | 1 => show y.natAbs < 2 ^ 2; omega
    | i + 2 => show (0 : Int).natAbs < 2 ^ 2; decide
  refine ⟨by rw [Lin.prim_len]; rfl, Lin.prim_nrm hs, fun i => ?_⟩
  have := Lin.prim_bd b2 i
  omega
theorem one_pnt : Lin.Pnt [1, 0] := by
  have e : Lin.prim [1, 0] = [1, 0] := by decide
  have := small_pnt (x := 1) (y := 0) (by decide) (by decide) (by decide)
  rw [e] at this
  exact this
def sp_point (K : PySem.W.Frag) : Sp := fun vs H Q _ => ∃ (d : Addr) (m : Nat), vs = [.ref d, .int 3] ∧ Dice H d (m + 2) ∧ Ret (some d) (fun v H' => Dice H' d m ∧ ∃ T p, v = .ref T ∧ H T = none ∧ H' T = some (.tup (iz p)) ∧ Lin.Pnt p) H Q
theorem l__law_point {vs : List V} {H : Hp} {Q : VK} {E : XK} (h : sp_point K vs H Q E) : vs.length = 2 := by
  obtain ⟨a, f, rfl, _⟩ := h
  rfl
abbrev s__law_point : Stmt := top 59
abbrev N__law_point : List Str := ["_law_dice_here", "_law_most", "_law_one", "_law_other"]
theorem sc__law_point : FnScope N__law_point ["_law_dice_here", "_law_most"] (defScope s__law_point) := ⟨rfl, rfl, rfl, by decide +kernel, rfl, by decide +kernel, by decide +kernel⟩
theorem d__law_point (B : Bt mg)  (c__law_plain : Cal P w K mg base 3 "_law_plain" (sp_plain K)) (c__law_near : Cal P w K mg base 2 "_law_near" (sp_near K)) (D : Dd K mg "_law_point" s__law_point) : Cal P w K mg base 4 "_law_point" (sp_point K) := by
  refine D.cal sc__law_point (fun _ _ _ _ _ _ us hl => match us, hl with | [_, _], _ => rfl) (fun vs H Q E h => ?_) (fun _ cdv A outer s H vs Q E hr h => ?_)
  · exact l__law_point h
  have nd := sc__law_point.nd
  refine ⟨_, (pss_cons (ps_par (i := 2) (j := 3) rfl nd rfl rfl (by decide) rfl rfl (pa_cons (pc c__law_near hr rfl (pa_cons (pv 0) (pa_cons (pv 1) pa_nil))) (pa_cons (pc c__law_near hr rfl (pa_cons (pv 0) (pa_cons (pv 1) pa_nil))) pa_nil)) rfl) (pss_one (ps_ret (pe_ifExp (pt_cmpR (op_neD hr.units) (pe_tup (pa_cons (pv 2) (pa_cons (pv 3) pa_nil))) (pe_tup (pa_cons pe_int (pa_cons pe_int pa_nil))) (nomark _)) (pc c__law_plain hr rfl (pa_cons (pe_tup (pa_cons (pv 2) (pa_cons (pv 3) pa_nil))) pa_nil)) (pe_tup (pa_cons pe_int (pa_cons pe_int pa_nil))))))), ?_⟩
  obtain ⟨d, m, rfl, hd, hQ⟩ := h
  refine ⟨_, rfl, _, rfl, d, m + 1, 3, rfl, hd, by decide, fun v H1 k1 e1 => ?_⟩
  obtain ⟨d1, x, rfl, hx⟩ := e1
  refine ⟨_, rfl, _, rfl, d, m, 3, rfl, d1, by decide, fun v H2 k2 e2 => ?_⟩
  obtain ⟨d2, y, rfl, hy⟩ := e2
  refine ⟨_, _, rfl, ?_⟩
  have k := k1.trans k2
  refine ⟨_, rfl, _, rfl, sz_le (by show 2 ≤ 1000000; decide), fun a ha => ⟨sz_le (by show 2 ≤ 1000000; decide), fun b hb => ?_⟩⟩
  have ka : Kp none H2 (upd H2 a (.tup [.int x, .int y])) := Kp.new ha
  have kb : Kp none (upd H2 a (.tup [.int x, .int y])) (upd (upd H2 a (.tup [.int x, .int y])) b (.tup [.int 0, .int 0])) := Kp.new hb
  refine ⟨_, _, .tup (SqT.of (kb.t upd_same)) (dp_iz _ [x, y]), .tup (SqT.of upd_same) (dp_iz _ [0, 0]), shp_tI _, shp_tI _, _, rfl, ?_⟩
  have d3 := (d2.keep ka).keep kb
  have k3 := (k.trans ka.any).trans kb.any
  generalize upd (upd H2 a (.tup [.int x, .int y])) b (.tup [.int 0, .int 0]) = H3 at d3 k3
  rw [show PyData.eqv (.tuple (dI [x, y])) (.tuple (dI [0, 0])) = decide ([x, y] = [0, 0]) by rw [← eqv_I]; simp only [PyData.eqv]]
  by_cases hz : x = 0 ∧ y = 0
  · refine ifF (by rw [decide_eq_true (by rw [hz.1, hz.2])]; rfl) ⟨sz_le (by show 2 ≤ 1000000; decide), fun l hl => ?_⟩
    exact hQ _ _ (k3.trans (Kp.new hl)) ⟨d3.keep (Kp.new hl), l, [1, 0], rfl, k3.fr l hl, upd_same, one_pnt⟩
  · refine ifT (by rw [decide_eq_false (fun z => hz (by injection z with z1 z2; injection z2 with z2 _; exact ⟨z1, z2⟩))]; rfl) ?_
    refine ⟨_, rfl, _, rfl, sz_le (by show 2 ≤ 1000000; decide), fun c hc => ?_⟩
    have kc : Kp none H3 (upd H3 c (.tup [.int x, .int y])) := Kp.new hc
    refine ⟨c, [x, y], rfl, upd_same, by show 2 ≤ 1000; decide, fun n hn => ?_, fun v H4 k4 e4 => ?_⟩
    · have hn3 : n.natAbs ≤ 3 := by
        simp only [List.mem_cons, List.not_mem_nil, or_false] at hn
        rcases hn with rfl | rfl
        · exact hx
        · exact hy
      exact lt_bits (a := 2) (b := 13400) (by omega) (by decide)
    · obtain ⟨T, rfl, hT, eT⟩ := e4
      have k5 := (k3.trans kc.any).trans k4.any
      refine hQ _ _ k5 ⟨(d3.keep kc).keep k4, T, _, rfl, ?_, eT, small_pnt hx hy hz⟩
      rcases hT with rfl | hT
      · exact k3.fr T hc
      · exact (k3.trans kc.any).fr T hT
end
end W0
/-! ## W16 -/
set_option Elab.async false
set_option linter.all false
set_option maxRecDepth 100000
set_option maxHeartbeats 4000000
namespace W0
open PySem PySem.Spec PyProof.Rows L2 SlX
section
variable {P : Program} {w : World} {K : PySem.W.Frag} {mg : Str → Option Value} {base : Heap}
theorem Dice.offT {H : Hp} {d : Addr} {m : Nat} (h : Dice H d m) {t : Addr} {xs : List V} (ht : H t = some (.tup xs)) : d ≠ t := by
  obtain ⟨a, b, c, e, _⟩ := h
  exact ne_of e ht fun z => by cases z
theorem Dice.offTab {H : Hp} {d : Addr} {m : Nat} (h : Dice H d m) {ps : List Addr} {rs : List (List Int)} (t : TabT H ps rs) : ∀ p ∈ ps, some d ≠ some p := fun p hp z => by
  obtain ⟨i, hi, rfl⟩ := List.mem_iff_getElem.mp hp
  obtain ⟨r, _, hr⟩ := t.get (List.getElem?_eq_getElem hi)
  exact h.offT hr (Option.some.inj z)
theorem TabT.snoc {H : Hp} {ps : List Addr} {rs : List (List Int)} (t : TabT H ps rs) {p : Addr} {r : List Int} (h : H p = some (.tup (iz r))) : TabT H (ps ++ [p]) (rs ++ [r]) := by
  refine ⟨by simp [t.1], fun i q s hq hs => ?_⟩
  have hl := t.1
  rcases Nat.lt_or_ge i ps.length with z | z
  · rw [List.getElem?_append_left z] at hq
    rw [List.getElem?_append_left (by omega)] at hs
    exact t.2 i q s hq hs
  · rw [List.getElem?_append_right z] at hq
    rw [List.getElem?_append_right (by omega)] at hs
    have e0 : i - ps.length = 0 := by
      have := (List.getElem?_eq_some_iff.mp hq).1
      simp at this
      omega
    rw [e0] at hq
    rw [show i - rs.length = 0 by omega] at hs
    cases hq
    cases hs
    exact h
theorem any_T (p : List Int) : ∀ rs : List (List Int), (dT rs).any (fun z => PyData.eqv z (.tuple (dI p))) = decide (p ∈ rs)
  | [] => by simp [dT]
  | r :: rs => by
    have := any_T p rs
    rw [show dT (r :: rs) = .tuple (dI r) :: dT rs from rfl, List.any_cons, this, show PyData.eqv (.tuple (dI r)) (.tuple (dI p)) = decide (r = p) by rw [← eqv_I]; simp only [PyData.eqv], Bool.eq_iff_iff]
    simp only [Bool.or_eq_true, decide_eq_true_eq, List.mem_cons]
    exact ⟨fun h => h.elim (fun z => .inl z.symm) .inr, fun h => h.elim (fun z => .inl z.symm) .inr⟩
/-! ### _law_points -/
def sp_points (K : PySem.W.Frag) : Sp := fun vs H Q _ => ∃ (d : Addr) (m n : Nat), vs = [.ref d, .int n, .int 3] ∧ Dice H d (m + 2 * n) ∧ n ≤ 100 ∧ Ret (some d) (fun v H' => Dice H' d m ∧ ∃ F ps pts, v = .ref F ∧ H F = none ∧ H' F = some (.lst (ps.map V.ref)) ∧ TabT H' ps pts ∧ (∀ p ∈ pts, Lin.Pnt p) ∧ pts.Nodup ∧ pts.length ≤ n ∧ (1 ≤ n → 1 ≤ pts.length)) H Q
theorem l__law_points {vs : List V} {H : Hp} {Q : VK} {E : XK} (h : sp_points K vs H Q E) : vs.length = 3 := by
  obtain ⟨a, f, n, rfl, _⟩ := h
  rfl
abbrev s__law_points : Stmt := top 60
abbrev N__law_points : List Str := ["_law_dice_here", "_law_many", "_law_most", "_law_found", "_law_turn", "_law_point_here"]
theorem sc__law_points : FnScope N__law_points ["_law_dice_here", "_law_many", "_law_most"] (defScope s__law_points) := ⟨rfl, rfl, rfl, by decide +kernel, rfl, by decide +kernel, by decide +kernel⟩
theorem d__law_points (B : Bt mg)  (c__law_point : Cal P w K mg base 4 "_law_point" (sp_point K)) (D : Dd K mg "_law_points" s__law_points) : Cal P w K mg base 5 "_law_points" (sp_points K) := by
  refine D.cal sc__law_points (fun _ _ _ _ _ _ us hl => match us, hl with | [_, _, _], _ => rfl) (fun vs H Q E h => ?_) (fun _ cdv A outer s H vs Q E hr h => ?_)
  · exact l__law_points h
  have nd := sc__law_points.nd
  refine ⟨_, (pss_cons (ps_set (i := 3) nd rfl (Or.inl rfl) (pe_lst pa_nil)) (pss_cons (ps_for PassesOwn.never rfl (pi_range1 rfl B.range (pa_cons (pv 1) pa_nil)) (pg_name (i := 4) nd rfl (Or.inl rfl) (Or.inl rfl)) (pss_cons (ps_set (i := 5) nd rfl (Or.inl rfl) (pc c__law_point hr rfl (pa_cons (pv 0) (pa_cons (pv 2) pa_nil)))) (pss_one (ps_set (i := 3) nd rfl (Or.inl rfl) (pe_op op_cat (pv 3) (pe_op op_rep (pe_lst (pa_cons (pv 5) pa_nil)) (pe_callTy call_int1 rfl B.int (by decide +kernel) (pa_cons (pe_cmpR (op_notInD (hd_of hr)) (pv 5) (pv 3) rfl) pa_nil)))))))) (pss_one (ps_ret (pv 3))))), ?_⟩
  obtain ⟨d, m, n, rfl, hd, hn, hQ⟩ := h
  refine ⟨sz_le (by decide), fun F hF => ?_⟩
  have k0 : Kp (some d) H (upd H F (.lst [])) := Kp.new hF
  refine ⟨_, rfl, n, rfl, by omega, by omega, for_it (n := (n : Int).toNat) (wk_range (d := some d) (H1 := H)) (fun i σ H' => Kp (some d) H H' ∧ Dice H' d (m + 2 * (n - i)) ∧ ∃ (F : Addr) (ps : List Addr) (pts : List (List Int)) (z4 z5 : Option V), σ = [some (.ref d), some (.int n), some (.int 3), some (.ref F), z4, z5] ∧ H F = none ∧ H' F = some (.lst (ps.map V.ref)) ∧ TabT H' ps pts ∧ (∀ p ∈ pts, Lin.Pnt p) ∧ pts.Nodup ∧ pts.length ≤ i ∧ (1 ≤ i → 1 ≤ pts.length))
    ⟨k0, hd.upd (hd.new hF), F, [], [], none, none, rfl, hF, upd_same, ⟨rfl, fun i p r hp => by simp at hp⟩, fun p hp => by simp at hp, List.nodup_nil, Nat.le_refl _, fun z => by omega⟩ (fun i σ H' _ p => p.1) (fun i x σ Hq H2 hi p y => ?_) (fun σ H2 p => ?_)⟩
  · obtain ⟨k2, d2, F, ps, pts, z4, z5, rfl, hF, eF, tF, pF, nF, cF, c1⟩ := p
    obtain ⟨rfl, rfl⟩ := y
    have dF : d ≠ F := hd.new hF
    refine ⟨_, rfl, _, rfl, d, m + 2 * (n - (i + 1)), rfl, d2.less (by omega), fun v H3 k3 e3 => ?_⟩
    obtain ⟨d3, T, p, rfl, hT, eT, hp⟩ := e3
    have eF3 := k3.l eF (fun z => dF (Option.some.inj z))
    have tF3 := tF.keep k3 (d2.offTab tF)
    refine ⟨_, rfl, _, rfl, sz_le (by show 1 ≤ 1000000; decide), fun l hl => ?_⟩
    have kl : Kp none H3 (upd H3 l (.lst [.ref T])) := Kp.new hl
    refine ⟨_, rfl, _, rfl, _, _, .tup (SqT.of (kl.t eT)) (dp_iz _ p), .lst (SqL.of (kl.l eF3)) (dp_tab (tF3.keep kl)), shp_tI _, shp_lT _, .inr ⟨_, rfl, ?_⟩⟩
    rw [any_T]
    have cnt : (ps.map V.ref).length ≤ 200 := by rw [List.length_map, tF.1]; omega
    by_cases hin : p ∈ pts
    · rw [decide_eq_true hin]
      refine ⟨l, _, _, rfl, rfl, upd_same, by decide, by decide, sz_le (by show 1 * 0 ≤ 1000000; decide), fun r hr => ?_⟩
      have kr : Kp none (upd H3 l (.lst [.ref T])) (upd (upd H3 l (.lst [.ref T])) r (.lst [])) := Kp.new hr
      refine ⟨F, r, _, [], rfl, rfl, kr.l (kl.l eF3), upd_same, sz_le (by simp only [List.length_nil]; omega), fun q hq => ?_⟩
      have kq : Kp none (upd (upd H3 l (.lst [.ref T])) r (.lst [])) (upd (upd (upd H3 l (.lst [.ref T])) r (.lst [])) q (.lst (ps.map V.ref ++ []))) := Kp.new hq
      have kk := (kl.trans kr).trans kq
      exact ⟨(k2.trans k3).trans kk.any, (d3.keep kk).less (by omega), q, ps, pts, _, _, rfl, ((k2.trans k3).trans (kl.trans kr).any).fr q hq, by rw [upd_same, List.append_nil], tF3.keep kk, pF, nF, by omega, fun _ => List.length_pos_of_mem hin⟩
    · rw [decide_eq_false hin]
      refine ⟨l, _, _, rfl, rfl, upd_same, by decide, by decide, sz_le (by show 1 * 1 ≤ 1000000; decide), fun r hr => ?_⟩
      have kr : Kp none (upd H3 l (.lst [.ref T])) (upd (upd H3 l (.lst [.ref T])) r (.lst [.ref T])) := Kp.new hr
      refine ⟨F, r, _, [.ref T], rfl, rfl, kr.l (kl.l eF3), upd_same, sz_le (by simp only [List.length_singleton]; omega), fun q hq => ?_⟩
      have kq : Kp none (upd (upd H3 l (.lst [.ref T])) r (.lst [.ref T])) (upd (upd (upd H3 l (.lst [.ref T])) r (.lst [.ref T])) q (.lst (ps.map V.ref ++ [.ref T]))) := Kp.new hq
      have kk := (kl.trans kr).trans kq
      refine ⟨(k2.trans k3).trans kk.any, (d3.keep kk).less (by omega), q, ps ++ [T], pts ++ [p], _, _, rfl, ((k2.trans k3).trans (kl.trans kr).any).fr q hq, by rw [upd_same, List.map_append]; rfl, (tF3.keep kk).snoc (kk.t eT), fun z hz => ?_, ?_, by rw [List.length_append, List.length_singleton]; omega, fun _ => by rw [List.length_append, List.length_singleton]; omega⟩
      · rcases List.mem_append.mp hz with h | h
        · exact pF z h
        · rw [List.mem_singleton.mp h]; exact hp
      · rw [List.nodup_append]
        exact ⟨nF, by simp, fun a ha b hb z => hin (by rw [List.mem_singleton.mp hb] at z; rw [← z]; exact ha)⟩
  · obtain ⟨k2, d2, F, ps, pts, z4, z5, rfl, hF, eF, tF, pF, nF, cF, c1⟩ := p
    rw [Int.toNat_natCast] at cF c1
    exact ⟨_, rfl, hQ _ _ k2 ⟨d2.less (by omega), F, ps, pts, rfl, hF, eF, tF, pF, nF, cF, c1⟩⟩
/-! ### forms drawn -/
theorem ints_ex {ys : List V} {n : Nat} {B : Nat} (hl : ys.length = n) (h : ∀ (i : Nat) (y : V), ys[i]? = some y → ∃ r : Int, y = .int r ∧ r.natAbs ≤ B) : ∃ es : List Int, ys = iz es ∧ es.length = n ∧ ∀ i, (Lin.fn es i).natAbs ≤ B := by
  subst hl
  induction ys with
  | nil => exact ⟨[], rfl, rfl, fun i => by show (0 : Int).natAbs ≤ B; exact Nat.zero_le _⟩
  | cons y ys ih =>
    obtain ⟨r, rfl, hr⟩ := h 0 y (by simp)
    obtain ⟨es, rfl, hl, hb⟩ := ih fun i y hy => h (i + 1) y (by simpa using hy)
    refine ⟨r :: es, rfl, by rw [List.length_cons, hl, List.length_cons], fun i => ?_⟩
    cases i with
    | zero => exact hr
    | succ i => exact hb i
/-- a drawn tuple of n + 1 numbers, none above B -/
def Drawn (H : Hp) (d : Addr) (m n B : Nat) : V → Hp → Prop := fun v H' => Dice H' d m ∧ ∃ T es, v = .ref T ∧ H T = none ∧ H' T = some (.tup (iz es)) ∧ es.length = n + 1 ∧ ∀ i, (Lin.fn es i).natAbs ≤ B
def sp_small_form (K : PySem.W.Frag) : Sp := fun vs H Q _ => ∃ (d : Addr) (m n B : Nat), vs = [.ref d, .int n, .int B] ∧ Dice H d (m + (n + 1)) ∧ n ≤ 100 ∧ B ≤ 10000000000000 ∧ Ret (some d) (Drawn H d m n B) H Q
theorem l__law_small_form {vs : List V} {H : Hp} {Q : VK} {E : XK} (h : sp_small_form K vs H Q E) : vs.length = 3 := by
  obtain ⟨a, f, n, B, rfl, _⟩ := h
  rfl
theorem drawn_end {H H2 : Hp} {d : Addr} {m n B : Nat} {ys : List V} {Q : VK} (hQ : Ret (some d) (Drawn H d m n B) H Q) (k2 : Kp (some d) H H2) (d2 : Dice H2 d m) (hlen : ys.length = n + 1) (hz : ∀ (i : Nat) (y : V), ys[i]? = some y → ∃ r : Int, y = .int r ∧ r.natAbs ≤ B) (l : Addr) (hl : H2 l = none) : Q (.ref l) (upd H2 l (.tup ys)) := by
  obtain ⟨es, rfl, h1, h2⟩ := ints_ex hlen hz
  exact hQ _ _ (k2.trans (Kp.new hl)) ⟨d2.upd (d2.new hl), l, es, rfl, k2.fr l hl, upd_same, h1, h2⟩
abbrev s__law_small_form : Stmt := top 61
abbrev N__law_small_form : List Str := ["_law_dice_here", "_law_degree", "_law_most", "_law_place"]
theorem sc__law_small_form : FnScope N__law_small_form ["_law_dice_here", "_law_degree", "_law_most"] (defScope s__law_small_form) := ⟨rfl, rfl, rfl, by decide +kernel, rfl, by decide +kernel, by decide +kernel⟩
theorem d__law_small_form (B : Bt mg)  (c__law_near : Cal P w K mg base 2 "_law_near" (sp_near K)) (D : Dd K mg "_law_small_form" s__law_small_form) : Cal P w K mg base 3 "_law_small_form" (sp_small_form K) := by
  refine D.cal sc__law_small_form (fun _ _ _ _ _ _ us hl => match us, hl with | [_, _, _], _ => rfl) (fun vs H Q E h => ?_) (fun _ cdv A outer s H vs Q E hr h => ?_)
  · exact l__law_small_form h
  have nd := sc__law_small_form.nd
  refine ⟨_, (pss_one (ps_ret (pe_callTy (tuple_K K) rfl B.tuple (by decide +kernel) (pa_cons (pe_lc (own := [("_law_place", 3)]) rfl nd (pi_range1 rfl B.range (pa_cons (pe_op op_add (pv 1) pe_int) pa_nil)) (blkOk_by (N := N__law_small_form) (sc := defScope s__law_small_form) (by decide +kernel)) (fun _ _ _ _ _ => (pg_name (i := 3) nd rfl (Or.inl rfl) (Or.inr rfl))) (fun _ _ _ _ _ => pts_nil) (fun _ _ _ _ _ => (pc c__law_near hr rfl (pa_cons (pv 0) (pa_cons (pv 2) pa_nil))))) pa_nil)))), ?_⟩
  obtain ⟨d, m, n, B, rfl, hd, hn, hB, hQ⟩ := h
  refine ⟨_, rfl, _, _, rfl, rfl, _, rfl, by omega, by omega, fun D hD => lc_map (n := ((n : Int) + 1).toNat) (σ := [some (.ref d), some (.int n), some (.int B), none]) (vs := [3]) (wk_range (d := some d)) hD (fun a z => by cases z; exact hd.ne) (by omega) (fun i H => Dice H d (m + (n + 1 - i))) (fun i v _ => ∃ r : Int, v = .int r ∧ r.natAbs ≤ B) (hd.upd (hd.new hD)) (fun i H o h => h.upd (hd.new hD)) (fun _ _ _ _ _ e => e) (fun i x H2 H3 hi k2 s2 _ y R hR => ?_) (fun H2 ys k2 s2 hD2 hlen hz => ?_)⟩
  · obtain ⟨rfl, rfl⟩ := y
    refine ⟨wipe1, _, rfl, _, rfl, d, m + (n + 1 - (i + 1)), B, rfl, s2.less (by omega), hB, fun v H4 k4 e4 => ?_⟩
    obtain ⟨d4, r, rfl, hr⟩ := e4
    exact hR _ _ k4 d4 fun o => ⟨r, rfl, hr⟩
  · exact ⟨D, _, rfl, .inl ⟨SqL.of hD2, fun l hl => drawn_end hQ k2 (s2.less (by omega)) (by omega) hz l hl⟩⟩
end
end W0
/-! ## W17 -/
set_option Elab.async false
set_option linter.all false
set_option maxRecDepth 100000
set_option maxHeartbeats 4000000
namespace W0
open PySem PySem.Spec PyProof.Rows L2 SlX
section
variable {P : Program} {w : World} {K : PySem.W.Frag} {mg : Str → Option Value} {base : Heap}
/-- two numbers, none above 3 -/
def Two (r : List Int) : Prop := r.length = 2 ∧ ∀ i, (Lin.fn r i).natAbs ≤ 3
theorem two_line {p : List Int} (h : Lin.Pnt p) : Two (Lin.lineOf p) := ⟨rfl, fun i => by
  match i with
  | 0 => exact h.small 1
  | 1 => show (-Lin.fn p 0).natAbs ≤ 3; rw [Int.natAbs_neg]; exact h.small 0
  | i + 2 => show (0 : Int).natAbs ≤ 3; decide⟩
theorem two_pnt {p : List Int} (h : Lin.Pnt p) : Two p := ⟨h.len, h.small⟩
theorem bd_of {r : List Int} {A B : Nat} (h : ∀ i, (Lin.fn r i).natAbs ≤ A) (hA : A < 2 ^ B) : Lin.Bd B r := fun i => Nat.lt_of_le_of_lt (h i) hA
theorem Two.bd {r : List Int} (h : Two r) : Lin.Bd 1000 r := bd_of (A := 3) (B := 1000) h.2 (by decide)
theorem all_le {fs : List (List Int)} (h : ∀ f ∈ fs, Two f) : ∀ i, i ≤ fs.length → (Lin.allConv (fs.take i)).length = i + 1 ∧ ∀ k, (Lin.fn (Lin.allConv (fs.take i)) k).natAbs ≤ 6 ^ i
  | 0, _ => ⟨rfl, fun k => by
    match k with
    | 0 => show (1 : Int).natAbs ≤ 1; decide
    | k + 1 => show (0 : Int).natAbs ≤ 1; decide⟩
  | i + 1, hi => by
    obtain ⟨l, b⟩ := all_le h i (by omega)
    have hf : fs[i]? = some (fs[i]'(by omega)) := List.getElem?_eq_getElem _
    have T := h _ (List.mem_of_getElem? hf)
    generalize fs[i] = f at hf T
    rw [allConv_one hf]
    refine ⟨by rw [Lin.conv_len, l, T.1]; omega, fun k => ?_⟩
    have e : f = [Lin.fn f 0, Lin.fn f 1] := Lin.two_of T.1
    rw [e, Lin.conv_two _ (by omega), Nat.pow_succ, Nat.mul_comm]
    exact Lin.mul2_le (M := 3) b (T.2 0) (T.2 1) k
theorem pow6 {i : Nat} (h : i ≤ 8) : 6 ^ i ≤ 1679616 := Nat.le_trans (Nat.pow_le_pow_right (by decide) h) (by decide)
theorem pow_lt {r : List Int} (T : Two r) (n : Nat) (k : Nat) : (Lin.fn (Lin.powL r n) k).natAbs ≤ 6 ^ n := by
  rw [Lin.two_of T.1, Lin.powL_fn]
  exact Lin.pw_le (M := 3) (T.2 0) (T.2 1) n k
theorem pow_bd {r : List Int} (T : Two r) {i : Nat} (h : i ≤ 8) : Lin.Bd 1000 (Lin.powL r i) := bd_of (A := 1679616) (B := 1000) (fun k => Nat.le_trans (pow_lt T i k) (pow6 h)) (by decide)
theorem tabT_ex {H : Hp} {G : List Int → Prop} : ∀ {ys : List V}, (∀ (i : Nat) (y : V), ys[i]? = some y → ∃ T r, y = .ref T ∧ H T = some (.tup (iz r)) ∧ G r) → ∃ ps rs, ys = ps.map V.ref ∧ TabT H ps rs ∧ (∀ r ∈ rs, G r) ∧ rs.length = ys.length
  | [], _ => ⟨[], [], rfl, ⟨rfl, fun i p r hp => by simp at hp⟩, fun r hr => by simp at hr, rfl⟩
  | y :: ys, h => by
    obtain ⟨T, r, rfl, hT, hG⟩ := h 0 y (by simp)
    obtain ⟨ps, rs, rfl, ht, hg, hl⟩ := tabT_ex (ys := ys) fun i z hz => h (i + 1) z (by simpa using hz)
    refine ⟨T :: ps, r :: rs, rfl, ⟨by rw [List.length_cons, List.length_cons, ht.1], fun i p s hp hs => ?_⟩, fun s hs => ?_, by rw [List.length_cons, List.length_cons, hl]⟩
    · cases i with
      | zero => cases hp; cases hs; exact hT
      | succ i => exact ht.2 i p s (by simpa using hp) (by simpa using hs)
    · rcases List.mem_cons.mp hs with rfl | hs
      · exact hG
      · exact hg s hs
theorem plus_fn {f g : List Int} (h : f.length = g.length) (k : Nat) : Lin.fn (Lin.plusL f g) k = Lin.fn f k + Lin.fn g k := by
  unfold Lin.plusL
  exact Lin.fn_zipWith (f := fun x y => x + y) h (by simp) k
theorem scale_fn (f : List Int) (c : Int) (k : Nat) : Lin.fn (Lin.scaleL f c) k = c * Lin.fn f k := by
  unfold Lin.scaleL
  exact Lin.fn_map (by simp) k
theorem rep_fn (n k : Nat) : Lin.fn (List.replicate n 0) k = 0 := Lin.fn_replicate n k
theorem map_zero (n : Nat) : (List.range n).map (fun _ => (0 : Int)) = List.replicate n 0 := by
  refine List.ext_getElem (by simp) fun i h1 h2 => ?_
  simp only [List.getElem_map, List.getElem_replicate]
def sp_form (K : PySem.W.Frag) : Sp := fun vs H Q _ => ∃ (d : Addr) (m n : Nat), vs = [.ref d, .int n] ∧ Dice H d (m + 100) ∧ n ≤ 8 ∧ Ret (some d) (Drawn H d m n 1000000000000) H Q
theorem l__law_form {vs : List V} {H : Hp} {Q : VK} {E : XK} (h : sp_form K vs H Q E) : vs.length = 2 := by
  obtain ⟨a, f, n, rfl, _⟩ := h
  rfl
abbrev s__law_form : Stmt := top 62
abbrev N__law_form : List Str := ["_law_dice_here", "_law_degree", "_law_way", "_law_turn", "_law_line_here", "_law_often", "_law_found", "_law_place"]
theorem sc__law_form : FnScope N__law_form ["_law_dice_here", "_law_degree"] (defScope s__law_form) := ⟨rfl, rfl, rfl, by decide +kernel, rfl, by decide +kernel, by decide +kernel⟩
theorem d__law_form (B : Bt mg)  (c__law_small_form : Cal P w K mg base 3 "_law_small_form" (sp_small_form K)) (c__law_roll : Cal P w K mg base 1 "_law_roll" (sp_roll K)) (c__law_near : Cal P w K mg base 2 "_law_near" (sp_near K)) (c__law_plus : Cal P w K mg base 1 "_law_plus" (sp_plus K)) (c__law_scaled : Cal P w K mg base 1 "_law_scaled" (sp_scaled K)) (c__law_power : Cal P w K mg base 2 "_law_power" (sp_power K)) (c__law_point : Cal P w K mg base 4 "_law_point" (sp_point K)) (c__law_product : Cal P w K mg base 1 "_law_product" (sp_product K)) (c__law_line : Cal P w K mg base 1 "_law_line" (sp_line K)) (c__law_all_product : Cal P w K mg base 2 "_law_all_product" (sp_all_product K)) (D : Dd K mg "_law_form" s__law_form) : Cal P w K mg base 5 "_law_form" (sp_form K) := by
  refine D.cal sc__law_form (fun _ _ _ _ _ _ us hl => match us, hl with | [_, _], _ => rfl) (fun vs H Q E h => ?_) (fun _ cdv A outer s H vs Q E hr h => ?_)
  · exact l__law_form h
  have nd := sc__law_form.nd
  refine ⟨_, (pss_cons (ps_set (i := 2) nd rfl (Or.inl rfl) (pc c__law_roll hr rfl (pa_cons (pv 0) (pa_cons pe_int pa_nil)))) (pss_cons (ps_if (pt_cmpR op_eq (pv 2) pe_int (nomark _)) (pss_one (ps_ret (pc c__law_all_product hr rfl (pa_cons (pe_lc (own := [("_law_turn", 3)]) rfl nd (pi_range1 rfl B.range (pa_cons (pv 1) pa_nil)) (blkOk_by (N := N__law_form) (sc := defScope s__law_form) (by decide +kernel)) (fun _ _ _ _ _ => (pg_name (i := 3) nd rfl (Or.inl rfl) (Or.inr rfl))) (fun _ _ _ _ _ => pts_nil) (fun _ _ _ _ _ => (pc c__law_line hr rfl (pa_cons (pc c__law_point hr rfl (pa_cons (pv 0) (pa_cons pe_int pa_nil))) pa_nil)))) pa_nil)))) pss_nil) (pss_cons (ps_if (pt_cmpR op_eq (pv 2) pe_int (nomark _)) (pss_cons (ps_par (i := 4) (j := 5) rfl nd rfl rfl (by decide) rfl rfl (pa_cons (pc c__law_line hr rfl (pa_cons (pc c__law_point hr rfl (pa_cons (pv 0) (pa_cons pe_int pa_nil))) pa_nil)) (pa_cons (pc c__law_roll hr rfl (pa_cons (pv 0) (pa_cons (pe_op op_add (pv 1) pe_int) pa_nil))) pa_nil)) rfl) (pss_one (ps_ret (pc c__law_product hr rfl (pa_cons (pc c__law_power hr rfl (pa_cons (pv 4) (pa_cons (pv 5) pa_nil))) (pa_cons (pc c__law_small_form hr rfl (pa_cons (pv 0) (pa_cons (pe_op op_sub (pv 1) (pv 5)) (pa_cons pe_int pa_nil)))) pa_nil)))))) pss_nil) (pss_cons (ps_if (pt_cmpR op_eq (pv 2) pe_int (nomark _)) (pss_cons (ps_set (i := 6) nd rfl (Or.inl rfl) (pe_callTy (tuple_K K) rfl B.tuple (by decide +kernel) (pa_cons (pe_lc (own := [("_law_place", 7)]) rfl nd (pi_range1 rfl B.range (pa_cons (pe_op op_add (pv 1) pe_int) pa_nil)) (blkOk_by (N := N__law_form) (sc := defScope s__law_form) (by decide +kernel)) (fun _ _ _ _ _ => (pg_name (i := 7) nd rfl (Or.inl rfl) (Or.inr rfl))) (fun _ _ _ _ _ => pts_nil) (fun _ _ _ _ _ => pe_int)) pa_nil))) (pss_cons (ps_for PassesOwn.never rfl (pi_range1 rfl B.range (pa_cons (pe_op op_add pe_int (pc c__law_roll hr rfl (pa_cons (pv 0) (pa_cons pe_int pa_nil)))) pa_nil)) (pg_name (i := 3) nd rfl (Or.inl rfl) (Or.inl rfl)) (pss_one (ps_set (i := 6) nd rfl (Or.inl rfl) (pc c__law_plus hr rfl (pa_cons (pv 6) (pa_cons (pc c__law_scaled hr rfl (pa_cons (pc c__law_power hr rfl (pa_cons (pc c__law_point hr rfl (pa_cons (pv 0) (pa_cons pe_int pa_nil))) (pa_cons (pv 1) pa_nil))) (pa_cons (pc c__law_near hr rfl (pa_cons (pv 0) (pa_cons pe_int pa_nil))) pa_nil))) pa_nil)))))) (pss_one (ps_ret (pv 6))))) pss_nil) (pss_cons (ps_if (pt_cmpR op_eq (pv 2) pe_int (nomark _)) (pss_one (ps_ret (pe_callTy (tuple_K K) rfl B.tuple (by decide +kernel) (pa_cons (pe_lc (own := [("_law_place", 7)]) rfl nd (pi_range1 rfl B.range (pa_cons (pe_op op_add (pv 1) pe_int) pa_nil)) (blkOk_by (N := N__law_form) (sc := defScope s__law_form) (by decide +kernel)) (fun _ _ _ _ _ => (pg_name (i := 7) nd rfl (Or.inl rfl) (Or.inr rfl))) (fun _ _ _ _ _ => pts_nil) (fun _ _ _ _ _ => (pe_op op_mulW (pc c__law_near hr rfl (pa_cons (pv 0) (pa_cons pe_int pa_nil))) (pc c__law_roll hr rfl (pa_cons (pv 0) (pa_cons pe_int pa_nil)))))) pa_nil)))) pss_nil) (pss_cons (ps_if (PW.pt (pw_and (pt_cmpR op_eq (pv 2) pe_int (nomark _)) (pw_and1 (pt_cmpR op_eq (pc c__law_roll hr rfl (pa_cons (pv 0) (pa_cons pe_int pa_nil))) pe_int (nomark _))))) (pss_one (ps_ret (pe_callTy (tuple_K K) rfl B.tuple (by decide +kernel) (pa_cons (pe_lc (own := [("_law_place", 7)]) rfl nd (pi_range1 rfl B.range (pa_cons (pe_op op_add (pv 1) pe_int) pa_nil)) (blkOk_by (N := N__law_form) (sc := defScope s__law_form) (by decide +kernel)) (fun _ _ _ _ _ => (pg_name (i := 7) nd rfl (Or.inl rfl) (Or.inr rfl))) (fun _ _ _ _ _ => pts_nil) (fun _ _ _ _ _ => (pc c__law_near hr rfl (pa_cons (pv 0) (pa_cons (pe_op op_pow pe_int pe_int) pa_nil))))) pa_nil)))) pss_nil) (pss_one (ps_ret (pc c__law_small_form hr rfl (pa_cons (pv 0) (pa_cons (pv 1) (pa_cons pe_int pa_nil)))))))))))), ?_⟩
  obtain ⟨d, m, n, rfl, hd, hn, hQ⟩ := h
  refine ⟨_, rfl, d, m + 99, 6, rfl, hd, by decide, fun v H1 k1 e1 => ?_⟩
  obtain ⟨d1, wy, rfl, w0, w6⟩ := e1
  refine ⟨_, rfl, rfl, _, rfl, ?_⟩
  by_cases hw0 : wy = 0
  · refine ifT (eqT hw0) ?_
    refine ⟨_, rfl, n, rfl, by omega, by omega, fun D hD => lc_map (n := (n : Int).toNat) (σ := [some (.ref d), some (.int n), some (.int wy), none, none, none, none, none]) (vs := [3]) (wk_range (d := some d)) hD (fun a z => by cases z; exact d1.ne) (by omega) (fun i H => Dice H d (m + 2 * (n - i))) (fun i v H => ∃ T r, v = .ref T ∧ T ≠ d ∧ H T = some (.tup (iz r)) ∧ Two r) ((d1.less (by omega)).upd (d1.new hD)) (fun i H o h => h.upd (d1.new hD)) (fun i v H H' k z => ?_) (fun i x H2 H3 hi k2 s2 ac y R hR => ?_) (fun H2 ys k2 s2 hD2 hlen hz => ?_)⟩
    · obtain ⟨T, r, e, ne, z, t⟩ := z
      exact ⟨T, r, e, ne, k.t z (fun q => ne (Option.some.inj q).symm), t⟩
    · obtain ⟨rfl, rfl⟩ := y
      obtain ⟨acc, hacc⟩ := ac
      refine ⟨wipe1, _, rfl, d, m + 2 * (n - (i + 1)), rfl, s2.less (by omega), fun v H4 k4 e4 => ?_⟩
      obtain ⟨d4, T, p, rfl, hT, eT, hp⟩ := e4
      refine ⟨T, p, rfl, eT, hp.len, fun v H5 k5 e5 => ?_⟩
      obtain ⟨L, rfl, hL, eL⟩ := e5
      have hacc4 := k4.l hacc (fun z => (d1.new hD) (Option.some.inj z))
      refine hR _ _ (k4.trans k5.any) (d4.keep k5) fun o => ⟨L, _, rfl, ((d4.keep k5).offT eL).symm, ?_, two_line hp⟩
      rw [upd_ne (ne_of_none hacc4 hL).symm]
      exact eL
    · obtain ⟨ps, rs, rfl, ht, hg, hl⟩ := tabT_ex (G := Two) fun i y hy => let ⟨T, r, e, _, z, t⟩ := hz i y hy; ⟨T, r, e, z, t⟩
      have hrl : rs.length = n := by omega
      refine ⟨D, ps, rs, rfl, hD2, ht, fun f hf => ⟨by rw [(hg f hf).1]; decide, (hg f hf).bd⟩, fun i hi => ⟨by rw [(all_le hg i hi).1]; omega, bd_of (A := 1679616) (B := 1000) (fun k => Nat.le_trans ((all_le hg i hi).2 k) (pow6 (by omega))) (by decide)⟩, fun v H3 k3 e3 => ?_⟩
      obtain ⟨T, rfl, hT, eT⟩ := e3
      have AL := all_le hg rs.length (Nat.le_refl _)
      rw [List.take_length] at AL
      exact hQ _ _ ((k1.trans k2).trans k3.any) ⟨(s2.less (by omega)).keep k3, T, _, rfl, (k1.trans k2).fr T hT, eT, by rw [AL.1]; omega, fun k => Nat.le_trans (Nat.le_trans (AL.2 k) (pow6 (by omega))) (by decide)⟩
  refine ifF (eqF hw0) ⟨_, rfl, rfl, _, rfl, ?_⟩
  by_cases hw1 : wy = 1
  · refine ifT (eqT hw1) ?_
    refine ⟨_, rfl, d, m + 97, rfl, d1, fun v H2 k2 e2 => ?_⟩
    obtain ⟨d2, T, p, rfl, hT, eT, hp⟩ := e2
    refine ⟨T, p, rfl, eT, hp.len, fun v H3 k3 e3 => ?_⟩
    obtain ⟨L, rfl, hL, eL⟩ := e3
    have d3 := d2.keep k3
    refine ⟨_, rfl, _, rfl, _, _, rfl, rfl, d, m + 96, _, rfl, d3, by omega, fun v H4 k4 e4 => ?_⟩
    obtain ⟨d4, o, rfl, o0, o1⟩ := e4
    obtain ⟨o, rfl⟩ := Int.eq_ofNat_of_zero_le o0
    refine ⟨_, _, rfl, ?_⟩
    have TL := two_line hp
    have eL4 := k4.t eL (fun z => d3.offT eL (Option.some.inj z))
    refine ⟨_, rfl, _, rfl, L, Lin.lineOf p, o, rfl, eL4, rfl, TL.bd, by omega, fun i hi => pow_bd TL (by omega), fun v H5 k5 e5 => ?_⟩
    obtain ⟨P1, rfl, hP1, eP1⟩ := e5
    have d5 := d4.keep k5
    refine ⟨_, rfl, _, rfl, _, rfl, _, _, rfl, rfl, d, m, n - o, 4, congrArg (fun z : Int => [V.ref d, V.int z, V.int 4]) (by omega), d5.less (by omega), by omega, by decide, fun v H6 k6 e6 => ?_⟩
    obtain ⟨d6, S, es, rfl, hS, eS, lS, bS⟩ := e6
    have eP6 := k6.t eP1 (fun z => d5.offT eP1 (Option.some.inj z))
    have lp := Lin.powL_len (f := Lin.lineOf p) rfl o
    refine ⟨P1, S, _, es, rfl, eP6, eS, by omega, by omega, pow_bd TL (by omega), bd_of (A := 4) (B := 1000) bS (by decide), fun v H7 k7 e7 => ?_⟩
    obtain ⟨R, rfl, hR, eR⟩ := e7
    have k := ((((k1.trans k2).trans k3.any).trans k4).trans k5.any).trans k6
    refine hQ _ _ (k.trans k7.any) ⟨d6.keep k7, R, _, rfl, k.fr R hR, eR, by rw [Lin.conv_len, lp, lS]; omega, fun i => ?_⟩
    have c := Lin.conv_le (A := 1679616) (B := 4) (fun i => Nat.le_trans (pow_lt TL o i) (pow6 (by omega))) bS i
    refine Nat.le_trans c ?_
    rw [lp]
    have : o ≤ 8 := by omega
    calc (o + 1 + 1) * (1679616 * 4) ≤ 10 * (1679616 * 4) := Nat.mul_le_mul_right _ (by omega)
      _ ≤ 1000000000000 := by decide
  refine ifF (eqF hw1) ⟨_, rfl, rfl, _, rfl, ?_⟩
  by_cases hw2 : wy = 2
  · refine ifT (eqT hw2) ?_
    refine ⟨_, rfl, _, _, rfl, rfl, _, rfl, by omega, by omega, fun D hD => lc_map (n := ((n : Int) + 1).toNat) (σ := [some (.ref d), some (.int n), some (.int wy), none, none, none, none, none]) (vs := [7]) (wk_range (d := none)) hD (by simp) (by omega) (fun _ _ => True) (fun i v _ => v = .int 0) trivial (fun _ _ _ _ => trivial) (fun _ _ _ _ _ e => e) (fun i x H2 H3 hi k2 _ _ y R hR => ⟨wipe1, hR _ _ (by rw [y.1]; exact .refl) trivial fun o => rfl⟩) (fun H2 ys k2 _ hD2 hlen hz => ?_)⟩
    refine ⟨D, _, rfl, .inl ⟨SqL.of hD2, fun F hF => ?_⟩⟩
    have kF : Kp none H2 (upd H2 F (.tup ys)) := Kp.new hF
    have k12 := (k1.trans k2.any).trans kF.any
    have d2 := (d1.keep k2).keep kF
    have eF : (upd H2 F (.tup ys)) F = some (.tup (iz (List.replicate (n + 1) 0))) := by
      rw [upd_same, ints_of (f := fun _ => 0) hlen hz, map_zero, show ((n : Int) + 1).toNat = n + 1 by omega]
    have hF0 : H F = none := (k1.trans k2.any).fr F hF
    generalize upd H2 F (.tup ys) = H3 at kF k12 d2 eF
    refine ⟨_, rfl, d, m + 98, 3, rfl, d2, by decide, fun v H4 k4 e4 => ?_⟩
    obtain ⟨d4, r, rfl, r0, r3⟩ := e4
    refine ⟨_, _, rfl, rfl, _, rfl, by omega, by omega, for_it (n := (1 + r).toNat) (wk_range (d := some d) (H1 := H)) (fun i σ H' => Kp (some d) H H' ∧ Dice H' d (m + 4 * (20 - i)) ∧ ∃ (F : Addr) (f : List Int) (z3 z7 : Option V), σ = [some (.ref d), some (.int n), some (.int wy), z3, none, none, some (.ref F), z7] ∧ H F = none ∧ d ≠ F ∧ H' F = some (.tup (iz f)) ∧ f.length = n + 1 ∧ ∀ k, (Lin.fn f k).natAbs ≤ i * 6718464)
      ⟨k12.trans k4, d4.less (by omega), F, _, _, _, rfl, hF0, d2.offT eF, k4.t eF (fun z => d2.offT eF (Option.some.inj z)), by rw [List.length_replicate], fun k => by rw [rep_fn]; exact Nat.zero_le _⟩ (fun i σ H' _ p => p.1) (fun i x σ Hq H5 hi p y => ?_) (fun σ H5 p => ?_)⟩
    · obtain ⟨k5, d5, F, f, z3, z7, rfl, hF, nF, eF, lf, bf⟩ := p
      obtain ⟨rfl, rfl⟩ := y
      refine ⟨_, rfl, _, rfl, d, m + 4 * (20 - (i + 1)) + 1, rfl, d5.less (by omega), fun v H6 k6 e6 => ?_⟩
      obtain ⟨d6, T, p, rfl, hT, eT, hp⟩ := e6
      have TP := two_pnt hp
      refine ⟨_, rfl, T, p, n, rfl, eT, hp.len, TP.bd, by omega, fun i hi => pow_bd TP (by omega), fun v H7 k7 e7 => ?_⟩
      obtain ⟨W, rfl, hW, eW⟩ := e7
      have d7 := d6.keep k7
      refine ⟨_, rfl, d, m + 4 * (20 - (i + 1)), 4, rfl, d7, by decide, fun v H8 k8 e8 => ?_⟩
      obtain ⟨d8, c, rfl, hc⟩ := e8
      have lp := Lin.powL_len hp.len n
      refine ⟨W, _, c, rfl, k8.t eW (fun z => d7.offT eW (Option.some.inj z)), by omega, pow_bd TP hn, by omega, fun v H9 k9 e9 => ?_⟩
      obtain ⟨S, rfl, hS, eS⟩ := e9
      have kk := ((k6.trans k7.any).trans k8).trans k9.any
      have sl : (Lin.scaleL (Lin.powL p n) c).length = n + 1 := by unfold Lin.scaleL; rw [List.length_map, lp]
      refine ⟨F, S, f, _, rfl, kk.t eF (fun z => nF (Option.some.inj z)), eS, by omega, fun v H10 k10 e10 => ?_⟩
      obtain ⟨G, rfl, hG, eG⟩ := e10
      have d10 := (d8.keep k9).keep k10
      refine ⟨(k5.trans kk).trans k10.any, d10, G, _, _, _, rfl, (k5.trans kk).fr G hG, d10.offT eG, eG, by unfold Lin.plusL; rw [List.length_zipWith]; omega, fun k => ?_⟩
      rw [plus_fn (by omega), scale_fn, Nat.succ_mul]
      refine Nat.le_trans (Int.natAbs_add_le _ _) (Nat.add_le_add (bf k) ?_)
      rw [Int.natAbs_mul]
      exact Nat.le_trans (Nat.mul_le_mul hc (Nat.le_trans (pow_lt TP n k) (pow6 hn))) (by decide)
    · obtain ⟨k5, d5, F, f, z3, z7, rfl, hF, nF, eF, lf, bf⟩ := p
      refine ⟨_, rfl, hQ _ _ k5 ⟨d5.less (by omega), F, f, rfl, hF, eF, lf, fun k => ?_⟩⟩
      have := bf k
      have h3 : (1 + r).toNat ≤ 3 := by omega
      exact Nat.le_trans this (Nat.le_trans (Nat.mul_le_mul_right _ h3) (by decide))
  refine ifF (eqF hw2) ⟨_, rfl, rfl, _, rfl, ?_⟩
  have drawn : ∀ {H1 H2 : Hp} {ys : List V} {l : Addr} {B : Nat}, B ≤ 1000000000000 → Kp (some d) H H1 → Kp (some d) H1 H2 → Dice H2 d m → ys.length = n + 1 → (∀ (i : Nat) (y : V), ys[i]? = some y → ∃ r : Int, y = .int r ∧ r.natAbs ≤ B) → H2 l = none → Q (.ref l) (upd H2 l (.tup ys)) := fun hB k1 k2 d2 hl hz hl2 => by
    obtain ⟨es, rfl, h1, h2⟩ := ints_ex hl hz
    exact hQ _ _ ((k1.trans k2).trans (Kp.new hl2)) ⟨d2.upd (d2.new hl2), _, es, rfl, (k1.trans k2).fr _ hl2, upd_same, h1, fun k => Nat.le_trans (h2 k) hB⟩
  by_cases hw3 : wy = 3
  · refine ifT (eqT hw3) ?_
    refine ⟨_, rfl, _, _, rfl, rfl, _, rfl, by omega, by omega, fun D hD => lc_map (n := ((n : Int) + 1).toNat) (σ := [some (.ref d), some (.int n), some (.int wy), none, none, none, none, none]) (vs := [7]) (wk_range (d := some d)) hD (fun a z => by cases z; exact d1.ne) (by omega) (fun i H => Dice H d (m + 2 * (n + 1 - i))) (fun i v _ => ∃ r : Int, v = .int r ∧ r.natAbs ≤ 3) ((d1.less (by omega)).upd (d1.new hD)) (fun i H o h => h.upd (d1.new hD)) (fun _ _ _ _ _ e => e) (fun i x H2 H3 hi k2 s2 _ y R hR => ?_) (fun H2 ys k2 s2 hD2 hlen hz => ?_)⟩
    · obtain ⟨rfl, rfl⟩ := y
      refine ⟨wipe1, _, rfl, d, m + 2 * (n + 1 - (i + 1)) + 1, 3, rfl, s2.less (by omega), by decide, fun v H4 k4 e4 => ?_⟩
      obtain ⟨d4, r, rfl, hr⟩ := e4
      refine ⟨_, rfl, d, m + 2 * (n + 1 - (i + 1)), 2, rfl, d4, by decide, fun v H5 k5 e5 => ?_⟩
      obtain ⟨d5, q, rfl, q0, q2⟩ := e5
      have q3 : q.natAbs ≤ 1 := by omega
      refine ⟨_, _, rfl, rfl, wide_mul (a := 10) (b := 10) (Nat.lt_of_le_of_lt hr (by decide)) (Nat.lt_of_le_of_lt q3 (by decide)) (by decide) (by decide) (by decide), hR _ _ (k4.trans k5) d5 fun o => ⟨_, rfl, ?_⟩⟩
      rw [Int.natAbs_mul]
      exact Nat.le_trans (Nat.mul_le_mul hr q3) (by decide)
    · exact ⟨D, _, rfl, .inl ⟨SqL.of hD2, fun l hl => drawn (by decide) k1 k2 (s2.less (by omega)) (by omega) hz hl⟩⟩
  refine ifF (eqF hw3) ?_
  have last : ∀ {H1 : Hp}, Kp (some d) H H1 → Dice H1 d (m + 90) → sp_small_form K [.ref d, .int n, .int 6] H1 Q E0 := fun k d1 => ⟨d, m, n, 6, rfl, d1.less (by omega), by omega, by decide, fun v H2 k2 e2 => by
    obtain ⟨d2, T, es, rfl, hT, eT, h1, h2⟩ := e2
    exact hQ _ _ (k.trans k2) ⟨d2, T, es, rfl, k.fr T hT, eT, h1, fun i => Nat.le_trans (h2 i) (by decide)⟩⟩
  by_cases hw4 : wy = 4
  · refine ⟨_, rfl, rfl, _, rfl, ifT (eqT hw4) ⟨_, rfl, d, m + 98, 4, rfl, d1, by decide, fun v H2 k2 e2 => ?_⟩⟩
    obtain ⟨d2, q, rfl, q0, q4⟩ := e2
    refine ⟨rfl, _, rfl, ?_⟩
    by_cases hq : q = 0
    · refine ifT (eqT hq) ?_
      refine ⟨_, rfl, _, _, rfl, rfl, _, rfl, by omega, by omega, fun D hD => lc_map (n := ((n : Int) + 1).toNat) (σ := [some (.ref d), some (.int n), some (.int wy), none, none, none, none, none]) (vs := [7]) (wk_range (d := some d)) hD (fun a z => by cases z; exact d2.ne) (by omega) (fun i H => Dice H d (m + (n + 1 - i))) (fun i v _ => ∃ r : Int, v = .int r ∧ r.natAbs ≤ 1000000000000) ((d2.less (by omega)).upd (d2.new hD)) (fun i H o h => h.upd (d2.new hD)) (fun _ _ _ _ _ e => e) (fun i x H2 H3 hi k2 s2 _ y R hR => ?_) (fun H2 ys k3 s2 hD2 hlen hz => ?_)⟩
      · obtain ⟨rfl, rfl⟩ := y
        refine ⟨wipe1, _, rfl, _, _, rfl, rfl, ⟨by decide, by decide, by decide⟩, d, m + (n + 1 - (i + 1)), 1000000000000, rfl, s2.less (by omega), by decide, fun v H4 k4 e4 => ?_⟩
        obtain ⟨d4, r, rfl, hr⟩ := e4
        exact hR _ _ k4 d4 fun o => ⟨r, rfl, hr⟩
      · exact ⟨D, _, rfl, .inl ⟨SqL.of hD2, fun l hl => drawn (Nat.le_refl _) (k1.trans k2) k3 (s2.less (by omega)) (by omega) hz hl⟩⟩
    · refine ifF (eqF hq) ?_
      exact ⟨_, rfl, _, rfl, last (k1.trans k2) (d2.less (by omega))⟩
  · refine ⟨_, rfl, rfl, _, rfl, ifF (eqF hw4) ?_⟩
    refine ifF rfl ?_
    exact ⟨_, rfl, _, rfl, last k1 (d1.less (by omega))⟩
end
end W0
/-! ## W18 -/
set_option Elab.async false
set_option linter.all false
set_option maxRecDepth 100000
set_option maxHeartbeats 4000000
namespace W0
open PySem PySem.Spec PyProof.Rows L2 SlX
section
variable {P : Program} {w : World} {K : PySem.W.Frag} {mg : Str → Option Value} {base : Heap}
/-! ### _law_less -/
def sp_less (K : PySem.W.Frag) : Sp := fun vs H Q _ => ∃ (a b : Addr) (row head : List Int) (pl : Nat), vs = [.ref a, .ref b, .int pl] ∧ H a = some (.lst (iz row)) ∧ H b = some (.lst (iz head)) ∧ row.length = head.length ∧ pl < row.length ∧ row.length ≤ 1000 ∧
  Lin.fn head pl ≠ 0 ∧ Lin.Bd 6000 row ∧ Lin.Bd 6000 head ∧ Ret none (fun v H' => ∃ p, v = .ref p ∧ (p = a ∨ H p = none) ∧ H' p = some (.lst (iz (Lin.lessL row head pl)))) H Q
theorem l__law_less {vs : List V} {H : Hp} {Q : VK} {E : XK} (h : sp_less K vs H Q E) : vs.length = 3 := by
  obtain ⟨a, b, row, head, pl, rfl, _⟩ := h
  rfl
abbrev s__law_less : Stmt := top 64
abbrev N__law_less : List Str := ["_law_row", "_law_head", "_law_place", "_law_one", "_law_other", "_law_part", "_law_found", "_law_entry", "_law_taken", "_law_shared_here"]
theorem sc__law_less : FnScope N__law_less ["_law_row", "_law_head", "_law_place"] (defScope s__law_less) := ⟨rfl, rfl, rfl, by decide +kernel, rfl, by decide +kernel, by decide +kernel⟩
theorem d__law_less (B : Bt mg)  (c__law_shared : Cal P w K mg base 2 "_law_shared" (sp_shared K)) (c__law_gcd : Cal P w K mg base 1 "_law_gcd" (sp_gcd K)) (D : Dd K mg "_law_less" s__law_less) : Cal P w K mg base 3 "_law_less" (sp_less K) := by
  refine D.cal sc__law_less (fun _ _ _ _ _ _ us hl => match us, hl with | [_, _, _], _ => rfl) (fun vs H Q E h => ?_) (fun _ cdv A outer s H vs Q E hr h => ?_)
  · exact l__law_less h
  have nd := sc__law_less.nd
  refine ⟨_, (pss_cons (ps_asg (pe_tup (pa_cons (pe_ix (ixl_K K) (pv 1) (pv 2) (fun _ _ => rfl)) (pa_cons (pe_ix (ixl_K K) (pv 0) (pv 2) (fun _ _ => rfl)) pa_nil))) (pg_tup_K K 2 rfl (pgs_cons (pg_name (i := 3) nd rfl (Or.inr rfl) (Or.inl rfl)) (pgs_cons (pg_name (i := 4) nd rfl (Or.inr rfl) (Or.inl rfl)) pgs_nil)))) (pss_cons (ps_set (i := 5) nd rfl (Or.inr rfl) (pc c__law_gcd hr rfl (pa_cons (pv 3) (pa_cons (pv 4) pa_nil)))) (pss_cons (ps_setLc (i := 6) (own := [("_law_entry", 7), ("_law_taken", 8)]) rfl nd rfl rfl (sw_true rfl rfl rfl (by decide +kernel)) (RZ.pi_zipA rfl B.zip (pa_cons (pv 0) (pa_cons (pv 1) pa_nil))) (blkOk_by (N := N__law_less) (sc := defScope s__law_less) (by decide +kernel)) (fun _ _ _ _ _ => (pg_tup_K K 2 rfl (pgs_cons (pg_name (i := 7) nd rfl (Or.inl rfl) (Or.inr rfl)) (pgs_cons (pg_name (i := 8) nd rfl (Or.inl rfl) (Or.inr rfl)) pgs_nil)))) (fun _ _ _ _ _ => pts_nil) (fun _ _ _ _ _ => (pe_op op_sub (pe_op op_mulW (pv 7) (pe_op op_fdivC (pv 3) (pv 5))) (pe_op op_mulW (pe_op op_fdivC (pv 4) (pv 5)) (pv 8))))) (pss_cons (ps_set (i := 9) nd rfl (Or.inr rfl) (pc c__law_shared hr rfl (pa_cons (pv 6) pa_nil))) (pss_one (ps_ret (pe_ifExp (pt_cmpR op_gt (pv 9) pe_int (nomark _)) (pe_lc (own := [("_law_entry", 7)]) rfl nd (pi_list_K K (pv 6)) (blkOk_by (N := N__law_less) (sc := defScope s__law_less) (by decide +kernel)) (fun _ _ _ _ _ => (pg_name (i := 7) nd rfl (Or.inl rfl) (Or.inr rfl))) (fun _ _ _ _ _ => pts_nil) (fun _ _ _ _ _ => (pe_op op_fdivC (pv 7) (pv 9)))) (pv 6)))))))), ?_⟩
  obtain ⟨a, b, row, head, pl, rfl, ha, hb, hl, hp, hz, hh, B1, B2, hQ⟩ := h
  refine ⟨_, rfl, _, rfl, b, _, _, _, rfl, rfl, SqL.of hb, iz_at (by omega), _, rfl, _, rfl, a, _, _, _, rfl, rfl, SqL.of ha, iz_at hp, by show 2 ≤ sizeLine; exact sz_le (by decide), fun t ht => ?_⟩
  refine ⟨t, _, rfl, SqT.of upd_same, rfl, _, _, rfl, _, _, rfl, rfl, ?_⟩
  have g0 := gcd_ne (Lin.fn row pl) hh
  refine ⟨_, rfl, _, rfl, _, _, rfl, ?_⟩
  have k1 : Kp none H (upd H t (.tup [.int (Lin.fn head pl), .int (Lin.fn row pl)])) := Kp.new ht
  have ha1 := k1.l ha
  have hb1 := k1.l hb
  have d1 : ((Lin.fn head pl).fdiv (Nat.gcd (Lin.fn head pl).natAbs (Lin.fn row pl).natAbs : Nat)).natAbs < 2 ^ 6000 := Nat.lt_of_le_of_lt (Lin.fdiv_le _ _ g0 (by have := Nat.gcd_dvd_left (Lin.fn head pl).natAbs (Lin.fn row pl).natAbs; exact Int.ofNat_dvd_left.mpr this)) (B2 pl)
  have d2 : ((Lin.fn row pl).fdiv (Nat.gcd (Lin.fn head pl).natAbs (Lin.fn row pl).natAbs : Nat)).natAbs < 2 ^ 6000 := Nat.lt_of_le_of_lt (Lin.fdiv_le _ _ g0 (by have := Nat.gcd_dvd_right (Lin.fn head pl).natAbs (Lin.fn row pl).natAbs; exact Int.ofNat_dvd_left.mpr this)) (B1 pl)
  generalize hW : (upd H t (.tup [.int (Lin.fn head pl), .int (Lin.fn row pl)])) = H1 at k1 ha1 hb1
  refine ⟨_, rfl, _, rfl, a, b, _, _, rfl, .inl ⟨SqL.of ha1, SqL.of hb1, fun D hD => ?_⟩⟩
  refine lc_map (σ := [some (.ref a), some (.ref b), some (.int pl), some (.int (Lin.fn head pl)), some (.int (Lin.fn row pl)), some (.int (Nat.gcd (Lin.fn head pl).natAbs (Lin.fn row pl).natAbs : Nat)), none, none, none, none]) (vs := [7, 8]) (wk_zip (d := none) ha1 hb1) hD (by simp) (by rw [iz_len, iz_len]; omega) (fun _ _ => True)
    (fun i v _ => v = .int (Lin.fn row i * (Lin.fn head pl).fdiv (Nat.gcd (Lin.fn head pl).natAbs (Lin.fn row pl).natAbs : Nat) - (Lin.fn row pl).fdiv (Nat.gcd (Lin.fn head pl).natAbs (Lin.fn row pl).natAbs : Nat) * Lin.fn head i)) trivial (fun _ _ _ _ => trivial) (fun _ _ _ _ _ e => e) (fun i x H2 H3 hi k2 _ _ y R hR => ?_) (fun H2 ys k2 _ hD2 hlen hz2 => ?_)
  · obtain ⟨T, x1, y1, rfl, hT, rfl, h1, h2⟩ := y
    obtain ⟨n1, hn1, rfl⟩ := ints_get h1
    obtain ⟨n2, hn2, rfl⟩ := ints_get h2
    refine ⟨T, _, rfl, SqT.of upd_same, rfl, _, _, rfl, _, _, rfl, rfl, wipe2, ?_⟩
    refine ⟨_, rfl, _, rfl, _, rfl, _, _, rfl, rfl, cd6 g0 (B2 pl), _, _, rfl, rfl, cm6 (bd_in B1 (List.mem_of_getElem? hn1)) d1, _, rfl, _, rfl, _, _, rfl, rfl, cd6 g0 (B1 pl), _, rfl, _, _, rfl, rfl, cm6 d2 (bd_in B2 (List.mem_of_getElem? hn2)), _, _, rfl, rfl, hR _ _ (Kp.new hT) trivial fun o => ?_⟩
    rw [getI hn1, getI hn2]
  · have e1 := ints_of hlen hz2
    rw [range_zip (fun e t => e * (Lin.fn head pl).fdiv (Nat.gcd (Lin.fn head pl).natAbs (Lin.fn row pl).natAbs : Nat) - (Lin.fn row pl).fdiv (Nat.gcd (Lin.fn head pl).natAbs (Lin.fn row pl).natAbs : Nat) * t) _ (by rw [iz_len, iz_len])] at e1
    rw [e1, show List.zipWith _ row head = Lin.mixed row head pl from rfl] at hD2
    have Bm : Lin.Bd 13400 (Lin.mixed row head pl) := Lin.mixed_bd hl hh B1 B2 (by decide)
    have lm : (Lin.mixed row head pl).length ≤ 1000 := by unfold Lin.mixed; rw [List.length_zipWith]; omega
    have hD0 : H D = none := k1.fr D hD
    have hres : Lin.lessL row head pl = Lin.tidy (Lin.mixed row head pl) := rfl
    refine ⟨_, rfl, D, _, rfl, .inl hD2, ?_⟩
    by_cases hs : 1 < (Lin.shN (Lin.mixed row head pl) : Int)
    · refine ⟨_, rfl, _, _, rfl, rfl, _, rfl, ifT (decide_eq_true hs) ?_⟩
      refine ⟨_, rfl, D, rfl, ⟨_, SqL.of hD2⟩, fun D2 hD3 => ?_⟩
      refine lc_map (σ := [some (.ref a), some (.ref b), some (.int pl), some (.int (Lin.fn head pl)), some (.int (Lin.fn row pl)), some (.int (Nat.gcd (Lin.fn head pl).natAbs (Lin.fn row pl).natAbs : Nat)), some (.ref D), none, none, some (.int (Lin.shN (Lin.mixed row head pl)))]) (vs := [7]) (wk_list (d := none) hD2) hD3 (by simp) (by rw [iz_len]; omega) (fun _ _ => True) (fun i v _ => v = .int ((Lin.fn (Lin.mixed row head pl) i).fdiv (Lin.shN (Lin.mixed row head pl) : Int))) trivial (fun _ _ _ _ => trivial) (fun _ _ _ _ _ e => e) (fun i x H4 H5 hi k4 _ _ y R hR => ?_) (fun H4 ys k4 _ hD4 hlen4 hz4 => ?_)
      · obtain ⟨rfl, hx⟩ := y
        obtain ⟨n, hn, rfl⟩ := ints_get hx
        refine ⟨wipe1, _, rfl, _, rfl, _, _, rfl, rfl, divc_of (by omega) (bd_in Bm (List.mem_of_getElem? hn)), hR _ _ .refl trivial fun o => ?_⟩
        rw [getI hn]
      · refine hQ _ _ ((k1.trans k2).trans k4) ⟨D2, rfl, .inr ((k1.trans k2).fr D2 hD3), ?_⟩
        rw [hD4, ints_of hlen4 hz4, iz_len, range_fn (fun e => e.fdiv (Lin.shN (Lin.mixed row head pl) : Int)), hres]
        unfold Lin.tidy
        rw [if_pos hs]
    · refine ⟨_, rfl, _, _, rfl, rfl, _, rfl, ifF (decide_eq_false hs) ?_⟩
      refine ⟨_, rfl, hQ _ _ (k1.trans k2) ⟨D, rfl, .inr hD0, ?_⟩⟩
      rw [hD2, hres]
      unfold Lin.tidy
      rw [if_neg hs]
theorem lessL_comp {H0 : Hp} {X hp : Addr} {ps : List Addr} {rs : List (List Int)} {head : List Int} {pl n : Nat} (hX : H0 X = some (.lst (ps.map V.ref))) (t : TabL H0 ps rs) (hh : H0 hp = some (.lst (iz head))) (hl : ∀ r ∈ rs, r.length = n) (hhl : head.length = n) (hpl : pl < n) (hn : n ≤ 1000) (hm : rs.length ≤ 1000)
    (h0 : Lin.fn head pl ≠ 0) (Bh : Lin.Bd 6000 head) (Br : ∀ r ∈ rs, Lin.Bd 6000 r) {z0 z1 z2 z3 z4 z6 z7 : Option V} {D : Addr} (hD : H0 D = none) {Qd : Hp → Prop}
    (hd : ∀ H2 qs, Kp none H0 H2 → H2 D = some (.lst (qs.map V.ref)) → TabL H2 qs (rs.map fun r => Lin.lessL r head pl) → Qd H2) :
    ∃ W : Nat → Nat → Hp → Prop, (∃ m, W 0 m (upd H0 D (.lst []))) ∧ ∀ i m H, W i m H →
      ((Itl K X).stop i H ∧ Qd H) ∨ ((Itl K X).go i H ∧ ∃ Nx : Hp → Prop, (∀ H', Nx H' → ∃ m', m' < m ∧ W (i + 1) m' H') ∧ ∀ x H', (Itl K X).yld i H x H' → gName 4 x (wipe [z0, z1, z2, z3, z4, some (.int pl), z6, z7, some (.ref hp)] [4]) H' fun σ2 H2 => wipe σ2 [4] = wipe [z0, z1, z2, z3, z4, some (.int pl), z6, z7, some (.ref hp)] [4] ∧ tYes σ2 H2 fun b H3 =>
        if b = true then tCall (sp_less K) [] E0 (tCons (tVar 4) (tCons (tVar 8) (tCons (tVar 5) tNil))) σ2 H3 fun y H4 => ∃ acc, H4 D = some (.lst acc) ∧ acc.length < sizeLine ∧ Nx (upd H4 D (.lst (acc ++ [y]))) else Nx H3) := by
  refine lc_map (wk_list (d := none) hX) hD (by simp) (by rw [List.length_map]; have := t.1; omega) (fun _ _ => True) (fun i v H => ∃ p, v = .ref p ∧ H p = some (.lst (iz (Lin.lessL (rs.getD i []) head pl)))) trivial (fun _ _ _ _ => trivial)
    (fun i v H H' k z => let ⟨p, e, z⟩ := z; ⟨p, e, k.l z⟩) (fun i x H2 H3 hi k2 _ ac y R hR => ?_) (fun H2 ys k2 _ hD2 hlen hz => ?_)
  · obtain ⟨rfl, hx⟩ := y
    obtain ⟨p, hp0, rfl⟩ := refs_get hx
    obtain ⟨r, hr, hpr⟩ := t.get hp0
    have hrm := List.mem_of_getElem? hr
    refine ⟨wipe1, _, rfl, _, rfl, _, rfl, p, hp, r, head, pl, rfl, k2.l hpr, k2.l hh, by rw [hl r hrm, hhl], by rw [hl r hrm]; exact hpl, by rw [hl r hrm]; exact hn, h0, Br r hrm, Bh, fun v H4 k4 z4 => ?_⟩
    obtain ⟨q, rfl, hq, hq4⟩ := z4
    refine hR _ _ k4 trivial fun o => ⟨q, rfl, ?_⟩
    obtain ⟨acc, hacc⟩ := ac
    have ne : q ≠ D := by
      rcases hq with rfl | hq
      · exact ne_of_none hpr hD
      · exact fun z => by rw [z, hacc] at hq; cases hq
    rw [upd_ne ne, getD_of hr]
    exact hq4
  · obtain ⟨qs, rfl, tq⟩ := tab_of (f := fun i => Lin.lessL (rs.getD i []) head pl) hlen hz
    refine hd H2 qs k2 hD2 ?_
    rw [List.length_map, t.1, rng_rows (fun r => Lin.lessL r head pl)] at tq
    exact tq
def sp_cleared (K : PySem.W.Frag) : Sp := fun vs H Q _ => ∃ (a : Addr) (ps : List Addr) (rs : List (List Int)) (wd : Nat), vs = [.ref a, .int wd] ∧ H a = some (.lst (ps.map V.ref)) ∧ TabA H ps rs ∧ (∀ r ∈ rs, r.length = wd) ∧ 0 < wd ∧ wd ≤ 1000 ∧ rs.length ≤ 1000 ∧
  Lin.Fits Lin.lessL rs wd 6000 ∧ Ret none (NewTabT H (Lin.echelon Lin.lessL rs wd)) H Q
theorem l__law_cleared {vs : List V} {H : Hp} {Q : VK} {E : XK} (h : sp_cleared K vs H Q E) : vs.length = 2 := by
  obtain ⟨a, ps, rs, wd, rfl, _⟩ := h
  rfl
abbrev s__law_cleared : Stmt := top 63
abbrev N__law_cleared : List Str := ["_law_rows", "_law_width", "_law_left", "_law_found", "_law_row", "_law_place", "_law_heads", "_law_at", "_law_head"]
theorem sc__law_cleared : FnScope N__law_cleared ["_law_rows", "_law_width"] (defScope s__law_cleared) := ⟨rfl, rfl, rfl, by decide +kernel, rfl, by decide +kernel, by decide +kernel⟩
theorem d__law_cleared (B : Bt mg)  (c__law_plain : Cal P w K mg base 3 "_law_plain" (sp_plain K)) (c__law_less : Cal P w K mg base 3 "_law_less" (sp_less K)) (D : Dd K mg "_law_cleared" s__law_cleared) : Cal P w K mg base 4 "_law_cleared" (sp_cleared K) := by
  refine D.cal sc__law_cleared (fun _ _ _ _ _ _ us hl => match us, hl with | [_, _], _ => rfl) (fun vs H Q E h => ?_) (fun _ cdv A outer s H vs Q E hr h => ?_)
  · exact l__law_cleared h
  have nd := sc__law_cleared.nd
  refine ⟨_, (pss_cons (ps_par (i := 2) (j := 3) rfl nd rfl rfl (by decide) rfl rfl (pa_cons (pe_lc (own := [("_law_row", 4)]) rfl nd (pi_list_K K (pv 0)) (blkOk_by (N := N__law_cleared) (sc := defScope s__law_cleared) (by decide +kernel)) (fun _ _ _ _ _ => (pg_name (i := 4) nd rfl (Or.inl rfl) (Or.inr rfl))) (fun _ _ _ _ _ => pts_nil) (fun _ _ _ _ _ => (pe_callTy (list_K K) rfl B.list (by decide +kernel) (pa_cons (pv 4) pa_nil)))) (pa_cons (pe_lst pa_nil) pa_nil)) rfl) (pss_cons (ps_for PassesOwn.never rfl (pi_range1 rfl B.range (pa_cons (pv 1) pa_nil)) (pg_name (i := 5) nd rfl (Or.inr rfl) (Or.inl rfl)) (pss_cons (ps_setLc (i := 6) (own := [("_law_at", 7), ("_law_row", 4)]) rfl nd rfl rfl (sw_true rfl rfl rfl (by decide +kernel)) (pi_enum_K K rfl B.enumerate (pa_cons (pv 2) pa_nil)) (blkOk_by (N := N__law_cleared) (sc := defScope s__law_cleared) (by decide +kernel)) (fun _ _ _ _ _ => (pg_tup_K K 2 rfl (pgs_cons (pg_name (i := 7) nd rfl (Or.inl rfl) (Or.inr rfl)) (pgs_cons (pg_name (i := 4) nd rfl (Or.inl rfl) (Or.inr rfl)) pgs_nil)))) (fun _ _ _ _ _ => (pts_one (pt_cmpR op_ne (pe_ix (ixl_K K) (pv 4) (pv 5) (fun _ _ => rfl)) pe_int (nomark _)))) (fun _ _ _ _ _ => (pv 7))) (pss_one (ps_if (pt_cmpR (op_neD hr.units) (pv 6) (pe_lst pa_nil) (nomark _)) (pss_cons (ps_set (i := 8) nd rfl (Or.inr rfl) (pe_bm PySem.F.plainAttrs_list PySem.F.slot_list_pop PySem.F.type_list_pop mt_popAt (pv 2) (pa_cons (pe_ix (ixl_K K) (pv 6) pe_int (fun _ _ => rfl)) pa_nil))) (pss_cons (ps_set (i := 3) nd rfl (Or.inl rfl) (pe_op op_cat (pe_lc (own := [("_law_row", 4)]) rfl nd (pi_list_K K (pv 3)) (blkOk_by (N := N__law_cleared) (sc := defScope s__law_cleared) (by decide +kernel)) (fun _ _ _ _ _ => (pg_name (i := 4) nd rfl (Or.inl rfl) (Or.inr rfl))) (fun _ _ _ _ _ => pts_nil) (fun _ _ _ _ _ => (pc c__law_less hr rfl (pa_cons (pv 4) (pa_cons (pv 8) (pa_cons (pv 5) pa_nil)))))) (pe_lst (pa_cons (pv 8) pa_nil)))) (pss_one (ps_setLc (i := 2) (own := [("_law_row", 4)]) rfl nd rfl rfl (sw_true rfl rfl rfl (by decide +kernel)) (pi_list_K K (pv 2)) (blkOk_by (N := N__law_cleared) (sc := defScope s__law_cleared) (by decide +kernel)) (fun _ _ _ _ _ => (pg_name (i := 4) nd rfl (Or.inl rfl) (Or.inr rfl))) (fun _ _ _ _ _ => pts_nil) (fun _ _ _ _ _ => (pc c__law_less hr rfl (pa_cons (pv 4) (pa_cons (pv 8) (pa_cons (pv 5) pa_nil))))))))) pss_nil)))) (pss_one (ps_ret (pe_lc (own := [("_law_row", 4)]) rfl nd (pi_list_K K (pv 3)) (blkOk_by (N := N__law_cleared) (sc := defScope s__law_cleared) (by decide +kernel)) (fun _ _ _ _ _ => (pg_name (i := 4) nd rfl (Or.inl rfl) (Or.inr rfl))) (fun _ _ _ _ _ => pts_nil) (fun _ _ _ _ _ => (pc c__law_plain hr rfl (pa_cons (pe_callTy (tuple_K K) rfl B.tuple (by decide +kernel) (pa_cons (pv 4) pa_nil)) pa_nil)))))))), ?_⟩
  obtain ⟨a, ps, rs, wd, rfl, ha, ht, hw, h0, h1, hm, hF, hQ⟩ := h
  refine ⟨_, rfl, a, rfl, ⟨_, SqL.of ha⟩, fun L hL => lc_map (σ := [some (.ref a), some (.int wd), none, none, none, none, none, none, none]) (vs := [4]) (wk_list (d := none) ha) hL (by simp) (by rw [List.length_map]; have := ht.1; omega) (fun _ _ => True) (fun i v H => ∃ p, v = .ref p ∧ H p = some (.lst (iz (rs.getD i [])))) trivial (fun _ _ _ _ => trivial)
    (fun i v H H' k z => let ⟨p, e, z⟩ := z; ⟨p, e, k.l z⟩) (fun i x H2 H3 hi k2 _ ac y R hR => ?_) (fun H2 ys k2 _ hD2 hlen hz => ?_)⟩
  · obtain ⟨rfl, hx⟩ := y
    obtain ⟨p, hp0, rfl⟩ := refs_get hx
    have hi2 := (List.getElem?_eq_some_iff.mp hp0).1
    obtain ⟨r, hr⟩ : ∃ r, rs[i]? = some r := ⟨_, List.getElem?_eq_getElem (by have := ht.1; omega : i < rs.length)⟩
    obtain ⟨acc, hacc⟩ := ac
    have go : ∀ l, H3 l = none → R (.ref l) (upd H3 l (.lst (iz r))) := fun l hl => by
      refine hR _ _ (Kp.new hl) trivial fun o => ⟨l, rfl, ?_⟩
      rw [upd_ne (fun z => by rw [z, hacc] at hl; cases hl), upd_same, getD_of hr]
    rcases ht.2 i p _ hp0 hr with q | q
    · exact ⟨wipe1, _, rfl, p, _, rfl, .inl (SqL.of (k2.l q)), go⟩
    · exact ⟨wipe1, _, rfl, p, _, rfl, .inr (SqT.of (k2.t q)), go⟩
  obtain ⟨lps, rfl, tl⟩ := tab_of (f := fun i => rs.getD i []) hlen hz
  rw [List.length_map, ht.1, rng_rows (fun r => r), List.map_id'] at tl
  refine ⟨sz_le (by decide), fun F hF0 => ?_⟩
  have k3 : Kp none H (upd H2 F (.lst [])) := k2.trans (Kp.new hF0)
  have nLF : L ≠ F := ne_of_none hD2 hF0
  refine ⟨_, _, rfl, ?_⟩
  refine ⟨_, rfl, wd, rfl, by omega, by omega, ?_⟩
  have J := Lin.run_len Lin.growsL hw
  refine for_it (n := wd) (wk_range (d := none) (H1 := H)) (fun i σ H' => ∃ (L F : Addr) (lps fps : List Addr) (z4 z5 z6 z7 z8 : Option V), σ = [some (.ref a), some (.int wd), some (.ref L), some (.ref F), z4, z5, z6, z7, z8] ∧ Kp none H H' ∧ H L = none ∧ F ≠ L ∧ H' L = some (.lst (lps.map V.ref)) ∧ H' F = some (.lst (fps.map V.ref)) ∧
    TabL H' lps (Lin.run Lin.lessL rs i).1 ∧ TabL H' fps (Lin.run Lin.lessL rs i).2) ⟨L, F, lps, [], none, none, none, none, none, rfl, k3, hL, nLF.symm, by rw [upd_ne nLF]; exact hD2, upd_same, tl.keep (Kp.new (d := none) hF0), rfl, fun i p r hp => by simp at hp⟩
    (fun i σ H' _ p => by obtain ⟨_, _, _, _, _, _, _, _, _, _, k, _⟩ := p; exact k) (fun i x σ H4 H5 hi p y => ?_) (fun σ H4 p => ?_)
  · obtain ⟨rfl, rfl⟩ := y
    clear hz hlen hD2 tl k2 k3 nLF hF0
    clear hL L F lps
    obtain ⟨L, F, lps, fps, z4, z5, z6, z7, z8, rfl, k4, hL, nFL, eL, eF, t1, t2⟩ := p
    obtain ⟨j1, j2, j3⟩ := J i (by omega)
    have Fi := hF i (by omega)
    have e0 : (0 : Int) + (i : Int) = (i : Int) := Int.zero_add _
    show tSeq _ _ _ [some (.ref a), some (.int wd), some (.ref L), some (.ref F), z4, some (.int ((0 : Int) + (i : Int))), z6, z7, z8] H5
    rw [e0]
    refine ⟨_, rfl, L, _, rfl, SqL.of eL, fun D hD => lc_filter (σ := [some (.ref a), some (.int wd), some (.ref L), some (.ref F), z4, some (.int (i : Int)), z6, z7, z8]) (vs := [7, 4]) (wk_enum (d := none) eL) hD (by simp) (by rw [List.length_map, t1.1]; omega) (fun j => decide (Lin.fn ((Lin.run Lin.lessL rs i).1.getD j []) i ≠ 0)) (fun j => (j : Int)) (fun j x H2 H3 hj k2 y KK NN hK hN => ?_) (fun H2 k2 hD2 => ?_)⟩
    · obtain ⟨T, x1, y1, rfl, hT, rfl, h1', h2'⟩ := y
      cases h1'
      obtain ⟨p, hp0, rfl⟩ := refs_get h2'
      obtain ⟨r, hr, hpr⟩ := t1.get hp0
      have hrl : r.length = wd := j1 r (.inl (List.mem_of_getElem? hr))
      have kT : Kp none H2 (upd H2 T (.tup [.int (j : Nat), .ref p])) := Kp.new hT
      refine ⟨T, _, rfl, SqT.of upd_same, rfl, _, _, rfl, _, _, rfl, rfl, wipe2, ?_⟩
      refine ⟨_, rfl, _, rfl, p, _, _, _, rfl, rfl, SqL.of ((k2.trans kT).l hpr), iz_at (i := i) (by omega), rfl, _, rfl, ?_⟩
      by_cases z : Lin.fn r i = 0
      · rw [eqT z]
        exact hN _ kT (decide_eq_false (by rw [getD_of hr]; exact fun q => q z))
      · rw [eqF z]
        exact ⟨_, rfl, hK _ kT (decide_eq_true (by rw [getD_of hr]; exact z))⟩
    rw [List.length_map, t1.1, show pick _ _ _ = hdPick (Lin.run Lin.lessL rs i).1 i from rfl] at hD2
    refine ⟨_, rfl, sz_le (by decide), fun e he => ?_⟩
    have ke : Kp none H2 (upd H2 e (.lst [])) := Kp.new he
    refine ⟨_, _, .lst (SqL.of (ke.l hD2)) (dp_iz _ _), .lst (SqL.of upd_same) (dp_iz _ []), shp_lI _, shp_lI _, _, rfl, ?_⟩
    have k6 : Kp none H5 (upd H2 e (.lst [])) := k2.trans ke
    have hD6 := ke.l hD2
    generalize hH6 : upd H2 e (.lst []) = H6 at k6 hD6
    rw [show PyData.eqv (.list (dI (hdPick (Lin.run Lin.lessL rs i).1 i))) (.list (dI [])) = decide (hdPick (Lin.run Lin.lessL rs i).1 i = []) by rw [← eqv_I]; simp only [PyData.eqv]]
    cases hk : (Lin.run Lin.lessL rs i).1.findIdx? (fun row => decide (row.getD i 0 ≠ 0)) with
    | none =>
      have hs : Lin.run Lin.lessL rs (i + 1) = Lin.run Lin.lessL rs i := by
        rw [Lin.run_succ]
        unfold Lin.step
        rw [hk]
      refine ifF (by rw [hd_none hk]; rfl) ?_
      exact ⟨L, F, lps, fps, _, _, _, _, _, rfl, k4.trans k6, hL, nFL, k6.l eL, k6.l eF, by rw [hs]; exact t1.keep k6, by rw [hs]; exact t2.keep k6⟩
    | some k =>
      obtain ⟨q1, q2, q3⟩ := List.findIdx?_eq_some_iff_getElem.mp hk
      have hpk := hd_some hk
      have hhead : (Lin.run Lin.lessL rs i).1[k]? = some ((Lin.run Lin.lessL rs i).1.getD k []) := by rw [getD_of (List.getElem?_eq_getElem q1)]; exact List.getElem?_eq_getElem q1
      have hs : Lin.run Lin.lessL rs (i + 1) = (((Lin.run Lin.lessL rs i).1.eraseIdx k).map (fun row => Lin.lessL row ((Lin.run Lin.lessL rs i).1.getD k []) i), (Lin.run Lin.lessL rs i).2.map (fun row => Lin.lessL row ((Lin.run Lin.lessL rs i).1.getD k []) i) ++ [(Lin.run Lin.lessL rs i).1.getD k []]) := by
        rw [Lin.run_succ]
        unfold Lin.step
        rw [hk]
      generalize (Lin.run Lin.lessL rs i).1.getD k [] = head at hhead hs
      have hhm := List.mem_of_getElem? hhead
      have hh0 : Lin.fn head i ≠ 0 := by
        have := List.getElem?_eq_some_iff.mp hhead
        obtain ⟨_, e⟩ := this
        rw [e] at q2
        simpa [Lin.fn] using q2
      have hhl : head.length = wd := j1 head (.inl hhm)
      have hkl : k < lps.length := by rw [t1.1]; exact q1
      have hpp : lps[k]? = some lps[k] := List.getElem?_eq_getElem hkl
      generalize lps[k] = hp at hpp
      have hhp := t1.2 k hp head hpp hhead
      have t16 := t1.keep k6
      have t26 := t2.keep k6
      have off1 := t16.off h0 (fun r hr => j1 r (.inl hr)) (k6.l eL)
      have off2 := t26.off h0 (fun r hr => j1 r (.inr hr)) (k6.l eL)
      refine ifT (by rw [decide_eq_false (fun z => by rw [z] at hpk; cases hpk)]; rfl) ?_
      refine ⟨_, rfl, .inl ⟨rfl, _, SqL.of (k6.l eL)⟩, _, rfl, D, _, _, _, rfl, rfl, SqL.of hD6, atI_nat (j := 0) (v := V.int (k : Int)) (by rw [List.getElem?_map, hpk]; rfl), ?_⟩
      refine ⟨L, _, (k : Int), k, .ref hp, rfl, rfl, k6.l eL, by omega, by omega, by rw [seqIndex_at (by omega) (by rw [List.length_map]; omega)]; rfl, by rw [List.getElem?_map, hpp]; rfl, ?_⟩
      have k7 : Kp none H (upd H6 L (.lst ((lps.map V.ref).eraseIdx k))) := (k4.trans k6).mut hL
      have eL7 : (upd H6 L (.lst ((lps.map V.ref).eraseIdx k))) L = some (.lst ((lps.eraseIdx k).map V.ref)) := by rw [upd_same, map_erase]
      have eF7 : (upd H6 L (.lst ((lps.map V.ref).eraseIdx k))) F = some (.lst (fps.map V.ref)) := by rw [upd_ne nFL]; exact k6.l eF
      have t17 : TabL (upd H6 L (.lst ((lps.map V.ref).eraseIdx k))) (lps.eraseIdx k) ((Lin.run Lin.lessL rs i).1.eraseIdx k) := (t16.upd off1).erase k
      have t27 : TabL (upd H6 L (.lst ((lps.map V.ref).eraseIdx k))) fps (Lin.run Lin.lessL rs i).2 := t26.upd off2
      have hp7 : (upd H6 L (.lst ((lps.map V.ref).eraseIdx k))) hp = some (.lst (iz head)) := by rw [upd_ne (off1 hp (List.mem_of_getElem? hpp))]; exact k6.l hhp
      generalize upd H6 L (.lst ((lps.map V.ref).eraseIdx k)) = H7 at k7 eL7 eF7 t17 t27 hp7
      have Bh : Lin.Bd 6000 head := Fi head (.inl hhm)
      refine ⟨_, rfl, F, rfl, ⟨_, SqL.of eF7⟩, fun D2 hD2' => lessL_comp (n := wd) eF7 t27 hp7 (fun r hr => j1 r (.inr hr)) hhl hi h1 (by omega) hh0 Bh (fun r hr => Fi r (.inr hr)) hD2' fun H8 qs k8 e8 t8 => ?_⟩
      have hlq := t8.1
      rw [List.length_map] at hlq
      have kE0 : ∀ E2, H8 E2 = none → Kp none H8 (upd H8 E2 (.lst [.ref hp])) := fun E2 h => Kp.new h
      refine ⟨_, rfl, sz_le (by show 1 ≤ 1000000; decide), fun E2 hE2 => ⟨D2, E2, _, _, rfl, rfl, (kE0 E2 hE2).l e8, upd_same, sz_le (by simp; omega), fun F2 hF2 => ?_⟩⟩
      have kE := kE0 E2 hE2
      generalize upd H8 E2 (.lst [.ref hp]) = HE at kE hF2
      have k9 : Kp none H8 (upd HE F2 (.lst (qs.map V.ref ++ [.ref hp]))) := kE.trans (Kp.new hF2)
      have eF9 : (upd HE F2 (.lst (qs.map V.ref ++ [.ref hp]))) F2 = some (.lst ((qs ++ [hp]).map V.ref)) := by rw [upd_same, List.map_append]; rfl
      have t9 := (t8.keep k9).snoc (k9.l (k8.l hp7))
      have eL9 := k9.l (k8.l eL7)
      have t19 := (t17.keep k8).keep k9
      have hp9 := k9.l (k8.l hp7)
      have k79 := k8.trans k9
      generalize upd HE F2 (.lst (qs.map V.ref ++ [.ref hp])) = H9 at k9 eF9 t9 eL9 t19 hp9 k79
      refine ⟨_, rfl, L, rfl, ⟨_, SqL.of eL9⟩, fun D3 hD3 => lessL_comp (n := wd) eL9 t19 hp9 (fun r hr => j1 r (.inl (List.mem_of_mem_eraseIdx hr))) hhl hi h1 (by have := List.length_eraseIdx_le (Lin.run Lin.lessL rs i).1 k; omega) hh0 Bh (fun r hr => Fi r (.inl (List.mem_of_mem_eraseIdx hr))) hD3 fun H10 qs2 k10 e10 t10 => ?_⟩
      refine ⟨D3, F2, qs2, qs ++ [hp], _, _, _, _, _, rfl, (k7.trans k79).trans k10, (k7.trans k79).fr D3 hD3, (fun z => by rw [← z, eF9] at hD3; cases hD3), e10, k10.l eF9, ?_, ?_⟩
      · rw [hs]; exact t10
      · rw [hs]; exact t9.keep k10
  · clear hz hlen hD2 tl k2 k3 nLF hF0
    clear hL L F lps
    obtain ⟨L, F, lps, fps, z4, z5, z6, z7, z8, rfl, k4, hL, nFL, eL, eF, t1, t2⟩ := p
    obtain ⟨j1, j2, j3⟩ := J wd (Nat.le_refl _)
    have Fi := hF wd (Nat.le_refl _)
    refine ⟨_, rfl, F, rfl, ⟨_, SqL.of eF⟩, fun D hD => lc_map (σ := [some (.ref a), some (.int wd), some (.ref L), some (.ref F), z4, z5, z6, z7, z8]) (vs := [4]) (wk_list (d := none) eF) hD (by simp) (by rw [List.length_map, t2.1]; omega) (fun _ _ => True) (fun i v H => ∃ p, v = .ref p ∧ H p = some (.tup (iz (Lin.prim ((Lin.run Lin.lessL rs wd).2.getD i []))))) trivial (fun _ _ _ _ => trivial)
      (fun i v H H' k z => let ⟨p, e, z⟩ := z; ⟨p, e, k.t z⟩) (fun i x H2 H3 hi k2 _ ac y R hR => ?_) (fun H2 ys k2 _ hD2 hlen hz => ?_)⟩
    · obtain ⟨rfl, hx⟩ := y
      obtain ⟨p, hp0, rfl⟩ := refs_get hx
      obtain ⟨r, hr, hpr⟩ := t2.get hp0
      have hrm := List.mem_of_getElem? hr
      obtain ⟨acc, hacc⟩ := ac
      refine ⟨wipe1, _, rfl, p, _, rfl, .inl ⟨SqL.of (k2.l hpr), fun l hl => ?_⟩⟩
      have kl : Kp none H3 (upd H3 l (.tup (iz r))) := Kp.new hl
      refine ⟨l, r, rfl, upd_same, by rw [j1 r (.inr hrm)]; exact h1, fun n hn => lt_bits (a := 6000) (b := 13400) (bd_in (Fi r (.inr hrm)) hn) (by decide), fun v H4 k4 z4 => ?_⟩
      obtain ⟨q, rfl, hq, hq4⟩ := z4
      refine hR _ _ (kl.trans k4) trivial fun o => ⟨q, rfl, ?_⟩
      have qD : q ≠ D := by
        rcases hq with rfl | hq
        · exact (ne_of_none hacc hl).symm
        · exact (ne_of_none (kl.l hacc) hq).symm
      rw [upd_ne qD, getD_of hr]
      exact hq4
    · obtain ⟨qs, rfl, tq⟩ := tabT_of (f := fun i => Lin.prim ((Lin.run Lin.lessL rs wd).2.getD i [])) hlen hz
      refine hQ _ _ (k4.trans k2) ⟨D, qs, rfl, k4.fr D hD, hD2, ?_⟩
      rw [List.length_map, t2.1, rng_rows Lin.prim] at tq
      exact tq
end
end W0
/-! ## W19 -/
set_option Elab.async false
set_option linter.all false
set_option maxRecDepth 100000
set_option maxHeartbeats 4000000
namespace W0
open PySem PySem.Spec PyProof.Rows L2 SlX
def retE (s : Stmt) : Expr := match s with
  | .Return (some e) _ => e
  | _ => .Constant .none 0 ⟨0, 0, 0, 0⟩
def lcSc (e : Expr) : Scope := match e with
  | .ListComp _ _ sc _ => sc
  | _ => { kind := .function, names := [], isGenerator := false, isCoroutine := false }
def ifB (s : Stmt) : List Stmt := match s with
  | .If _ b _ _ => b
  | _ => []
section
variable {P : Program} {w : World} {K : PySem.W.Frag} {mg : Str → Option Value} {base : Heap}
/-! ### _law_rank, _law_leads -/
def sp_rank (K : PySem.W.Frag) : Sp := fun vs H Q _ => ∃ (a : Addr) (ps : List Addr) (rs : List (List Int)) (wd : Nat), vs = [.ref a, .int wd] ∧ H a = some (.lst (ps.map V.ref)) ∧ TabA H ps rs ∧ (∀ r ∈ rs, r.length = wd) ∧ 0 < wd ∧ wd ≤ 1000 ∧ rs.length ≤ 1000 ∧
  Lin.Fits Lin.lessL rs wd 6000 ∧ Ret none (fun v _ => v = .int ((Lin.echelon Lin.lessL rs wd).length : Nat)) H Q
theorem l__law_rank {vs : List V} {H : Hp} {Q : VK} {E : XK} (h : sp_rank K vs H Q E) : vs.length = 2 := by
  obtain ⟨a, ps, rs, wd, rfl, _⟩ := h
  rfl
abbrev s__law_rank : Stmt := top 65
abbrev N__law_rank : List Str := ["_law_rows", "_law_width"]
theorem sc__law_rank : FnScope N__law_rank ["_law_rows", "_law_width"] (defScope s__law_rank) := ⟨rfl, rfl, rfl, by decide +kernel, rfl, by decide +kernel, by decide +kernel⟩
theorem d__law_rank (B : Bt mg)  (c__law_cleared : Cal P w K mg base 4 "_law_cleared" (sp_cleared K)) (D : Dd K mg "_law_rank" s__law_rank) : Cal P w K mg base 5 "_law_rank" (sp_rank K) := by
  refine D.cal sc__law_rank (fun _ _ _ _ _ _ us hl => match us, hl with | [_, _], _ => rfl) (fun vs H Q E h => ?_) (fun _ cdv A outer s H vs Q E hr h => ?_)
  · exact l__law_rank h
  have nd := sc__law_rank.nd
  refine ⟨_, (pss_one (ps_ret (pe_callB (len_K K) rfl B.len PySem.boot_len (pa_cons (pc c__law_cleared hr rfl (pa_cons (pv 0) (pa_cons (pv 1) pa_nil))) pa_nil)))), ?_⟩
  obtain ⟨a, ps, rs, wd, rfl, ha, ht, hw, h0, h1, hm, hF, hQ⟩ := h
  refine ⟨_, rfl, _, rfl, a, ps, rs, wd, rfl, ha, ht, hw, h0, h1, hm, hF, fun v H1 k1 e1 => ?_⟩
  obtain ⟨D, qs, rfl, hD, eD, tD⟩ := e1
  refine ⟨D, _, rfl, .inl (SqL.of eD), hQ _ _ k1 ?_⟩
  rw [List.length_map, tD.1]
def sp_leads (K : PySem.W.Frag) : Sp := fun vs H Q _ => ∃ (a : Addr) (ps : List Addr) (rs : List (List Int)), vs = [.ref a] ∧ H a = some (.lst (ps.map V.ref)) ∧ TabT H ps rs ∧ rs.length ≤ 1000 ∧ (∀ r ∈ rs, r.length ≤ 1000 ∧ ∃ i, Lin.fn r i ≠ 0) ∧ Ret none (NewInts H (leadsOf rs)) H Q
theorem l__law_leads {vs : List V} {H : Hp} {Q : VK} {E : XK} (h : sp_leads K vs H Q E) : vs.length = 1 := by
  obtain ⟨a, ps, rs, rfl, _⟩ := h
  rfl
abbrev s__law_leads : Stmt := top 66
abbrev N__law_leads : List Str := ["_law_rows", "_law_at", "_law_entry", "_law_row"]
theorem sc__law_leads : FnScope N__law_leads ["_law_rows"] (defScope s__law_leads) := ⟨rfl, rfl, rfl, by decide +kernel, rfl, by decide +kernel, by decide +kernel⟩
theorem d__law_leads (B : Bt mg)   (D : Dd K mg "_law_leads" s__law_leads) : Cal P w K mg base 1 "_law_leads" (sp_leads K) := by
  refine D.cal sc__law_leads (fun _ _ _ _ _ _ us hl => match us, hl with | [_], _ => rfl) (fun vs H Q E h => ?_) (fun _ cdv A outer s H vs Q E hr h => ?_)
  · exact l__law_leads h
  have nd := sc__law_leads.nd
  refine ⟨_, (pss_one (ps_ret (pe_lc (own := [("_law_row", 3)]) rfl nd (pi_list_K K (pv 0)) (blkOk_by (N := N__law_leads) (sc := defScope s__law_leads) (by decide +kernel)) (fun _ _ _ _ _ => (pg_name (i := 3) nd rfl (Or.inl rfl) (Or.inr rfl))) (fun _ _ _ _ _ => pts_nil) (fun _ _ _ _ _ => (pe_ix (ixl_K K) (pe_lc (own := [("_law_at", 1), ("_law_entry", 2)]) rfl nd (pi_enumT_K K rfl B.enumerate (pa_cons (pv 3) pa_nil)) (blkOk_by (N := N__law_leads) (sc := relS (lcSc (retE ((defBody s__law_leads).getD 0 (.Pass ⟨0, 0, 0, 0⟩)))) (defScope s__law_leads)) (by decide +kernel)) (fun _ _ _ _ _ => (pg_tup_K K 2 rfl (pgs_cons (pg_name (i := 1) nd rfl (Or.inl rfl) (Or.inr rfl)) (pgs_cons (pg_name (i := 2) nd rfl (Or.inl rfl) (Or.inr rfl)) pgs_nil)))) (fun _ _ _ _ _ => (pts_one (pt_cmpR op_ne (pv 2) pe_int (nomark _)))) (fun _ _ _ _ _ => (pv 1))) pe_int (fun _ _ => rfl)))))), ?_⟩
  obtain ⟨a, ps, rs, rfl, ha, ht, hm, hr, hQ⟩ := h
  refine ⟨_, rfl, a, rfl, ⟨_, SqL.of ha⟩, fun D hD => lc_map (σ := [some (.ref a), none, none, none]) (vs := [3]) (wk_list (d := none) ha) hD (by simp) (by rw [List.length_map, ht.1]; omega) (fun _ _ => True) (fun i v _ => v = .int (Lin.leadOf (rs.getD i []) : Nat)) trivial (fun _ _ _ _ => trivial) (fun _ _ _ _ _ e => e) (fun i x H2 H3 hi k2 _ ac y R hR => ?_) (fun H2 ys k2 _ hD2 hlen hz => ?_)⟩
  · obtain ⟨rfl, hx⟩ := y
    obtain ⟨p, hp0, rfl⟩ := refs_get hx
    obtain ⟨r, hr0, hpr⟩ := ht.get hp0
    obtain ⟨r1, r2⟩ := hr r (List.mem_of_getElem? hr0)
    have hp3 := k2.t hpr
    refine ⟨wipe1, _, rfl, p, _, rfl, SqT.of hp3, fun D2 hD2 => lc_filter (σ := [some (.ref a), none, none, some (.ref p)]) (vs := [1, 2]) (wk_enumT (d := none) hp3) hD2 (by simp) (by rw [iz_len]; omega) (fun i => decide (Lin.fn r i ≠ 0)) (fun i => (i : Int)) (fun j x H4 H5 hj k4 y KK NN hK hN => ?_) (fun H4 k4 e4 => ?_)⟩
    · obtain ⟨T, x1, y1, rfl, hT, rfl, h1, h2⟩ := y
      cases h1
      obtain ⟨n, hn, rfl⟩ := ints_get h2
      refine ⟨T, _, rfl, SqT.of upd_same, rfl, _, _, rfl, _, _, rfl, rfl, wipe2, ?_⟩
      refine ⟨_, rfl, rfl, _, rfl, ?_⟩
      by_cases z : n = 0
      · rw [eqT z]
        exact hN _ (Kp.new hT) (decide_eq_false (by rw [getI hn]; exact fun q => q z))
      · rw [eqF z]
        exact ⟨_, rfl, hK _ (Kp.new hT) (decide_eq_true (by rw [getI hn]; exact z))⟩
    · refine ⟨D2, _, _, _, rfl, rfl, SqL.of e4, atI_nat (j := 0) (v := V.int (Lin.leadOf r : Nat)) ?_, hR _ _ k4 trivial fun o => by rw [getD_of hr0]⟩
      rw [List.getElem?_map, iz_len, pick_lead r2]
      rfl
  · refine hQ _ _ k2 ⟨D, rfl, hD, ?_⟩
    rw [hD2, ints_of (f := fun i => ((Lin.leadOf (rs.getD i []) : Nat) : Int)) hlen hz, List.length_map, ht.1, rng_rows (fun t => ((Lin.leadOf t : Nat) : Int))]
    rfl
/-! ### _law_kernel -/
theorem oneL_len (T : List (List Int)) (W : Int) (wd f : Nat) : (Lin.oneL T W wd f).length = wd := by
  unfold Lin.oneL
  have : ∀ (T : List (List Int)) (o : List Int), (T.foldl (fun one t => one.set (Lin.leadOf t) (0 - (W * Lin.fn t f).fdiv (Lin.fn t (Lin.leadOf t)))) o).length = o.length := by
    intro T
    induction T with
    | nil => intro o; rfl
    | cons t T ih => intro o; rw [List.foldl_cons, ih, List.length_set]
  rw [this, List.length_set, List.length_replicate]
theorem oneL_one {T : List (List Int)} {W : Int} {wd f j : Nat} {t : List Int} (h : T[j]? = some t) : Lin.oneL (T.take (j + 1)) W wd f = (Lin.oneL (T.take j) W wd f).set (Lin.leadOf t) (0 - (W * Lin.fn t f).fdiv (Lin.fn t (Lin.leadOf t))) := by
  rw [take_one h]
  unfold Lin.oneL
  rw [List.foldl_append]
  rfl
theorem TabT.offL {H : Hp} {ps : List Addr} {rs : List (List Int)} (t : TabT H ps rs) {L : Addr} {xs : List V} (hL : H L = some (.lst xs)) : ∀ p ∈ ps, some L ≠ some p := fun p hp z => by
  obtain ⟨i, hi, rfl⟩ := List.mem_iff_getElem.mp hp
  obtain ⟨r, _, hr⟩ := t.get (List.getElem?_eq_getElem hi)
  exact ne_of hL hr (fun z => by cases z) (Option.some.inj z)
theorem TabT.upd {H : Hp} {ps : List Addr} {rs : List (List Int)} (t : TabT H ps rs) {L : Addr} {xs : List V} {o : HO} (hL : H L = some (.lst xs)) : TabT (upd H L o) ps rs :=
  ⟨t.1, fun i p r hp hr => by rw [upd_ne (fun z => t.offL hL p (List.mem_of_getElem? hp) (by rw [z]))]; exact t.2 i p r hp hr⟩
structure KerPreL (rs : List (List Int)) (wd : Nat) : Prop where
  len : ∀ r ∈ rs, r.length = wd
  pos : 0 < wd
  few : wd ≤ 100
  cnt : rs.length ≤ 1000
  fitL : Lin.Fits Lin.lessL rs wd 6000
  toldE : Lin.echelon Lin.lessL rs wd = Lin.echelon Lin.lessP rs wd
  toldB : ∀ t, t ∈ Lin.echelon Lin.lessP rs wd → Lin.Bd 2000 t
  toldN : (Lin.echelon Lin.lessP rs wd).length ≤ 5
  toldL : ∀ t, t ∈ Lin.echelon Lin.lessP rs wd → t.length = wd ∧ Lin.leadOf t < wd ∧ Lin.fn t (Lin.leadOf t) ≠ 0
  foundE : Lin.foundL (Lin.echelon Lin.lessP rs wd) wd = Lin.foundP (Lin.echelon Lin.lessP rs wd) wd
  foundF : Lin.Fits Lin.lessL (Lin.foundP (Lin.echelon Lin.lessP rs wd) wd) wd 6000
  foundN : ∀ r, r ∈ Lin.foundP (Lin.echelon Lin.lessP rs wd) wd → r.length = wd
  eq : Lin.kerL rs wd = Lin.kerP rs wd
def sp_kernel (K : PySem.W.Frag) : Sp := fun vs H Q _ => ∃ (a : Addr) (ps : List Addr) (rs : List (List Int)) (wd : Nat), vs = [.ref a, .int wd] ∧ H a = some (.lst (ps.map V.ref)) ∧ TabA H ps rs ∧ KerPreL rs wd ∧ Ret none (NewTabT H (Lin.kerP rs wd)) H Q
theorem l__law_kernel {vs : List V} {H : Hp} {Q : VK} {E : XK} (h : sp_kernel K vs H Q E) : vs.length = 2 := by
  obtain ⟨a, ps, rs, wd, rfl, _⟩ := h
  rfl
abbrev s__law_kernel : Stmt := top 67
abbrev N__law_kernel : List Str := ["_law_rows", "_law_width", "_law_told", "_law_leads_here", "_law_found", "_law_free", "_law_place", "_law_whole", "_law_row", "_law_lead", "_law_one"]
theorem sc__law_kernel : FnScope N__law_kernel ["_law_rows", "_law_width"] (defScope s__law_kernel) := ⟨rfl, rfl, rfl, by decide +kernel, rfl, by decide +kernel, by decide +kernel⟩
theorem d__law_kernel (B : Bt mg)  (c__law_cleared : Cal P w K mg base 4 "_law_cleared" (sp_cleared K)) (c__law_gcd : Cal P w K mg base 1 "_law_gcd" (sp_gcd K)) (c__law_leads : Cal P w K mg base 1 "_law_leads" (sp_leads K)) (D : Dd K mg "_law_kernel" s__law_kernel) : Cal P w K mg base 5 "_law_kernel" (sp_kernel K) := by
  refine D.cal sc__law_kernel (fun _ _ _ _ _ _ us hl => match us, hl with | [_, _], _ => rfl) (fun vs H Q E h => ?_) (fun _ cdv A outer s H vs Q E hr h => ?_)
  · exact l__law_kernel h
  have nd := sc__law_kernel.nd
  refine ⟨_, (pss_cons (ps_set (i := 2) nd rfl (Or.inl rfl) (pc c__law_cleared hr rfl (pa_cons (pv 0) (pa_cons (pv 1) pa_nil)))) (pss_cons (ps_asg (pe_tup (pa_cons (pc c__law_leads hr rfl (pa_cons (pv 2) pa_nil)) (pa_cons (pe_lst pa_nil) pa_nil))) (pg_tup_K K 2 rfl (pgs_cons (pg_name (i := 3) nd rfl (Or.inr rfl) (Or.inl rfl)) (pgs_cons (pg_name (i := 4) nd rfl (Or.inl rfl) (Or.inl rfl)) pgs_nil)))) (pss_cons (ps_for PassesOwn.never rfl (pi_list_K K (pe_lc (own := [("_law_place", 6)]) rfl nd (pi_range1 rfl B.range (pa_cons (pv 1) pa_nil)) (blkOk_by (N := N__law_kernel) (sc := defScope s__law_kernel) (by decide +kernel)) (fun _ _ _ _ _ => (pg_name (i := 6) nd rfl (Or.inl rfl) (Or.inr rfl))) (fun _ _ _ _ _ => (pts_one (pt_cmpR (nin_K K) (pv 6) (pv 3) rfl))) (fun _ _ _ _ _ => (pv 6)))) (pg_name (i := 5) nd rfl (Or.inl rfl) (Or.inl rfl)) (pss_cons (ps_set (i := 7) nd rfl (Or.inl rfl) pe_int) (pss_cons (ps_for PassesOwn.never rfl (RZ.pi_zipA rfl B.zip (pa_cons (pv 2) (pa_cons (pv 3) pa_nil))) (pg_tup_K K 2 rfl (pgs_cons (pg_name (i := 8) nd rfl (Or.inl rfl) (Or.inl rfl)) (pgs_cons (pg_name (i := 9) nd rfl (Or.inl rfl) (Or.inl rfl)) pgs_nil))) (pss_one (ps_set (i := 7) nd rfl (Or.inl rfl) (pe_op op_mulW (pv 7) (pe_op op_fdivC (pe_ix (ixt_K K) (pv 8) (pv 9) (fun _ _ => rfl)) (pc c__law_gcd hr rfl (pa_cons (pv 7) (pa_cons (pe_ix (ixt_K K) (pv 8) (pv 9) (fun _ _ => rfl)) pa_nil)))))))) (pss_cons (ps_setLc (i := 10) (own := [("_law_place", 6)]) rfl nd rfl rfl (sw_true rfl rfl rfl (by decide +kernel)) (pi_range1 rfl B.range (pa_cons (pv 1) pa_nil)) (blkOk_by (N := N__law_kernel) (sc := defScope s__law_kernel) (by decide +kernel)) (fun _ _ _ _ _ => (pg_name (i := 6) nd rfl (Or.inl rfl) (Or.inr rfl))) (fun _ _ _ _ _ => pts_nil) (fun _ _ _ _ _ => pe_int)) (pss_cons (ps_asg (pv 7) (pg_sub (pv 10) (pv 5) set_list)) (pss_cons (ps_for PassesOwn.never rfl (RZ.pi_zipA rfl B.zip (pa_cons (pv 2) (pa_cons (pv 3) pa_nil))) (pg_tup_K K 2 rfl (pgs_cons (pg_name (i := 8) nd rfl (Or.inl rfl) (Or.inl rfl)) (pgs_cons (pg_name (i := 9) nd rfl (Or.inl rfl) (Or.inl rfl)) pgs_nil))) (pss_one (ps_asg (pe_op op_sub pe_int (pe_op op_fdivC (pe_op op_mulW (pv 7) (pe_ix (ixt_K K) (pv 8) (pv 5) (fun _ _ => rfl))) (pe_ix (ixt_K K) (pv 8) (pv 9) (fun _ _ => rfl)))) (pg_sub (pv 10) (pv 9) set_list)))) (pss_one (ps_expr (pe_bm PySem.F.plainAttrs_list PySem.F.slot_list_append PySem.F.type_list_append mt_append (pv 4) (pa_cons (pe_callTy (tuple_K K) rfl B.tuple (by decide +kernel) (pa_cons (pv 10) pa_nil)) pa_nil)))))))))) (pss_one (ps_ret (pc c__law_cleared hr rfl (pa_cons (pv 4) (pa_cons (pv 1) pa_nil)))))))), ?_⟩
  obtain ⟨a, ps, rs, wd, rfl, ha, ht, KP, hQ⟩ := h
  have h1 := KP.few
  refine ⟨_, rfl, _, rfl, a, ps, rs, wd, rfl, ha, ht, KP.len, KP.pos, by omega, KP.cnt, KP.fitL, fun v Ha ka ea => ?_⟩
  obtain ⟨Tt, ts, rfl, hTt, eT, tT⟩ := ea
  have toldB := KP.toldB
  have toldN := KP.toldN
  have toldL := KP.toldL
  have foundF := KP.foundF
  have foundN := KP.foundN
  have foundE := KP.foundE
  have hker : Lin.kerP rs wd = Lin.echelon Lin.lessL (Lin.foundP (Lin.echelon Lin.lessP rs wd) wd) wd := by
    rw [← KP.eq]
    unfold Lin.kerL
    rw [KP.toldE, KP.foundE]
  rw [KP.toldE] at tT
  rw [hker] at hQ
  generalize Lin.echelon Lin.lessP rs wd = T at toldB toldN toldL foundF foundN foundE tT hQ
  refine ⟨_, rfl, Tt, ts, T, rfl, eT, tT, by omega, fun r hr => ⟨by rw [(toldL r hr).1]; omega, ⟨_, (toldL r hr).2.2⟩⟩, fun v Hb kb eb => ?_⟩
  obtain ⟨Ld, rfl, hLd, eLb⟩ := eb
  refine ⟨sz_le (by decide), fun Fd hFd => ⟨sz_le (by show 2 ≤ 1000000; decide), fun U hU => ?_⟩⟩
  have hFd0 : H Fd = none := (ka.trans kb).fr Fd hFd
  have kF : Kp none Hb (upd Hb Fd (.lst [])) := Kp.new hFd
  have kU : Kp none (upd Hb Fd (.lst [])) (upd (upd Hb Fd (.lst [])) U (.tup [.ref Ld, .ref Fd])) := Kp.new hU
  refine ⟨U, _, rfl, SqT.of upd_same, rfl, _, _, rfl, _, _, rfl, rfl, ?_⟩
  have kc := kF.trans kU
  have eTc := kc.l (kb.l eT)
  have tTc := (tT.keep kb).keep kc
  have eFc : (upd (upd Hb Fd (.lst [])) U (.tup [.ref Ld, .ref Fd])) Fd = some (.lst []) := kU.l upd_same
  have eL := kc.l eLb
  have kHc := (ka.trans kb).trans kc
  have nTF : Tt ≠ Fd := ne_of_none (kb.l eT) hFd
  have nLF : Ld ≠ Fd := ne_of_none eLb hFd
  generalize upd (upd Hb Fd (.lst [])) U (.tup [.ref Ld, .ref Fd]) = Hd at eTc tTc eFc eL kHc
  clear kc kU kF hU
  have hlen5 : (leadsOf T).length = T.length := by unfold leadsOf; rw [List.length_map]
  refine ⟨_, rfl, wd, rfl, by omega, by omega, fun Fr hFr => lc_filter (σ := [some (.ref a), some (.int wd), some (.ref Tt), some (.ref Ld), some (.ref Fd), none, none, none, none, none, none]) (vs := [6]) (n := wd) (wk_range (d := none)) hFr (by simp) (by omega) (fun p => decide (p ∉ T.map Lin.leadOf)) (fun p => (p : Int)) (fun i x H2 H3 hi k2 y KK NN hK hN => ?_) (fun He ke eFr => ?_)⟩
  · obtain ⟨rfl, rfl⟩ := y
    refine ⟨wipe1, _, rfl, _, rfl, Ld, _, rfl, .inl (SqL.of (k2.l eL)), rfl, flat_ints _, _, rfl, ?_⟩
    rw [show (if true = true then !inV (V.int (0 + (i : Int))) (iz (leadsOf T)) else inV (V.int (0 + (i : Int))) (iz (leadsOf T))) = decide (i ∉ T.map Lin.leadOf) by
      rw [if_pos rfl, inV_ints, Bool.eq_iff_iff]
      simp only [Bool.not_eq_true', decide_eq_false_iff_not, decide_eq_true_eq, leadsOf, List.mem_map, Int.zero_add]
      exact not_congr ⟨fun ⟨t, ht, e⟩ => ⟨t, ht, by omega⟩, fun ⟨t, ht, e⟩ => ⟨t, ht, by omega⟩⟩]
    by_cases z : i ∉ T.map Lin.leadOf
    · refine ifT (decide_eq_true z) ⟨_, rfl, ?_⟩
      have := hK _ .refl (decide_eq_true z)
      show KK (.int (0 + (i : Int))) _
      rw [Int.zero_add]
      exact this
    · exact ifF (decide_eq_false z) (hN _ .refl (decide_eq_false z))
  have eFr2 : He Fr = some (.lst (iz ((Lin.freeOf T wd).map fun p : Nat => (p : Int)))) := eFr
  clear eFr
  have eTe := ke.l eTc
  have tTe := tTc.keep ke
  have eLe := ke.l eL
  have eFe := ke.l eFc
  have kHe := kHc.trans ke
  have nFrF : Fr ≠ Fd := (ne_of_none eFc hFr).symm
  clear eTc tTc eL eFc kHc ke
  refine ⟨Fr, rfl, ⟨_, SqL.of eFr2⟩, ?_⟩
  refine for_it (wk_list (d := some Fd) eFr2 (fun z => nFrF (Option.some.inj z).symm)) (fun i σ H' => Kp (some Fd) He H' ∧ (∃ fps : List Addr, H' Fd = some (.lst (fps.map V.ref)) ∧ TabT H' fps ((Lin.foundL T wd).take i)) ∧ ∃ z5 z6 z7 z8 z9 z10, σ = [some (.ref a), some (.int wd), some (.ref Tt), some (.ref Ld), some (.ref Fd), z5, z6, z7, z8, z9, z10]) ⟨.refl, ⟨[], eFe, rfl, fun i p r hp => by simp at hp⟩, _, _, _, _, _, _, rfl⟩ (fun i σ H' _ p => p.1) (fun i x σ Hq H0 hi p y => ?_) (fun σ H9 p => ?_)
  · obtain ⟨k9, ⟨fps, eF0, t0⟩, z5', z6', z7', z8, z9, z10, rfl⟩ := p
    obtain ⟨rfl, hx⟩ := y
    obtain ⟨n, hn, rfl⟩ := ints_get hx
    obtain ⟨f, hf, rfl⟩ : ∃ f : Nat, (Lin.freeOf T wd)[i]? = some f ∧ n = (f : Int) := by
      rw [List.getElem?_map] at hn
      cases e : (Lin.freeOf T wd)[i]? with
      | none => rw [e] at hn; cases hn
      | some f => rw [e] at hn; exact ⟨f, rfl, (Option.some.inj hn).symm⟩
    have hfw : f < wd := by
      have := List.mem_of_getElem? hf
      unfold Lin.freeOf at this
      exact List.mem_range.mp (List.mem_filter.mp this).1
    have eT0 := k9.l eTe (fun z => nTF (Option.some.inj z).symm)
    have eL0 := k9.l eLe (fun z => nLF (Option.some.inj z).symm)
    have tT0 := tTe.keep k9 (tTe.offL eFe)
    refine ⟨_, rfl, _, rfl, Tt, Ld, _, _, rfl, .inl ⟨SqL.of eT0, SqL.of eL0, ?_⟩⟩
    refine for_it (wk_zip (d := none) eT0 eL0) (fun i σ H' => Kp none H0 H' ∧ (Lin.wholeOf (T.take i)).natAbs < 2 ^ (2000 * i + 1) ∧ ∃ z6 z8 z9 z10, σ = [some (.ref a), some (.int wd), some (.ref Tt), some (.ref Ld), some (.ref Fd), some (.int f), z6, some (.int (Lin.wholeOf (T.take i))), z8, z9, z10]) ⟨.refl, by simp [Lin.wholeOf], _, _, _, _, rfl⟩ (fun i σ H' _ p => p.1) (fun i x σ H2 H' hi p y => ?_) (fun σ Hg p => ?_)
    · obtain ⟨k1, hb, z6, z8, z9, z10, rfl⟩ := p
      obtain ⟨T2, x1, y1, rfl, hT2, rfl, h1', h2'⟩ := y
      obtain ⟨p, hp0, rfl⟩ := refs_get h1'
      obtain ⟨r, hr, hpr⟩ := tT0.get hp0
      obtain ⟨n2, hn2, rfl⟩ := ints_get h2'
      have e2 : n2 = (Lin.leadOf r : Nat) := by
        unfold leadsOf at hn2
        rw [List.getElem?_map, hr] at hn2
        exact (Option.some.inj hn2).symm
      subst e2
      obtain ⟨l1, l2, l3⟩ := toldL r (List.mem_of_getElem? hr)
      have kT : Kp none H2 (upd H2 T2 (.tup [.ref p, .int (Lin.leadOf r : Nat)])) := Kp.new hT2
      have hpT := (k1.trans kT).t hpr
      refine ⟨T2, _, rfl, SqT.of upd_same, rfl, _, _, rfl, _, _, rfl, rfl, ?_⟩
      have Br := toldB r (List.mem_of_getElem? hr) (Lin.leadOf r)
      have i5 : i < 5 := Nat.lt_of_lt_of_le (List.getElem?_eq_some_iff.mp hr).1 toldN
      have g0 : ((Nat.gcd (Lin.wholeOf (T.take i)).natAbs (Lin.fn r (Lin.leadOf r)).natAbs : Nat) : Int) ≠ 0 := by rw [Nat.gcd_comm]; exact gcd_ne _ l3
      have dl := Lin.fdiv_le (Lin.fn r (Lin.leadOf r)) (Nat.gcd (Lin.wholeOf (T.take i)).natAbs (Lin.fn r (Lin.leadOf r)).natAbs : Nat) g0 (Int.ofNat_dvd_left.mpr (Nat.gcd_dvd_right _ _))
      have d2 : ((Lin.fn r (Lin.leadOf r)).fdiv (Nat.gcd (Lin.wholeOf (T.take i)).natAbs (Lin.fn r (Lin.leadOf r)).natAbs : Nat)).natAbs < 2 ^ 2000 := Nat.lt_of_le_of_lt dl Br
      refine ⟨_, rfl, _, rfl, _, rfl, p, _, _, _, rfl, rfl, SqT.of hpT, iz_at (i := Lin.leadOf r) (by omega), _, rfl, _, rfl, _, rfl, p, _, _, _, rfl, rfl, SqT.of hpT, iz_at (i := Lin.leadOf r) (by omega), _, _, rfl, ?_⟩
      refine ⟨_, _, rfl, rfl, divc_of g0 (lt_bits (a := 2000) (b := 13400) Br (by decide)), _, _, rfl, rfl, wide_mul hb d2 (by omega) (by decide) (by omega), k1.trans kT, ?_⟩
      have e3 : Lin.wholeOf (T.take (i + 1)) = Lin.wholeOf (T.take i) * (Lin.fn r (Lin.leadOf r)).fdiv (Nat.gcd (Lin.wholeOf (T.take i)).natAbs (Lin.fn r (Lin.leadOf r)).natAbs : Nat) := by
        rw [take_one hr]
        unfold Lin.wholeOf
        rw [List.foldl_append]
        rfl
      refine ⟨?_, _, _, _, _, by rw [e3]; rfl⟩
      rw [e3, Int.natAbs_mul]
      have := Lin.mul_lt_pow hb d2
      exact lt_bits this (by omega)
    obtain ⟨kg, hWb, z6, z8, z9, z10, rfl⟩ := p
    have eN : min (ts.map V.ref).length (iz (leadsOf T)).length = T.length := by rw [iz_len, hlen5, List.length_map, tT0.1, Nat.min_self]
    rw [eN, List.take_length] at hWb ⊢
    have hW : (Lin.wholeOf T).natAbs < 2 ^ 10001 := lt_bits hWb (by omega)
    have hfo : (Lin.foundL T wd)[i]? = some (Lin.oneL T (Lin.wholeOf T) wd f) := by
      unfold Lin.foundL
      rw [List.getElem?_map, hf]
      rfl
    generalize Lin.wholeOf T = W at hW hfo
    have kgd := k9.trans kg.any
    have eTg := kg.l eT0
    have eLg := kg.l eL0
    have eFg := kg.l eF0
    have tTg := tT0.keep kg
    have tfg := t0.keep kg
    clear hWb kg eN
    refine ⟨_, rfl, wd, rfl, by omega, by omega, fun On hOn => lc_map (n := (wd : Int).toNat) (σ := [some (.ref a), some (.int wd), some (.ref Tt), some (.ref Ld), some (.ref Fd), some (.int f), z6, some (.int W), z8, z9, z10]) (vs := [6]) (wk_range (d := none)) hOn (by simp) (by omega) (fun _ _ => True) (fun i v _ => v = .int 0) trivial (fun _ _ _ _ => trivial) (fun _ _ _ _ _ e => e) (fun i x H2 H3 hi k2 _ _ y R hR => ⟨wipe1, hR _ _ (by rw [y.1]; exact .refl) trivial fun o => rfl⟩) (fun Hy ys ky _ eOn0 hlen hz => ?_)⟩
    have eOn : Hy On = some (.lst (iz (List.replicate wd 0))) := by
      rw [eOn0, ints_of (f := fun _ => 0) hlen hz, map_zero, Int.toNat_natCast]
    clear hz hlen eOn0
    refine ⟨_, rfl, _, rfl, _, rfl, On, _, (f : Int), f, rfl, rfl, eOn, ixN_of (by rw [iz_len, List.length_replicate]; exact hfw), ?_⟩
    rw [iz_set]
    have nTO : Tt ≠ On := ne_of_none eTg hOn
    have nLO : Ld ≠ On := ne_of_none eLg hOn
    have nFO : Fd ≠ On := ne_of_none eFg hOn
    have eTz : (upd Hy On (.lst (iz ((List.replicate wd 0).set f W)))) Tt = some (.lst (ts.map V.ref)) := by rw [upd_ne nTO]; exact ky.l eTg
    have eLz : (upd Hy On (.lst (iz ((List.replicate wd 0).set f W)))) Ld = some (.lst (iz (leadsOf T))) := by rw [upd_ne nLO]; exact ky.l eLg
    have eFz : (upd Hy On (.lst (iz ((List.replicate wd 0).set f W)))) Fd = some (.lst (fps.map V.ref)) := by rw [upd_ne nFO]; exact ky.l eFg
    have eOz : (upd Hy On (.lst (iz ((List.replicate wd 0).set f W)))) On = some (.lst (iz (Lin.oneL (T.take 0) W wd f))) := upd_same
    have tTz : TabT (upd Hy On (.lst (iz ((List.replicate wd 0).set f W)))) ts T := (tTg.keep ky).upd eOn
    have tfz : TabT (upd Hy On (.lst (iz ((List.replicate wd 0).set f W)))) fps ((Lin.foundL T wd).take i) := (tfg.keep ky).upd eOn
    have kz : Kp (some Fd) He (upd Hy On (.lst (iz ((List.replicate wd 0).set f W)))) := (kgd.trans ky.any).mut (kgd.fr On hOn)
    generalize upd Hy On (.lst (iz ((List.replicate wd 0).set f W))) = Hz at eTz eLz eFz eOz kz tTz tfz
    refine ⟨_, rfl, _, rfl, Tt, Ld, _, _, rfl, .inl ⟨SqL.of eTz, SqL.of eLz, ?_⟩⟩
    refine for_it (wk_zip (d := some On) eTz eLz (fun z => nTO (Option.some.inj z).symm) (fun z => nLO (Option.some.inj z).symm)) (fun j σ H' => Kp (some On) Hz H' ∧ H' On = some (.lst (iz (Lin.oneL (T.take j) W wd f))) ∧ ∃ z6 z8 z9, σ = [some (.ref a), some (.int wd), some (.ref Tt), some (.ref Ld), some (.ref Fd), some (.int f), z6, some (.int W), z8, z9, some (.ref On)]) ⟨.refl, eOz, _, _, _, rfl⟩ (fun j σ H' _ p => p.1) (fun j x σ H2 H' hj p y => ?_) (fun σ H4 p => ?_)
    · obtain ⟨k1, hO, z6, z8, z9, rfl⟩ := p
      obtain ⟨T2, x1, y1, rfl, hT2, rfl, h1', h2'⟩ := y
      obtain ⟨p, hp0, rfl⟩ := refs_get h1'
      obtain ⟨r, hr, hpr⟩ := tTz.get hp0
      obtain ⟨n2, hn2, rfl⟩ := ints_get h2'
      have e2 : n2 = (Lin.leadOf r : Nat) := by
        unfold leadsOf at hn2
        rw [List.getElem?_map, hr] at hn2
        exact (Option.some.inj hn2).symm
      subst e2
      have hrm := List.mem_of_getElem? hr
      obtain ⟨l1, l2, l3⟩ := toldL r hrm
      have kT : Kp none H2 (upd H2 T2 (.tup [.ref p, .int (Lin.leadOf r : Nat)])) := Kp.new hT2
      have hpT := (k1.trans kT.any).t hpr (tTz.offL eOz p (List.mem_of_getElem? hp0))
      have hOT := kT.l hO
      refine ⟨T2, _, rfl, SqT.of upd_same, rfl, _, _, rfl, _, _, rfl, rfl, ?_⟩
      have d1 : (W * Lin.fn r f).natAbs < 2 ^ 12001 := by rw [Int.natAbs_mul]; exact Lin.mul_lt_pow (A := 10001) (B := 2000) hW (toldB r hrm f)
      refine ⟨_, rfl, _, rfl, _, rfl, p, _, _, _, rfl, rfl, SqT.of hpT, iz_at (i := f) (by omega), _, _, rfl, rfl, wide_mul (a := 10001) (b := 2000) hW (toldB r hrm f) (by decide) (by decide) (by decide), _, rfl, _, rfl, p, _, _, _, rfl, rfl, SqT.of hpT, iz_at (i := Lin.leadOf r) (by omega), _, _, rfl, rfl, divc_of l3 (lt_bits (a := 12001) (b := 13400) d1 (by decide)), _, _, rfl, rfl, ?_⟩
      refine ⟨_, rfl, _, rfl, On, _, _, Lin.leadOf r, rfl, rfl, hOT, ixN_of (by rw [iz_len, oneL_len]; exact l2), Kp.at (k1.trans kT.any) (fun z => by rw [z] at eOz; cases eOz), ?_, _, _, _, rfl⟩
      rw [upd_same, iz_set, oneL_one hr]
    · obtain ⟨k4, hO4, z6, z8, z9, rfl⟩ := p
      have eN : min (ts.map V.ref).length (iz (leadsOf T)).length = T.length := by rw [iz_len, hlen5, List.length_map, tTz.1, Nat.min_self]
      rw [eN, List.take_length] at hO4
      have eF4 := k4.l eFz (fun z => nFO (Option.some.inj z).symm)
      have t4 := tfz.keep k4 (tfz.offL eOz)
      have hfl := t4.1
      have hil : i < (Lin.foundL T wd).length := (List.getElem?_eq_some_iff.mp hfo).1
      have fl : (Lin.foundL T wd).length ≤ 1000 := by
        unfold Lin.foundL Lin.freeOf
        rw [List.length_map]
        have := List.length_filter_le (fun p => decide (p ∉ T.map Lin.leadOf)) (List.range wd)
        rw [List.length_range] at this
        omega
      have k40 : Kp (some Fd) He H4 := kz.drop (kgd.fr On hOn) k4
      refine ⟨_, rfl, .inl ⟨rfl, _, SqL.of eF4⟩, _, rfl, On, _, rfl, .inl ⟨SqL.of hO4, fun l hl => ?_⟩⟩
      have kl : Kp none H4 (upd H4 l (.tup (iz (Lin.oneL T W wd f)))) := Kp.new hl
      have eF5 := kl.l eF4
      refine ⟨Fd, _, _, rfl, rfl, eF5, sz_lt (by rw [List.length_map, hfl, List.length_take]; omega), ?_⟩
      refine ⟨Kp.at (k40.trans kl.any) (fun z => by rw [z] at eFe; cases eFe), ⟨fps ++ [l], by rw [upd_same, List.map_append]; rfl, ?_⟩, _, _, _, _, _, _, rfl⟩
      rw [take_one hfo]
      exact ((t4.keep kl).snoc upd_same).upd eF5
  · obtain ⟨k9, ⟨fps, eF9, t9⟩, z5, z6, z7, z8, z9, z10, rfl⟩ := p
    have hn : (iz ((Lin.freeOf T wd).map fun p : Nat => (p : Int))).length = (Lin.foundL T wd).length := by rw [iz_len, List.length_map]; unfold Lin.foundL; rw [List.length_map]
    rw [hn, List.take_length, foundE] at t9
    have k90 : Kp none H H9 := kHe.drop hFd0 k9
    have fl : (Lin.foundP T wd).length ≤ 1000 := by
      unfold Lin.foundP Lin.freeOf
      rw [List.length_map]
      have := List.length_filter_le (fun p => decide (p ∉ T.map Lin.leadOf)) (List.range wd)
      rw [List.length_range] at this
      omega
    refine ⟨_, rfl, _, rfl, Fd, fps, _, wd, rfl, eF9, t9.any, foundN, KP.pos, by omega, fl, foundF, fun v Hx kx ex => ?_⟩
    obtain ⟨D, qs, rfl, hD, eD, tD⟩ := ex
    exact hQ _ _ (k90.trans kx) ⟨D, qs, rfl, k90.fr D hD, eD, tD⟩
end
end W0
/-! ## W20 -/
set_option Elab.async false
set_option linter.all false
set_option maxRecDepth 100000
set_option maxHeartbeats 4000000
namespace W0
open PySem PySem.Spec PyProof.Rows L2 SlX
section
variable {P : Program} {w : World} {K : PySem.W.Frag} {mg : Str → Option Value} {base : Heap}
/-! ### _law_levels, _law_killer_table -/
theorem atI_last {ns : List Int} {n : Int} (h : ns.getLast? = some n) : atI (iz ns) (-1) = some (.int n) := by
  have hl : 0 < ns.length := by
    cases ns with
    | nil => cases h
    | cons x xs => simp
  unfold atI
  have e : ixN (iz ns).length (-1) = some (ns.length - 1) := by
    unfold ixN
    rw [if_neg (by decide), if_pos (by rw [iz_len]; omega), iz_len]
    congr 1
    omega
  rw [e]
  show (iz ns)[ns.length - 1]? = _
  rw [List.getLast?_eq_getElem?] at h
  unfold iz
  rw [List.getElem?_map, h]
  rfl
def facs (i : Nat) : List Int := (List.range (i + 1)).map Lin.fac
theorem facs_one (i : Nat) : facs (i + 1) = facs i ++ [Lin.fac (i + 1)] := by
  unfold facs
  rw [List.range_succ, List.map_append]
  rfl
theorem facs_last (i : Nat) : (facs i).getLast? = some (Lin.fac i) := by
  unfold facs
  rw [List.range_succ, List.map_append]
  simp
theorem facs_fn {i j : Nat} (h : j ≤ i) : Lin.fn (facs i) j = Lin.fac j := by
  refine getI ?_
  unfold facs
  rw [List.getElem?_map, List.getElem?_range (by omega)]
  rfl
theorem facs_len (i : Nat) : (facs i).length = i + 1 := by unfold facs; rw [List.length_map, List.length_range]
def sp_levels (K : PySem.W.Frag) : Sp := fun vs H Q _ => ∃ (a : Addr) (es : List Int), vs = [.ref a] ∧ H a = some (.tup (iz es)) ∧ Small es ∧ Ret none (NewInts H (Lin.levels es)) H Q
theorem l__law_levels {vs : List V} {H : Hp} {Q : VK} {E : XK} (h : sp_levels K vs H Q E) : vs.length = 1 := by
  obtain ⟨a, es, rfl, _⟩ := h
  rfl
abbrev s__law_levels : Stmt := top 68
abbrev N__law_levels : List Str := ["_law_entries", "_law_size", "_law_found", "_law_ups", "_law_number", "_law_at", "_law_entry"]
theorem sc__law_levels : FnScope N__law_levels ["_law_entries"] (defScope s__law_levels) := ⟨rfl, rfl, rfl, by decide +kernel, rfl, by decide +kernel, by decide +kernel⟩
theorem d__law_levels (B : Bt mg)   (D : Dd K mg "_law_levels" s__law_levels) : Cal P w K mg base 1 "_law_levels" (sp_levels K) := by
  refine D.cal sc__law_levels (fun _ _ _ _ _ _ us hl => match us, hl with | [_], _ => rfl) (fun vs H Q E h => ?_) (fun _ cdv A outer s H vs Q E hr h => ?_)
  · exact l__law_levels h
  have nd := sc__law_levels.nd
  refine ⟨_, (pss_cons (ps_par3 (i := 1) (j := 2) (l := 3) rfl nd rfl rfl rfl (by decide) (by decide) (by decide) rfl rfl rfl (pa_cons (pe_op op_sub (pe_callB (len_K K) rfl B.len PySem.boot_len (pa_cons (pv 0) pa_nil)) pe_int) (pa_cons (pe_lst pa_nil) (pa_cons (pe_lst (pa_cons pe_int pa_nil)) pa_nil))) rfl) (pss_cons (ps_for PassesOwn.never rfl (pi_range2 rfl B.range (pa_cons pe_int (pa_cons (pe_op op_add (pv 1) pe_int) pa_nil))) (pg_name (i := 4) nd rfl (Or.inl rfl) (Or.inl rfl)) (pss_one (ps_expr (pe_bm PySem.F.plainAttrs_list PySem.F.slot_list_append PySem.F.type_list_append mt_append (pv 3) (pa_cons (pe_op op_mulW (pe_ix (ixl_K K) (pv 3) (pe_un un_neg pe_int) (fun _ _ => rfl)) (pv 4)) pa_nil))))) (pss_cons (ps_for PassesOwn.never rfl (pi_enumT_K K rfl B.enumerate (pa_cons (pv 0) pa_nil)) (pg_tup_K K 2 rfl (pgs_cons (pg_name (i := 5) nd rfl (Or.inl rfl) (Or.inl rfl)) (pgs_cons (pg_name (i := 6) nd rfl (Or.inl rfl) (Or.inl rfl)) pgs_nil))) (pss_one (ps_expr (pe_bm PySem.F.plainAttrs_list PySem.F.slot_list_append PySem.F.type_list_append mt_append (pv 2) (pa_cons (pe_op op_mulW (pe_op op_mulW (pe_ix (ixl_K K) (pv 3) (pv 5) (fun _ _ => rfl)) (pe_ix (ixl_K K) (pv 3) (pe_op op_sub (pv 1) (pv 5)) (fun _ _ => rfl))) (pv 6)) pa_nil))))) (pss_one (ps_ret (pv 2)))))), ?_⟩
  obtain ⟨a, es, rfl, ha, S, hQ⟩ := h
  have h9 := S.few
  have h1 := S.pos
  refine ⟨_, rfl, a, _, rfl, .inr (SqT.of ha), _, _, rfl, rfl, sz_le (by decide), fun F hF => ⟨sz_le (by show 1 ≤ 1000000; decide), fun U hU => ⟨_, _, _, rfl, ?_⟩⟩⟩
  rw [iz_len]
  have kF : Kp none H (upd H F (.lst [])) := Kp.new hF
  have kU : Kp none (upd H F (.lst [])) (upd (upd H F (.lst [])) U (.lst [.int 1])) := Kp.new hU
  have nFU : F ≠ U := fun z => by rw [z, ← z, upd_same] at hU; cases hU
  have hU0 : H U = none := kF.fr U hU
  have k1 := kF.trans kU
  have eF1 : (upd (upd H F (.lst [])) U (.lst [.int 1])) F = some (.lst []) := by rw [upd_ne nFU, upd_same]
  have eU1 : (upd (upd H F (.lst [])) U (.lst [.int 1])) U = some (.lst (iz (facs 0))) := upd_same
  generalize upd (upd H F (.lst [])) U (.lst [.int 1]) = H1 at k1 eF1 eU1
  refine ⟨_, rfl, _, _, rfl, rfl, 1, (es.length : Int) - 1 + 1, rfl, by omega, ?_⟩
  refine for_it (n := ((es.length : Int) - 1 + 1 - 1).toNat) (wk_range (d := none) (H1 := H)) (fun i σ H' => Kp none H H' ∧ H' F = some (.lst []) ∧ H' U = some (.lst (iz (facs i))) ∧ ∃ z4, σ = [some (.ref a), some (.int ((es.length : Int) - 1)), some (.ref F), some (.ref U), z4, none, none]) ⟨k1, eF1, eU1, none, rfl⟩ (fun i σ H' _ p => p.1) (fun i x σ Hq H2 hi p y => ?_) (fun σ H2 p => ?_)
  · obtain ⟨k2, eF, eU, z4, rfl⟩ := p
    obtain ⟨rfl, rfl⟩ := y
    have hb : (Lin.fac i).natAbs < 2 ^ 20 := fac_lt (by omega)
    refine ⟨_, rfl, .inl ⟨rfl, _, SqL.of eU⟩, _, rfl, _, rfl, U, _, _, _, rfl, rfl, SqL.of eU, atI_last (facs_last i), _, rfl, _, _, rfl, rfl, wide_mul (a := 20) (b := 20) hb (by omega) (by decide) (by decide) (by decide), U, _, _, rfl, rfl, eU, sz_lt (by rw [iz_len, facs_len]; omega), k2.mut hU0, by rw [upd_ne nFU]; exact eF, ?_, _, rfl⟩
    rw [upd_same, facs_one]
    have : Lin.fac i * (1 + (i : Int)) = Lin.fac (i + 1) := by
      show _ = ((i : Nat) + 1 : Int) * Lin.fac i
      rw [Int.mul_comm, Int.add_comm]
    rw [← this]
    simp [iz]
  · obtain ⟨k2, eF, eU, z4, rfl⟩ := p
    rw [show ((es.length : Int) - 1 + 1 - 1).toNat = es.length - 1 by omega] at eU
    refine ⟨_, rfl, a, _, rfl, SqT.of (k2.t ha), for_it (wk_enumT (d := none) ha) (fun i σ H' => Kp none H H' ∧ H' U = some (.lst (iz (facs (es.length - 1)))) ∧ H' F = some (.lst (iz ((List.range i).map fun j => Lin.fac j * Lin.fac (es.length - 1 - j) * Lin.fn es j))) ∧ ∃ z4 z5 z6, σ = [some (.ref a), some (.int ((es.length : Int) - 1)), some (.ref F), some (.ref U), z4, z5, z6]) ⟨k2, eU, eF, _, _, _, rfl⟩ (fun i σ H' _ p => p.1) (fun i x σ H3 H4 hi p y => ?_) (fun σ H3 p => ?_)⟩
    · obtain ⟨k3, eU, eF, z4, z5, z6, rfl⟩ := p
      obtain ⟨T, x1, y1, rfl, hT, rfl, h1', h2'⟩ := y
      cases h1'
      obtain ⟨n, hn, rfl⟩ := ints_get h2'
      rw [iz_len] at hi
      have hb := S.bd i
      rw [getI hn] at hb
      have b1 := fac_lt (n := i) (by omega)
      have b2 := fac_lt (n := es.length - 1 - i) (by omega)
      have kT : Kp none H3 (upd H3 T (.tup [.int (i : Nat), .int n])) := Kp.new hT
      have eU4 := kT.l eU
      have eF4 := kT.l eF
      have at1 : atI (iz (facs (es.length - 1))) (i : Int) = some (.int (Lin.fac i)) := by rw [← facs_fn (i := es.length - 1) (j := i) (by omega)]; exact iz_at (by rw [facs_len]; omega)
      have at2 : atI (iz (facs (es.length - 1))) ((es.length : Int) - 1 - (i : Int)) = some (.int (Lin.fac (es.length - 1 - i))) := by
        rw [show (es.length : Int) - 1 - (i : Int) = ((es.length - 1 - i : Nat) : Int) by omega, ← facs_fn (i := es.length - 1) (j := es.length - 1 - i) (by omega)]
        exact iz_at (by rw [facs_len]; omega)
      have b3 : (Lin.fac i * Lin.fac (es.length - 1 - i)).natAbs < 2 ^ 40 := by rw [Int.natAbs_mul]; exact Lin.mul_lt_pow (A := 20) (B := 20) b1 b2
      refine ⟨T, _, rfl, SqT.of upd_same, rfl, _, _, rfl, _, _, rfl, rfl, ?_⟩
      refine ⟨_, rfl, .inl ⟨rfl, _, SqL.of eF4⟩, _, rfl, _, rfl, U, _, _, _, rfl, rfl, SqL.of eU4, at1, _, rfl, _, rfl, _, rfl, _, _, rfl, rfl, U, _, _, _, rfl, rfl, SqL.of eU4, at2, _, _, rfl, rfl, wide_mul (a := 20) (b := 20) b1 b2 (by decide) (by decide) (by decide), _, rfl, _, _, rfl, rfl, wide_mul (a := 40) (b := 64) b3 (Nat.lt_of_le_of_lt hb (by decide)) (by decide) (by decide) (by decide), F, _, _, rfl, rfl, eF4, sz_lt (by rw [iz_len, List.length_map, List.length_range]; omega), (k3.trans kT).mut hF, by rw [upd_ne nFU.symm]; exact eU4, ?_, _, _, _, rfl⟩
      rw [upd_same, List.range_succ, List.map_append, ← getI hn]
      simp [iz]
    · obtain ⟨k3, eU, eF, z4, z5, z6, rfl⟩ := p
      refine ⟨_, rfl, hQ _ _ k3 ⟨F, rfl, hF, ?_⟩⟩
      rw [eF, iz_len]
      rfl
def sp_killer_table (K : PySem.W.Frag) : Sp := fun vs H Q _ => ∃ (a : Addr) (es : List Int) (d : Nat), vs = [.ref a, .int d] ∧ H a = some (.tup (iz es)) ∧ Small es ∧ d ≤ es.length ∧ Ret none (NewTabT H (Lin.lvl es d)) H Q
theorem l__law_killer_table {vs : List V} {H : Hp} {Q : VK} {E : XK} (h : sp_killer_table K vs H Q E) : vs.length = 2 := by
  obtain ⟨a, es, d, rfl, _⟩ := h
  rfl
abbrev s__law_killer_table : Stmt := top 69
abbrev N__law_killer_table : List Str := ["_law_entries", "_law_degree", "_law_levels_here", "_law_at"]
theorem sc__law_killer_table : FnScope N__law_killer_table ["_law_entries", "_law_degree"] (defScope s__law_killer_table) := ⟨rfl, rfl, rfl, by decide +kernel, rfl, by decide +kernel, by decide +kernel⟩
theorem d__law_killer_table (B : Bt mg)  (c__law_levels : Cal P w K mg base 1 "_law_levels" (sp_levels K)) (D : Dd K mg "_law_killer_table" s__law_killer_table) : Cal P w K mg base 2 "_law_killer_table" (sp_killer_table K) := by
  refine D.cal sc__law_killer_table (fun _ _ _ _ _ _ us hl => match us, hl with | [_, _], _ => rfl) (fun vs H Q E h => ?_) (fun _ cdv A outer s H vs Q E hr h => ?_)
  · exact l__law_killer_table h
  have nd := sc__law_killer_table.nd
  refine ⟨_, (pss_cons (ps_set (i := 2) nd rfl (Or.inr rfl) (pc c__law_levels hr rfl (pa_cons (pv 0) pa_nil))) (pss_one (ps_ret (pe_lc (own := [("_law_at", 3)]) rfl nd (pi_range1 rfl B.range (pa_cons (pe_op op_sub (pe_callB (len_K K) rfl B.len PySem.boot_len (pa_cons (pv 0) pa_nil)) (pv 1)) pa_nil)) (blkOk_by (N := N__law_killer_table) (sc := defScope s__law_killer_table) (by decide +kernel)) (fun _ _ _ _ _ => (pg_name (i := 3) nd rfl (Or.inl rfl) (Or.inr rfl))) (fun _ _ _ _ _ => pts_nil) (fun _ _ _ _ _ => (pe_callTy (tuple_K K) rfl B.tuple (by decide +kernel) (pa_cons (pe_slice (sll_K K) (pv 2) (po_some (pv 3)) (po_some (pe_op op_add (pe_op op_add (pv 3) (pv 1)) pe_int))) pa_nil))))))), ?_⟩
  obtain ⟨a, es, d, rfl, ha, S, hd, hQ⟩ := h
  have h9 := S.few
  have h1 := S.pos
  refine ⟨_, rfl, a, es, rfl, ha, S, fun v H1 k1 e1 => ?_⟩
  obtain ⟨L, rfl, hL, eL⟩ := e1
  have ha1 := k1.t ha
  refine ⟨_, rfl, a, _, rfl, .inr (SqT.of ha1), _, rfl, _, _, rfl, rfl, _, rfl, ?_⟩
  rw [iz_len]
  refine ⟨by omega, by omega, fun D hD => lc_map (n := ((es.length : Int) - (d : Int)).toNat) (σ := [some (.ref a), some (.int d), some (.ref L), none]) (vs := [3]) (wk_range (d := none)) hD (by simp) (by omega) (fun _ _ => True) (fun i v H => ∃ p, v = .ref p ∧ H p = some (.tup (iz ((List.range (d + 1)).map fun j => Lin.fn (Lin.levels es) (i + j))))) trivial (fun _ _ _ _ => trivial) (fun i v H H' k z => let ⟨p, e, z⟩ := z; ⟨p, e, k.t z⟩) (fun i x H2 H3 hi k2 _ ac y R hR => ?_) (fun H2 ys k2 _ hD2 hlen hz => ?_)⟩
  · obtain ⟨rfl, rfl⟩ := y
    obtain ⟨acc, hacc⟩ := ac
    have eL2 := k2.l eL
    refine ⟨wipe1, _, rfl, _, rfl, _, rfl, _, rfl, _, rfl, _, _, rfl, rfl, _, _, rfl, rfl, _, rfl, L, _, rfl, SqL.of eL2, fun C hC => ?_⟩
    refine ⟨C, _, rfl, .inl ⟨SqL.of upd_same, fun l hl => ?_⟩⟩
    refine hR _ _ ((Kp.new hC).trans (Kp.new hl)) trivial fun o => ⟨l, rfl, ?_⟩
    have nl : l ≠ D := fun z => by
      rw [z, upd_ne (ne_of_none hacc hC)] at hl
      rw [hacc] at hl; cases hl
    rw [upd_ne nl, upd_same, show (0 : Int) + (i : Int) + (d : Int) + 1 = ((i + (d + 1) : Nat) : Int) by omega, show (0 : Int) + (i : Int) = (i : Int) by omega, cut_iz (by rw [levels_len]; omega)]
  · obtain ⟨qs, rfl, tq⟩ := tabT_of (f := fun i => (List.range (d + 1)).map fun j => Lin.fn (Lin.levels es) (i + j)) hlen hz
    refine hQ _ _ (k1.trans k2) ⟨D, qs, rfl, k1.fr D hD, hD2, ?_⟩
    rw [lvl_eq h1 hd, show es.length - d = ((es.length : Int) - (d : Int)).toNat by omega]
    exact tq
/-! ### _law_killer_rows, _law_least_kill -/
theorem Small.preL {es : List Int} (S : Small es) {d : Nat} (hd : d ≤ es.length) : KerPreL (Lin.lvl es d) (d + 1) := by
  have F := S.fits hd
  have O := Lin.ker_ok (rows := Lin.lvl es d) (w := d + 1) Lin.lvl_len
  have := S.few
  exact ⟨Lin.lvl_len, by omega, by omega, by have := lvl_count S d; omega, F.rowsL, O.told, F.toldB, F.toldN, F.toldL, F.foundE, F.fitL, F.foundN, O.eq⟩
def sp_killer_rows (K : PySem.W.Frag) : Sp := fun vs H Q _ => ∃ (a : Addr) (es : List Int) (d : Nat), vs = [.ref a, .int d] ∧ H a = some (.tup (iz es)) ∧ Small es ∧ d ≤ es.length ∧ Ret none (NewTabT H (Lin.killL es d)) H Q
theorem l__law_killer_rows {vs : List V} {H : Hp} {Q : VK} {E : XK} (h : sp_killer_rows K vs H Q E) : vs.length = 2 := by
  obtain ⟨a, es, d, rfl, _⟩ := h
  rfl
abbrev s__law_killer_rows : Stmt := top 70
abbrev N__law_killer_rows : List Str := ["_law_entries", "_law_degree", "_law_place", "_law_at"]
theorem sc__law_killer_rows : FnScope N__law_killer_rows ["_law_entries", "_law_degree"] (defScope s__law_killer_rows) := ⟨rfl, rfl, rfl, by decide +kernel, rfl, by decide +kernel, by decide +kernel⟩
theorem d__law_killer_rows (B : Bt mg)  (c__law_kernel : Cal P w K mg base 5 "_law_kernel" (sp_kernel K)) (c__law_killer_table : Cal P w K mg base 2 "_law_killer_table" (sp_killer_table K)) (D : Dd K mg "_law_killer_rows" s__law_killer_rows) : Cal P w K mg base 6 "_law_killer_rows" (sp_killer_rows K) := by
  refine D.cal sc__law_killer_rows (fun _ _ _ _ _ _ us hl => match us, hl with | [_, _], _ => rfl) (fun vs H Q E h => ?_) (fun _ cdv A outer s H vs Q E hr h => ?_)
  · exact l__law_killer_rows h
  have nd := sc__law_killer_rows.nd
  refine ⟨_, (pss_cons (ps_if (pt_cmpR op_ge (pv 1) (pe_callB (len_K K) rfl B.len PySem.boot_len (pa_cons (pv 0) pa_nil)) (nomark _)) (pss_one (ps_ret (pe_lc (own := [("_law_at", 3)]) rfl nd (pi_range1 rfl B.range (pa_cons (pe_op op_add (pv 1) pe_int) pa_nil)) (blkOk_by (N := N__law_killer_rows) (sc := defScope s__law_killer_rows) (by decide +kernel)) (fun _ _ _ _ _ => (pg_name (i := 3) nd rfl (Or.inr rfl) (Or.inl rfl))) (fun _ _ _ _ _ => pts_nil) (fun _ _ _ _ _ => (pe_callTy (tuple_K K) rfl B.tuple (by decide +kernel) (pa_cons (pe_lc (own := [("_law_place", 2)]) rfl nd (pi_range1 rfl B.range (pa_cons (pe_op op_add (pv 1) pe_int) pa_nil)) (blkOk_by (N := N__law_killer_rows) (sc := relS (lcSc (retE ((ifB ((defBody s__law_killer_rows).getD 0 (.Pass ⟨0, 0, 0, 0⟩))).getD 0 (.Pass ⟨0, 0, 0, 0⟩)))) (defScope s__law_killer_rows)) (by decide +kernel)) (fun _ _ _ _ _ => (pg_name (i := 2) nd rfl (Or.inl rfl) (Or.inr rfl))) (fun _ _ _ _ _ => pts_nil) (fun _ _ _ _ _ => (pe_callTy call_int1 rfl B.int (by decide +kernel) (pa_cons (pe_cmpR op_eq (pv 3) (pv 2) (nomark _)) pa_nil)))) pa_nil)))))) pss_nil) (pss_one (ps_ret (pc c__law_kernel hr rfl (pa_cons (pc c__law_killer_table hr rfl (pa_cons (pv 0) (pa_cons (pv 1) pa_nil))) (pa_cons (pe_op op_add (pv 1) pe_int) pa_nil)))))), ?_⟩
  obtain ⟨a, es, d, rfl, ha, S, hd, hQ⟩ := h
  have h9 := S.few
  refine ⟨_, rfl, _, rfl, a, _, rfl, .inr (SqT.of ha), _, _, rfl, rfl, _, rfl, ?_⟩
  by_cases c : es.length ≤ d
  · refine ifT (decide_eq_true (by rw [iz_len]; omega)) ?_
    refine ⟨_, rfl, _, _, rfl, rfl, _, rfl, by omega, by omega, fun D hD => lc_map (n := ((d : Int) + 1).toNat) (σ := [some (.ref a), some (.int d), none, none]) (vs := [3]) (wk_range (d := none)) hD (by simp) (by omega) (fun _ _ => True) (fun i v H => ∃ p, v = .ref p ∧ H p = some (.tup (iz ((List.range (d + 1)).map fun j => if i = j then 1 else 0)))) trivial (fun _ _ _ _ => trivial) (fun i v H H' k z => let ⟨p, e, z⟩ := z; ⟨p, e, k.t z⟩) (fun i x H2 H3 hi k2 _ ac y R hR => ?_) (fun H2 ys k2 _ hD2 hlen hz => ?_)⟩
    · obtain ⟨rfl, rfl⟩ := y
      obtain ⟨acc, hacc⟩ := ac
      refine ⟨wipe1, _, rfl, _, _, rfl, rfl, _, rfl, by omega, by omega, fun D2 hD2 => lc_map (n := ((d : Int) + 1).toNat) (σ := [some (.ref a), some (.int d), none, some (.int (0 + (i : Int)))]) (vs := [2]) (wk_range (d := none)) hD2 (by simp) (by omega) (fun _ _ => True) (fun j v _ => v = .int (if i = j then 1 else 0)) trivial (fun _ _ _ _ => trivial) (fun _ _ _ _ _ e => e) (fun j x H4 H5 hj k4 _ _ y R2 hR2 => ?_) (fun H4 ys k4 _ hD4 hlen hz => ?_)⟩
      · obtain ⟨rfl, rfl⟩ := y
        refine ⟨wipe1, _, rfl, _, rfl, rfl, .inr ⟨_, rfl, hR2 _ _ .refl trivial fun o => ?_⟩⟩
        by_cases e : i = j
        · subst e
          rw [if_pos rfl, eqT rfl]
          rfl
        · rw [if_neg e, eqF (by omega)]
          rfl
      · refine ⟨D2, _, rfl, .inl ⟨SqL.of hD4, fun l hl => ?_⟩⟩
        refine hR _ _ (k4.trans (Kp.new hl)) trivial fun o => ⟨l, rfl, ?_⟩
        rw [upd_ne (ne_of_none (k4.l hacc) hl).symm, upd_same, ints_of (f := fun j => if i = j then 1 else 0) hlen hz, show ((d : Int) + 1).toNat = d + 1 by omega]
    · obtain ⟨qs, rfl, tq⟩ := tabT_of (f := fun i => (List.range (d + 1)).map fun j => if i = j then (1 : Int) else 0) hlen hz
      refine hQ _ _ k2 ⟨D, qs, rfl, hD, hD2, ?_⟩
      unfold Lin.killL Lin.ident
      rw [if_pos c, show d + 1 = ((d : Int) + 1).toNat by omega]
      rw [show ((d : Int) + 1).toNat = d + 1 by omega] at tq ⊢
      exact tq
  · refine ifF (decide_eq_false (by rw [iz_len]; omega)) ?_
    refine ⟨_, rfl, _, rfl, a, es, d, rfl, ha, S, hd, fun v H1 k1 e1 => ?_⟩
    obtain ⟨L, ps, rfl, hL, eL, tL⟩ := e1
    refine ⟨_, rfl, _, _, rfl, rfl, L, ps, _, d + 1, rfl, eL, tL.any, S.preL hd, fun v H2 k2 e2 => ?_⟩
    obtain ⟨M, qs, rfl, hM, eM, tM⟩ := e2
    refine hQ _ _ (k1.trans k2) ⟨M, qs, rfl, k1.fr M hM, eM, ?_⟩
    unfold Lin.killL
    rw [if_neg c, (Lin.ker_ok (rows := Lin.lvl es d) (w := d + 1) Lin.lvl_len).eq]
    exact tM
theorem eqv_lT (a b : List (List Int)) : PyData.eqv (.list (dT a)) (.list (dT b)) = decide (a = b) := by rw [← eqv_T]; simp only [PyData.eqv]
def sp_least_kill (K : PySem.W.Frag) : Sp := fun vs H Q _ => ∃ (a : Addr) (es : List Int) (r : Nat), vs = [.ref a] ∧ H a = some (.tup (iz es)) ∧ Small es ∧ r ≤ es.length ∧ (∀ d, d < r → Lin.killL es d = []) ∧ Lin.killL es r ≠ [] ∧ Ret none (fun v _ => v = .int (r : Nat)) H Q
theorem l__law_least_kill {vs : List V} {H : Hp} {Q : VK} {E : XK} (h : sp_least_kill K vs H Q E) : vs.length = 1 := by
  obtain ⟨a, es, d, rfl, _⟩ := h
  rfl
abbrev s__law_least_kill : Stmt := top 71
abbrev N__law_least_kill : List Str := ["_law_entries", "_law_found"]
theorem sc__law_least_kill : FnScope N__law_least_kill ["_law_entries"] (defScope s__law_least_kill) := ⟨rfl, rfl, rfl, by decide +kernel, rfl, by decide +kernel, by decide +kernel⟩
theorem d__law_least_kill (B : Bt mg)  (c__law_killer_rows : Cal P w K mg base 6 "_law_killer_rows" (sp_killer_rows K)) (D : Dd K mg "_law_least_kill" s__law_least_kill) : Cal P w K mg base 7 "_law_least_kill" (sp_least_kill K) := by
  refine D.cal sc__law_least_kill (fun _ _ _ _ _ _ us hl => match us, hl with | [_], _ => rfl) (fun vs H Q E h => ?_) (fun _ cdv A outer s H vs Q E hr h => ?_)
  · exact l__law_least_kill h
  have nd := sc__law_least_kill.nd
  refine ⟨_, (pss_cons (ps_set (i := 1) nd rfl (Or.inl rfl) pe_int) (pss_cons (ps_while PassesOwn.never (pt_cmpR (op_eqD hr.units) (pc c__law_killer_rows hr rfl (pa_cons (pv 0) (pa_cons (pv 1) pa_nil))) (pe_lst pa_nil) (nomark _)) (pss_one (ps_set (i := 1) nd rfl (Or.inl rfl) (pe_op op_add (pv 1) pe_int)))) (pss_one (ps_ret (pv 1))))), ?_⟩
  obtain ⟨a, es, r, rfl, ha, S, hr, h0, h1, hQ⟩ := h
  refine ⟨fun m σ H' => Kp none H H' ∧ ∃ f : Nat, m = r - f ∧ f ≤ r ∧ σ = [some (.ref a), some (.int f)], ⟨r, .refl, 0, rfl, Nat.zero_le _, rfl⟩, ?_⟩
  rintro m σ H1 ⟨k1, f, rfl, hf, rfl⟩
  refine ⟨_, rfl, _, rfl, a, es, f, rfl, k1.t ha, S, by omega, fun v H2 k2 e2 => ?_⟩
  obtain ⟨M, qs, rfl, hM, eM, tM⟩ := e2
  refine ⟨sz_le (by decide), fun N hN => ?_⟩
  have kN : Kp none H2 (upd H2 N (.lst [])) := Kp.new hN
  refine ⟨_, _, .lst (SqL.of (kN.l eM)) (dp_tab (tM.keep kN)), .lst (SqL.of upd_same) (show DpAll _ _ [] (dT []) from .nil), shp_lT _, shp_lT _, _, rfl, ?_⟩
  rw [eqv_lT]
  have k3 := (k1.trans k2).trans kN
  by_cases e : f = r
  · subst e
    refine ifF (decide_eq_false h1) ⟨_, rfl, hQ _ _ k3 rfl⟩
  · refine ifT (decide_eq_true (h0 f (by omega))) ⟨fun σ' H' => Kp none H H' ∧ ∃ f' : Nat, f' = f + 1 ∧ σ' = [some (.ref a), some (.int f')], fun σ' H' p => ?_, ?_⟩
    · obtain ⟨k, f', rfl, rfl⟩ := p
      exact ⟨r - (f + 1), by omega, k, f + 1, rfl, by omega, rfl⟩
    · exact ⟨_, rfl, _, _, rfl, rfl, k3, f + 1, rfl, rfl⟩
end
end W0
/-! ## W21 -/
set_option Elab.async false
set_option linter.all false
set_option maxRecDepth 100000
set_option maxHeartbeats 4000000
namespace W0
open PySem PySem.Spec PyProof.Rows L2 SlX
/-! ### tuple * 1 -/
theorem tuple_mul1 (l : Addr) (items : Array Value) (n : Nat) (dd : Option Addr) (sl : Array (Option Value)) (u : Tok) :
    Meets (Builtin.«tuple.__mul__» ⟨[.ref l, .int 1 u], []⟩) (fun _ R s => s.heap.get? l = some { cls := .type "tuple", dict := dd, data := .seq items n, slots := sl } ∧ R (.ok (.ret (Value.ref l))) s) :=
  .of_wp fun prog w A R s h => by
    obtain ⟨hp, g, d, tk, os⟩ := s
    obtain ⟨hl, h⟩ := h
    have f1 := AutoSeq1.idx_int
    have c0 : (decide ((1 : Int) < -(2 ^ 63)) || decide ((1 : Int) ≥ 2 ^ 63)) = false := by decide
    have c1 : (items.isEmpty || (1 : Int) == 1) = true := by rw [show ((1 : Int) == 1) = true from rfl, Bool.or_true]
    wp_walk using wpAny_loadPart' hl
    repeat (first
      | (refine wpAny_ite_false (decide_eq_false (by rw [c0]; exact Bool.false_ne_true)) ?_; wp_walk using wpAny_loadPart' hl)
      | (refine wpAny_ite_true (decide_eq_true c1) ?_; wp_walk using wpAny_loadPart' hl))
    exact ⟨_, rfl, h⟩
def rRep1 (K : PySem.W.Frag) : R2 := fun x y H Q => ∃ l xs, x = .ref l ∧ y = .int 1 ∧ SqT K H l xs ∧ Q (.ref l) H
section
variable {X : Cx}
theorem op_rep1 : OpR X (binaryOp .Mult) (rRep1 X.K) := by
  intro pins s σ H x y v u Q I rx ry h
  obtain ⟨l, xs, rfl, rfl, hT, q⟩ := h
  cases rx
  obtain ⟨t, rfl⟩ := ry
  obtain ⟨its, r, ⟨⟨cls, dd, data, sl⟩, ho, hc, n, hd⟩, hs⟩ := I.tuple hT
  simp only at hc hd
  subst hc hd
  exact wpAny_binaryOp_repeat_ref (T := "tuple") (U := "int") (by decide) ⟨_, ho, rfl⟩ (fun s' => typeIs_int s' 1 t) noFill_tuple_mul PySem.F.fills_int_mul PySem.F.slot_int_rmul repeat_tuple PySem.F.slot_int_index.lookup
    (call_meets PySem.F.slot_int_rmul (typeIs_int s 1 t) PySem.F.entry_int_rmul (PySem.F.args_int_rmul_2 _ _) (int_rmul_tuple 1 t l its.toArray n dd sl)
      ⟨ho, rfl, ⟨_, ho, rfl⟩, call_meets PySem.F.slot_tuple_mul ⟨_, ho, rfl⟩ PySem.F.entry_tuple_mul (PySem.F.args_tuple_mul_2 _ _) (tuple_mul1 l its.toArray n dd sl t) ⟨ho, .ref l, H, I, rfl, q⟩⟩)
theorem op_repA : OpR X (binaryOp .Mult) (fun x y H Q => rRepT X.K x y H Q ∨ rRep1 X.K x y H Q) := fun pins s σ H x y v u Q I rx ry h => h.elim (op_repT pins s σ H x y v u Q I rx ry) (op_rep1 pins s σ H x y v u Q I rx ry)
end
end W0
/-! ## W22 -/
set_option Elab.async false
set_option linter.all false
set_option maxRecDepth 100000
set_option maxHeartbeats 8000000
namespace W0
open PySem PySem.Spec PyProof.Rows L2 SlX
section
variable {P : Program} {w : World} {K : PySem.W.Frag} {mg : Str → Option Value} {base : Heap}
theorem Dice.tg {H H' : Hp} {d : Addr} {m : Nat} {P : Addr} (h : Dice H d m) (g : GxR.TabG H P) (k : Kp (some d) H H') : GxR.TabG H' P := by
  refine k.tg g fun z => ?_
  obtain ⟨a, b, c, e, _⟩ := h
  obtain ⟨ps, e2, _⟩ := g
  rw [Option.some.inj z, e2] at e
  cases e
theorem eqv_lI (a b : List Int) : PyData.eqv (.list (dI a)) (.list (dI b)) = decide (a = b) := by rw [← eqv_I]; simp only [PyData.eqv]
theorem eqv_tI (a b : List Int) : PyData.eqv (.tuple (dI a)) (.tuple (dI b)) = decide (a = b) := by rw [← eqv_I]; simp only [PyData.eqv]
def rks (es : List Int) : List Int := (Lin.ranks es).map fun n : Nat => (n : Int)
theorem rks_len (es : List Int) : (rks es).length = es.length := by unfold rks Lin.ranks; rw [List.length_map, List.length_map, List.length_range]
theorem rks_eq (es : List Int) : rks es = (List.range es.length).map fun i => ((Lin.rankP es i : Nat) : Int) := by unfold rks Lin.ranks; rw [List.map_map]; rfl
theorem rks_fn {es : List Int} {i : Nat} (h : i < es.length) : Lin.fn (rks es) i = (Lin.rankP es i : Nat) := by
  refine getI ?_
  rw [rks_eq, List.getElem?_map, List.getElem?_range h]
  rfl
theorem min3 (a b c : Int) : nuMin3 (.int a) (.int b) (.int c) = some (.int (min a (min b c))) := by
  have two : ∀ x y : Int, nuMin2 (.int x) (.int y) = some (.int (min x y)) := fun x y => by
    show some (if decide (y < x) = true then V.int y else V.int x) = _
    by_cases h : y < x
    · rw [if_pos (decide_eq_true h)]
      congr 2; omega
    · rw [if_neg (by rw [decide_eq_false h]; decide)]
      congr 2; omega
  show (nuMin2 (.int a) (.int b)).bind (fun m => nuMin2 m (.int c)) = _
  rw [two]
  show nuMin2 (.int (min a b)) (.int c) = _
  rw [two]
  congr 2; omega
theorem kills_row {es : List Int} {d : Nat} : ∀ r ∈ Lin.kills es d, r.length = d + 1 := by
  obtain ⟨ls, L, _⟩ := (Lin.ker_ok (rows := Lin.lvl es d) (w := d + 1) Lin.lvl_len).ech
  exact L.len
theorem mk_at {H : Hp} {t x dx : Addr} {es : List Int} {R : VK} (ht : H t = some (.tup (iz es))) (S : Ents es) (hx : H x = none) (hdx : H dx = none) (hne : dx ≠ x) (hR : ∀ H', Kp none H H' → FormAt K H' x t es → R .non H') :
    sp_formInit K [.ref x, .ref t] (upd (upd H dx (.own x)) x (.ins (cF K) dx [])) R E0 := by
  refine ⟨x, dx, .ref t, t, rfl, .inl ⟨upd_same, rfl⟩, .inl ⟨rfl, es, ?_, S⟩, fun H' k => hR _ (make_kp hx hdx hne k) (form_at hx hdx hne ht k)⟩
  rw [upd_ne (ne_of_none ht hx), upd_ne (ne_of_none ht hdx)]
  exact ht
/-! ### _law_right -/
def sp_right (K : PySem.W.Frag) : Sp := fun vs H Q _ => ∃ (d : Addr) (m : Nat), vs = [.ref d] ∧ Dice H d (m + 101) ∧ GxR.TabG H (tabK K) ∧ Ret (some d) (fun v H' => v = .bl true ∧ Dice H' d m) H Q
theorem l__law_right {vs : List V} {H : Hp} {Q : VK} {E : XK} (h : sp_right K vs H Q E) : vs.length = 1 := by
  obtain ⟨a, es, rfl, _⟩ := h
  rfl
abbrev s__law_right : Stmt := top 72
abbrev N__law_right : List Str := ["_law_dice_here", "_law_form_here", "_law_size", "_law_told", "_law_degree", "_law_some", "_law_one", "_law_least"]
theorem sc__law_right : FnScope N__law_right ["_law_dice_here"] (defScope s__law_right) := ⟨rfl, rfl, rfl, by decide +kernel, rfl, by decide +kernel, by decide +kernel⟩
theorem d__law_right (B : Bt mg) (C : Fm K mg) (cFi : Cat P w K mg base 5 (He.ma K (cF K) "__init__") (sp_formInit K)) {fi fl : Addr} (IL : ItL K (cF K) fi fl) (cI : Cat P w K mg base 1 fi (sp_iter K)) (cL : Cat P w K mg base 1 fl (sp_flen K)) (c__law_least_kill : Cal P w K mg base 7 "_law_least_kill" (sp_least_kill K)) (c__law_shared : Cal P w K mg base 2 "_law_shared" (sp_shared K)) (c__law_killer_rows : Cal P w K mg base 6 "_law_killer_rows" (sp_killer_rows K)) (c_killers : Cal P w K mg base 8 "killers" (sp_killers K)) (c__law_rank : Cal P w K mg base 5 "_law_rank" (sp_rank K)) (c__law_killer_table : Cal P w K mg base 2 "_law_killer_table" (sp_killer_table K)) (c_killer_ranks : Cal P w K mg base 7 "killer_ranks" (sp_killer_ranks K)) (c__law_form : Cal P w K mg base 5 "_law_form" (sp_form K)) (c__law_roll : Cal P w K mg base 1 "_law_roll" (sp_roll K)) (D : Dd K mg "_law_right" s__law_right) : Cal P w K mg base 9 "_law_right" (sp_right K) := by
  refine D.cal sc__law_right (fun _ _ _ _ _ _ us hl => match us, hl with | [_], _ => rfl) (fun vs H Q E h => ?_) (fun _ cdv A outer s H vs Q E hr h => ?_)
  · exact l__law_right h
  have nd := sc__law_right.nd
  refine ⟨_, (pss_cons (ps_set (i := 1) nd rfl (Or.inr rfl) (pc c__law_form hr rfl (pa_cons (pv 0) (pa_cons (pc c__law_roll hr rfl (pa_cons (pv 0) (pa_cons pe_int pa_nil))) pa_nil)))) (pss_cons (ps_asg (pe_tup (pa_cons (pe_op op_sub (pe_callB (len_K K) rfl B.len PySem.boot_len (pa_cons (pv 1) pa_nil)) pe_int) (pa_cons (pc c_killer_ranks hr rfl (pa_cons (pmk cFi C.mF hr rfl C.gF (pa_cons (pv 1) pa_nil)) pa_nil)) pa_nil))) (pg_tup_K K 2 rfl (pgs_cons (pg_name (i := 2) nd rfl (Or.inr rfl) (Or.inl rfl)) (pgs_cons (pg_name (i := 3) nd rfl (Or.inl rfl) (Or.inl rfl)) pgs_nil)))) (pss_cons (ps_if (pt_cmpR (op_neD hr.units) (pe_callTy (list_K K) rfl B.list (by decide +kernel) (pa_cons (pv 3) pa_nil)) (pe_lc (own := [("_law_degree", 4)]) rfl nd (pi_range1 rfl B.range (pa_cons (pe_op op_add (pv 2) pe_int) pa_nil)) (blkOk_by (N := N__law_right) (sc := defScope s__law_right) (by decide +kernel)) (fun _ _ _ _ _ => (pg_name (i := 4) nd rfl (Or.inl rfl) (Or.inr rfl))) (fun _ _ _ _ _ => pts_nil) (fun _ _ _ _ _ => (pc c__law_rank hr rfl (pa_cons (pc c__law_killer_table hr rfl (pa_cons (pv 1) (pa_cons (pv 4) pa_nil))) (pa_cons (pe_op op_add (pv 4) pe_int) pa_nil))))) (nomark _)) (pss_one (ps_ret pe_bl)) pss_nil) (pss_cons (ps_if (pt_cmpR (op_neD hr.units) (pv 3) (pe_revT (pv 3)) (nomark _)) (pss_one (ps_ret pe_bl)) pss_nil) (pss_cons (ps_for PassesOwn.never rfl (pi_range1 rfl B.range (pa_cons (pe_op op_add (pv 2) pe_int) pa_nil)) (pg_name (i := 4) nd rfl (Or.inl rfl) (Or.inl rfl)) (pss_cons (ps_setLc (i := 5) (own := [("_law_one", 6)]) rfl nd rfl rfl (sw_true rfl rfl rfl (by decide +kernel)) (pi_tup_K K (pc c_killers hr rfl (pa_cons (pmk cFi C.mF hr rfl C.gF (pa_cons (pv 1) pa_nil)) (pa_cons (pv 4) pa_nil)))) (blkOk_by (N := N__law_right) (sc := defScope s__law_right) (by decide +kernel)) (fun _ _ _ _ _ => (pg_name (i := 6) nd rfl (Or.inl rfl) (Or.inr rfl))) (fun _ _ _ _ _ => pts_nil) (fun _ _ _ _ _ => (pe_callTy (tup_form K rfl IL cI cL hr) rfl B.tuple (by decide +kernel) (pa_cons (pv 6) pa_nil)))) (pss_cons (ps_if (pt_cmpR (op_neD hr.units) (pv 5) (pc c__law_killer_rows hr rfl (pa_cons (pv 1) (pa_cons (pv 4) pa_nil))) (nomark _)) (pss_one (ps_ret pe_bl)) pss_nil) (pss_one (ps_if (PW.pt (pw_and (pt_cmpR op_le (pv 4) (pv 2) (nomark _)) (pw_and1 (pt_cmpR op_ne (pe_callB (len_K K) rfl B.len PySem.boot_len (pa_cons (pv 5) pa_nil)) (pe_op op_sub (pe_op op_add (pv 4) pe_int) (pe_ix (ixt_K K) (pv 3) (pv 4) (fun _ _ => rfl))) (nomark _))))) (pss_one (ps_ret pe_bl)) pss_nil))))) (pss_cons (ps_if (pt_cmpR op_eq (pc c__law_shared hr rfl (pa_cons (pv 1) pa_nil)) pe_int (nomark _)) (pss_one (ps_ret (pe_cmpR (op_eqD hr.units) (pv 3) (pe_op op_repA (pe_tup (pa_cons pe_int pa_nil)) (pe_op op_add (pv 2) pe_int)) (nomark _)))) pss_nil) (pss_cons (ps_set (i := 7) nd rfl (Or.inr rfl) (pc c__law_least_kill hr rfl (pa_cons (pv 1) pa_nil))) (pss_cons (ps_if (PW.pt (pw_or (pt_not (pt_chain op_le op_le pe_int (pv 7) (pe_op op_fdivC (pe_op op_add (pv 2) pe_int) pe_int))) (pw_or1 (pt_cmpR op_ne (pe_callB (cr_maxT rfl) rfl B.max (by decide +kernel) (pa_cons (pv 3) pa_nil)) (pv 7) (nomark _))))) (pss_one (ps_ret pe_bl)) pss_nil) (pss_one (ps_ret (pe_cmpR (op_eqD hr.units) (pe_callTy (list_K K) rfl B.list (by decide +kernel) (pa_cons (pv 3) pa_nil)) (pe_lc (own := [("_law_degree", 4)]) rfl nd (pi_range1 rfl B.range (pa_cons (pe_op op_add (pv 2) pe_int) pa_nil)) (blkOk_by (N := N__law_right) (sc := defScope s__law_right) (by decide +kernel)) (fun _ _ _ _ _ => (pg_name (i := 4) nd rfl (Or.inl rfl) (Or.inr rfl))) (fun _ _ _ _ _ => pts_nil) (fun _ _ _ _ _ => (pe_callB (call_min3Nu rfl) rfl B.min (by decide +kernel) (pa_cons (pe_op op_add (pv 4) pe_int) (pa_cons (pv 7) (pa_cons (pe_op op_sub (pe_op op_add (pv 2) pe_int) (pv 4)) pa_nil)))))) (nomark _)))))))))))), ?_⟩
  obtain ⟨d, m, rfl, hd, hg, hQ⟩ := h
  refine ⟨_, rfl, _, rfl, d, m + 100, 9, rfl, hd, by decide, fun v H1 k1 e1 => ?_⟩
  obtain ⟨d1, n, rfl, n0, n9⟩ := e1
  obtain ⟨n, rfl⟩ := Int.eq_ofNat_of_zero_le n0
  refine ⟨d, m, n, rfl, d1, by omega, fun v H2 k2 e2 => ?_⟩
  obtain ⟨d2, Tf, es, rfl, hTf, eTf, ln, bd⟩ := e2
  have S : Small es := ⟨by omega, by omega, bd⟩
  have k12 := k1.trans k2
  have hg2 := hd.tg hg k12
  refine ⟨_, rfl, Tf, _, rfl, .inr (SqT.of eTf), _, _, rfl, rfl, _, rfl, fun f dx hf hdx hne => mk_at eTf S.ents hf hdx hne fun H3 k3 ff => ⟨rfl, ?_⟩⟩
  refine ⟨f, Tf, es, rfl, ff, S, k3.tg hg2, fun v H4 k4 e4 => ?_⟩
  obtain ⟨R, rfl, hR, eR⟩ := e4
  rw [show (Lin.ranks es).map (fun n : Nat => (n : Int)) = rks es from rfl] at eR
  refine ⟨sz_le (by show 2 ≤ 1000000; decide), fun U hU => ⟨U, _, rfl, SqT.of upd_same, rfl, _, _, rfl, _, _, rfl, rfl, ?_⟩⟩
  rw [iz_len]
  have k5 : Kp none H2 (upd H4 U (.tup [.int ((es.length : Int) - 1), .ref R])) := (k3.trans k4).trans (Kp.new hU)
  have eT5 := k5.t eTf
  have eR5 : (upd H4 U (.tup [.int ((es.length : Int) - 1), .ref R])) R = some (.tup (iz (rks es))) := (Kp.new (d := none) hU).t eR
  have fin : ∀ (H' : Hp), Kp none (upd H4 U (.tup [.int ((es.length : Int) - 1), .ref R])) H' → Q (.bl true) H' := fun H' k => hQ _ _ ((k12.trans k5.any).trans k.any) ⟨rfl, (d2.keep k5).keep k⟩
  have hg5 := k5.tg hg2
  generalize upd H4 U (.tup [.int ((es.length : Int) - 1), .ref R]) = H5 at k5 eT5 eR5 fin hg5
  clear k5 hU eR hR k4 k3 ff hf hg2 eTf hTf
  have tgo : ∀ {H'}, Kp none H5 H' → GxR.TabG H' (tabK K) := fun k => k.tg hg5
  -- the ranks are the law's own
  refine ⟨_, rfl, R, _, rfl, .inr (SqT.of eR5), fun l hl => ?_⟩
  have kl : Kp none H5 (upd H5 l (.lst (iz (rks es)))) := Kp.new hl
  have el : (upd H5 l (.lst (iz (rks es)))) l = some (.lst (iz (rks es))) := upd_same
  generalize upd H5 l (.lst (iz (rks es))) = H6 at kl el
  refine ⟨_, rfl, _, _, rfl, rfl, _, rfl, by omega, by omega, fun D hD => lc_map (n := ((es.length : Int) - 1 + 1).toNat) (σ := [some (.ref d), some (.ref Tf), some (.int ((es.length : Int) - 1)), some (.ref R), none, none, none, none]) (vs := [4]) (wk_range (d := none)) hD (by simp) (by omega) (fun _ _ => True) (fun i v _ => v = .int (Lin.rankP es i : Nat)) trivial (fun _ _ _ _ => trivial) (fun _ _ _ _ _ e => e) (fun i x H7 H8 hi k7 _ _ y Rr hR => ?_) (fun H7 ys k7 _ hD7 hlen hz => ?_)⟩
  · obtain ⟨rfl, rfl⟩ := y
    have e0 : (0 : Int) + (i : Int) = (i : Int) := Int.zero_add _
    have F := S.fits (d := i) (by omega)
    refine ⟨wipe1, _, rfl, _, rfl, Tf, es, i, congrArg (fun z : Int => [V.ref Tf, V.int z]) e0, (kl.trans k7).t eT5, S, by omega, fun v H9 k9 e9 => ?_⟩
    obtain ⟨L, ps, rfl, hL, eL, tL⟩ := e9
    refine ⟨_, rfl, _, _, rfl, rfl, L, ps, _, i + 1, congrArg (fun z : Int => [V.ref L, V.int (z + 1)]) e0, eL, tL.any, Lin.lvl_len, by omega, by omega, by have := lvl_count S i; omega, F.rowsL, fun v H10 k10 e10 => hR _ _ (k9.trans k10) trivial fun o => ?_⟩
    rw [e10, Lin.rank_eq]
  rw [ints_of (f := fun i => ((Lin.rankP es i : Nat) : Int)) hlen hz, show ((es.length : Int) - 1 + 1).toNat = es.length by omega, ← rks_eq] at hD7
  refine ⟨_, _, .lst (SqL.of (k7.l el)) (dp_iz _ _), .lst (SqL.of hD7) (dp_iz _ _), shp_lI _, shp_lI _, _, rfl, ?_⟩
  rw [eqv_lI, decide_eq_true rfl]
  refine ifF rfl ?_
  clear hz hlen hD7
  have k57 := kl.trans k7
  -- alike from both ends
  refine ⟨_, rfl, _, rfl, R, _, rfl, SqT.of (k57.t eR5), fun l2 hl2 => ?_⟩
  have k8 : Kp none H7 (upd H7 l2 (.tup (iz (rks es)).reverse)) := Kp.new hl2
  have pal : (iz (rks es)).reverse = iz (rks es) := by
    unfold iz rks
    rw [← List.map_reverse, ← List.map_reverse, Lin.ranks_pal]
  have e8 : (upd H7 l2 (.tup (iz (rks es)).reverse)) l2 = some (.tup (iz (rks es))) := by rw [upd_same, pal]
  generalize upd H7 l2 (.tup (iz (rks es)).reverse) = H8 at k8 e8
  have k58 := k57.trans k8
  refine ⟨_, _, .tup (SqT.of (k58.t eR5)) (dp_iz _ _), .tup (SqT.of e8) (dp_iz _ _), shp_tI _, shp_tI _, _, rfl, ?_⟩
  rw [eqv_tI, decide_eq_true rfl]
  refine ifF rfl ?_
  clear k57 kl el hl k7 hD e8 hl2 pal
  -- the killers, degree by degree
  refine ⟨_, rfl, _, _, rfl, rfl, (es.length : Int) - 1 + 2, rfl, by omega, by omega, ?_⟩
  refine for_it (n := ((es.length : Int) - 1 + 2).toNat) (wk_range (d := none) (H1 := H5)) (fun i σ H' => Kp none H5 H' ∧ ∃ z4 z5 z6, σ = [some (.ref d), some (.ref Tf), some (.int ((es.length : Int) - 1)), some (.ref R), z4, z5, z6, none]) ⟨k58, _, _, _, rfl⟩ (fun i σ H' _ p => p.1) (fun i x σ Hq H9 hi p y => ?_) (fun σ H9 p => ?_)
  · obtain ⟨k9, z4, z5, z6, rfl⟩ := p
    obtain ⟨rfl, rfl⟩ := y
    have e0 : (0 : Int) + (i : Int) = (i : Int) := Int.zero_add _
    have hile : i ≤ es.length := by omega
    refine ⟨_, rfl, fun f dx hf hdx hne => mk_at (k9.t eT5) S.ents hf hdx hne fun H10 k10 ff => ⟨rfl, ?_⟩⟩
    refine ⟨_, rfl, f, Tf, es, i, congrArg (fun z : Int => [V.ref f, V.int z]) e0, ff, S, hile, tgo (k9.trans k10), fun v H11 k11 e11 => ?_⟩
    obtain ⟨T, fs, rfl, hT, eT, FF⟩ := e11
    have k911 := (k9.trans k10).trans k11
    have cnt := kills_cnt es i
    refine ⟨T, rfl, ⟨_, SqT.of eT⟩, fun D hD => lc_map (σ := [some (.ref d), some (.ref Tf), some (.int ((es.length : Int) - 1)), some (.ref R), some (.int (0 + (i : Int))), z5, z6, none]) (vs := [6]) (wk_tup (d := none) eT) hD (by simp) (by rw [List.length_map, FF.1]; omega) (fun _ _ => True) (fun j v H => ∃ p, v = .ref p ∧ H p = some (.tup (iz ((Lin.kills es i).getD j [])))) trivial (fun _ _ _ _ => trivial) (fun j v H H' k z => let ⟨p, e, z⟩ := z; ⟨p, e, k.t z⟩) (fun j x H12 H13 hj k12 _ ac y Rr hR => ?_) (fun H12 ys k12 _ hD12 hlen hz => ?_)⟩
    · obtain ⟨rfl, hx⟩ := y
      obtain ⟨acc, hacc⟩ := ac
      obtain ⟨g, hg0, rfl⟩ := refs_get hx
      have hjl : j < (Lin.kills es i).length := by rw [← FF.1]; exact (List.getElem?_eq_some_iff.mp hg0).1
      have hr := List.getElem?_eq_getElem hjl
      obtain ⟨t, ft⟩ := FF.2 j g _ hg0 hr
      refine ⟨wipe1, _, rfl, g, t, _, rfl, ft.keep k12, by rw [kills_row _ (List.getElem_mem hjl)]; omega, fun v H14 k14 e14 => ?_⟩
      obtain ⟨p, rfl, hp, ep⟩ := e14
      refine hR _ _ k14 trivial fun o => ⟨p, rfl, ?_⟩
      rw [upd_ne (ne_of_none hacc hp).symm, getD_of hr]
      exact ep
    obtain ⟨qs, rfl, tq⟩ := tabT_of (f := fun j => (Lin.kills es i).getD j []) hlen hz
    rw [List.length_map, FF.1, rng_rows (fun r => r), List.map_id'] at tq
    have k912 := k911.trans k12
    refine ⟨_, rfl, _, rfl, _, rfl, Tf, es, i, congrArg (fun z : Int => [V.ref Tf, V.int z]) e0, k912.t eT5, S, hile, fun v H13 k13 e13 => ?_⟩
    obtain ⟨M, ms, rfl, hM, eM, tM⟩ := e13
    refine ⟨_, _, .lst (SqL.of (k13.l hD12)) (dp_tab (tq.keep k13)), .lst (SqL.of eM) (dp_tab tM), shp_lT _, shp_lT _, _, rfl, ?_⟩
    rw [eqv_lT, decide_eq_true (Lin.kills_killL S.pos hile)]
    refine ifF rfl ?_
    have k913 := k912.trans k13
    refine ⟨_, rfl, _, rfl, _, _, rfl, rfl, _, rfl, ?_⟩
    by_cases hlast : i < es.length
    · refine ifT (decide_eq_true (by omega)) ?_
      have at1 : atI (iz (rks es)) (0 + (i : Int)) = some (.int (Lin.rankP es i : Nat)) := by rw [e0, ← rks_fn hlast]; exact iz_at (by rw [rks_len]; exact hlast)
      refine ⟨_, rfl, D, _, rfl, .inl (SqL.of (k13.l hD12)), _, rfl, _, _, rfl, rfl, _, rfl, _, rfl, R, _, _, _, rfl, rfl, SqT.of (k913.t eR5), at1, _, _, rfl, rfl, rfl, _, rfl, ifF ?_ ⟨k913, _, _, _, rfl⟩⟩
      have := Lin.kills_len es i
      have hq := tq.1
      rw [show decide (V.int ((qs.map V.ref).length : Nat) = V.int (0 + (i : Int) + 1 - (Lin.rankP es i : Nat))) = true from decide_eq_true (by rw [List.length_map]; congr 1; omega)]
      rfl
    · refine ifF (decide_eq_false (by omega)) (ifF rfl ⟨k913, _, _, _, rfl⟩)
  · obtain ⟨k9, z4, z5, z6, rfl⟩ := p
    refine ⟨_, rfl, Tf, es, rfl, .inr (k9.t eT5), rfl, _, rfl, ?_⟩
    by_cases hz : Lin.shN es = 0
    · refine ifT (eqT (by omega)) ?_
      have rz : rks es = List.replicate es.length 0 := by unfold rks; rw [Lin.ranks_zero hz, List.map_replicate]; rfl
      have done : ∀ (q : Addr) (H' : Hp), Kp none H5 H' → H' q = some (.tup (iz (List.replicate es.length 0))) → rEqD K (.ref R) (.ref q) H' Q := fun q H' k e => ⟨_, _, .tup (SqT.of (k.t eR5)) (dp_iz _ _), .tup (SqT.of e) (dp_iz _ _), shp_tI _, shp_tI _, by rw [eqv_tI, decide_eq_true rz]; exact fin _ k⟩
      refine ⟨_, rfl, sz_le (by show 1 ≤ 1000000; decide), fun p hp => ⟨_, rfl, _, _, rfl, rfl, ?_⟩⟩
      have kp : Kp none H9 (upd H9 p (.tup [.int 0])) := Kp.new hp
      by_cases h1 : es.length = 1
      · refine .inr ⟨p, _, rfl, by show V.int ((es.length : Int) - 1 + 1) = V.int 1; congr 1; omega, SqT.of upd_same, done p _ (k9.trans kp) ?_⟩
        rw [upd_same, h1]
        rfl
      · refine .inl ⟨p, _, _, rfl, rfl, SqT.of upd_same, by simp, by have := S.pos; omega, by have := S.few; omega, by decide, fun q hq => ?_⟩
        refine done q _ ((k9.trans kp).trans (Kp.new hq)) ?_
        rw [upd_same]
        have : (List.replicate ((es.length : Int) - 1 + 1).toNat [V.int 0]).flatten = iz (List.replicate es.length 0) := by
          rw [rep_flat, show ((es.length : Int) - 1 + 1).toNat = es.length by omega]
          unfold iz
          rw [List.map_replicate]
        exact congrArg (fun z => some (HO.tup z)) this
    · refine ifF (eqF (by omega)) ?_
      obtain ⟨r, r1, r2, r3, r4, r5, r6⟩ := Lin.least_ex S.pos hz
      refine ⟨_, rfl, Tf, es, r, rfl, k9.t eT5, S, r1, r2, r3, fun v H10 k10 e10 => ?_⟩
      subst e10
      have k910 := k9.trans k10
      have half : Int.fdiv ((es.length : Int) - 1 + 2) 2 = ((es.length : Int) + 1) / 2 := by rw [Int.fdiv_eq_ediv_of_nonneg _ (by decide)]; congr 1; omega
      refine ⟨_, rfl, _, _, rfl, rfl, true, congrArg V.bl (decide_eq_true (by omega)), _, rfl, _, _, rfl, rfl, _, _, rfl, rfl, divc_of (by decide) (lt_bits (a := 100) (b := 13400) (by have := S.few; omega) (by decide)), _, _, rfl, rfl, _, rfl, ?_⟩
      have c1 : decide ((r : Int) ≤ Int.fdiv ((es.length : Int) - 1 + 2) 2) = true := decide_eq_true (by rw [half]; omega)
      show if (!decide ((r : Int) ≤ Int.fdiv ((es.length : Int) - 1 + 2) 2)) = true then _ else _
      rw [c1]
      refine ifF rfl ?_
      have mem : ∀ x, x ∈ rks es → x ≤ (r : Int) := fun x hx => by
        rw [rks_eq] at hx
        obtain ⟨i, hi, rfl⟩ := List.mem_map.mp hx
        have := r6 i (List.mem_range.mp hi)
        omega
      have top : (r : Int) ∈ rks es := by
        rw [rks_eq]
        refine List.mem_map.mpr ⟨r - 1, List.mem_range.mpr (by omega), ?_⟩
        have := r6 (r - 1) (by omega)
        omega
      refine ⟨_, rfl, R, rks es, rfl, SqT.of (k910.t eR5), by rw [rks_len]; exact S.pos, fun mx hmx hle => ⟨_, rfl, rfl, _, rfl, ?_⟩⟩
      have emx : mx = (r : Int) := Int.le_antisymm (mem mx hmx) (hle _ top)
      rw [eqT emx]
      refine ifF rfl ?_
      refine ⟨_, rfl, R, _, rfl, .inr (SqT.of (k910.t eR5)), fun l hl => ?_⟩
      have kl : Kp none H10 (upd H10 l (.lst (iz (rks es)))) := Kp.new hl
      refine ⟨_, rfl, _, _, rfl, rfl, _, rfl, by omega, by omega, fun D hD => lc_map (n := ((es.length : Int) - 1 + 1).toNat) (σ := [some (.ref d), some (.ref Tf), some (.int ((es.length : Int) - 1)), some (.ref R), z4, z5, z6, some (.int (r : Nat))]) (vs := [4]) (wk_range (d := none)) hD (by simp) (by omega) (fun _ _ => True) (fun i v _ => v = .int (Lin.rankP es i : Nat)) trivial (fun _ _ _ _ => trivial) (fun _ _ _ _ _ e => e) (fun i x H11 H12 hi k11 _ _ y Rr hR => ?_) (fun H11 ys k11 _ hD11 hlen hz => ?_)⟩
      · obtain ⟨rfl, rfl⟩ := y
        refine ⟨wipe1, _, rfl, _, _, rfl, rfl, _, rfl, _, rfl, _, _, rfl, rfl, _, rfl, _, _, rfl, rfl, _, _, _, _, rfl, min3 _ _ _, hR _ _ .refl trivial fun o => ?_⟩
        have := r6 i (by omega)
        congr 1
        omega
      · rw [ints_of (f := fun i => ((Lin.rankP es i : Nat) : Int)) hlen hz, show ((es.length : Int) - 1 + 1).toNat = es.length by omega, ← rks_eq] at hD11
        refine ⟨_, _, .lst (SqL.of (k11.l upd_same)) (dp_iz _ _), .lst (SqL.of hD11) (dp_iz _ _), shp_lI _, shp_lI _, ?_⟩
        rw [eqv_lI, decide_eq_true rfl]
        exact fin _ ((k910.trans kl).trans k11)
end
end W0
/-! ## W23 -/
set_option Elab.async false
set_option linter.all false
set_option maxRecDepth 100000
set_option maxHeartbeats 8000000
namespace W0
open PySem PySem.Spec PyProof.Rows L2 SlX
section
variable {P : Program} {w : World} {K : PySem.W.Frag} {mg : Str → Option Value} {base : Heap}
theorem Dice.offL {H : Hp} {d : Addr} {m : Nat} (h : Dice H d m) {L : Addr} {ps : List Addr} (hL : H L = some (.lst (ps.map V.ref))) : d ≠ L := by
  obtain ⟨a, b, c, e, _⟩ := h
  refine ne_of e hL fun z => ?_
  injection z with z
  cases ps with
  | nil => cases z
  | cons p ps => cases z
/-! ### _law_are_powers_right -/
def sp_are_powers_right (K : PySem.W.Frag) : Sp := fun vs H Q _ => ∃ (d : Addr) (m : Nat), vs = [.ref d] ∧ Dice H d (m + 13) ∧ GxR.TabG H (tabK K) ∧ Ret (some d) (fun v H' => v = .bl true ∧ Dice H' d m) H Q
theorem l__law_are_powers_right {vs : List V} {H : Hp} {Q : VK} {E : XK} (h : sp_are_powers_right K vs H Q E) : vs.length = 1 := by
  obtain ⟨a, es, rfl, _⟩ := h
  rfl
abbrev s__law_are_powers_right : Stmt := top 73
abbrev N__law_are_powers_right : List Str := ["_law_dice_here", "_law_points_here", "_law_size", "_law_form_here", "_law_place", "_law_point_here", "_law_lines", "_law_some", "_law_one"]
theorem sc__law_are_powers_right : FnScope N__law_are_powers_right ["_law_dice_here"] (defScope s__law_are_powers_right) := ⟨rfl, rfl, rfl, by decide +kernel, rfl, by decide +kernel, by decide +kernel⟩
theorem d__law_are_powers_right (B : Bt mg) (C : Fm K mg) (cFi : Cat P w K mg base 5 (He.ma K (cF K) "__init__") (sp_formInit K)) {fi fl : Addr} (IL : ItL K (cF K) fi fl) (cI : Cat P w K mg base 1 fi (sp_iter K)) (cL : Cat P w K mg base 1 fl (sp_flen K)) (c__law_rank : Cal P w K mg base 5 "_law_rank" (sp_rank K)) (c__law_plain : Cal P w K mg base 3 "_law_plain" (sp_plain K)) (c_killers : Cal P w K mg base 8 "killers" (sp_killers K)) (c__law_all_product : Cal P w K mg base 2 "_law_all_product" (sp_all_product K)) (c__law_line : Cal P w K mg base 1 "_law_line" (sp_line K)) (c__law_plus : Cal P w K mg base 1 "_law_plus" (sp_plus K)) (c__law_scaled : Cal P w K mg base 1 "_law_scaled" (sp_scaled K)) (c__law_roll : Cal P w K mg base 1 "_law_roll" (sp_roll K)) (c__law_power : Cal P w K mg base 2 "_law_power" (sp_power K)) (c__law_points : Cal P w K mg base 5 "_law_points" (sp_points K)) (D : Dd K mg "_law_are_powers_right" s__law_are_powers_right) : Cal P w K mg base 9 "_law_are_powers_right" (sp_are_powers_right K) := by
  refine D.cal sc__law_are_powers_right (fun _ _ _ _ _ _ us hl => match us, hl with | [_], _ => rfl) (fun vs H Q E h => ?_) (fun _ cdv A outer s H vs Q E hr h => ?_)
  · exact l__law_are_powers_right h
  have nd := sc__law_are_powers_right.nd
  refine ⟨_, (pss_cons (ps_par (i := 1) (j := 2) rfl nd rfl rfl (by decide) rfl rfl (pa_cons (pc c__law_points hr rfl (pa_cons (pv 0) (pa_cons pe_int (pa_cons pe_int pa_nil)))) (pa_cons (pe_op op_add pe_int (pc c__law_roll hr rfl (pa_cons (pv 0) (pa_cons pe_int pa_nil)))) pa_nil)) rfl) (pss_cons (ps_set (i := 3) nd rfl (Or.inl rfl) (pe_callTy (CallR.or (tuple_K K) (tup_form K rfl IL cI cL hr)) rfl B.tuple (by decide +kernel) (pa_cons (pe_lc (own := [("_law_place", 4)]) rfl nd (pi_range1 rfl B.range (pa_cons (pe_op op_add (pv 2) pe_int) pa_nil)) (blkOk_by (N := N__law_are_powers_right) (sc := defScope s__law_are_powers_right) (by decide +kernel)) (fun _ _ _ _ _ => (pg_name (i := 4) nd rfl (Or.inl rfl) (Or.inr rfl))) (fun _ _ _ _ _ => pts_nil) (fun _ _ _ _ _ => pe_int)) pa_nil))) (pss_cons (ps_for PassesOwn.never rfl (pi_list_K K (pv 1)) (pg_name (i := 5) nd rfl (Or.inl rfl) (Or.inl rfl)) (pss_one (ps_set (i := 3) nd rfl (Or.inl rfl) (pc c__law_plus hr rfl (pa_cons (pv 3) (pa_cons (pc c__law_scaled hr rfl (pa_cons (pc c__law_power hr rfl (pa_cons (pv 5) (pa_cons (pv 2) pa_nil))) (pa_cons (pe_op op_add pe_int (pc c__law_roll hr rfl (pa_cons (pv 0) (pa_cons pe_int pa_nil)))) pa_nil))) pa_nil)))))) (pss_cons (ps_set (i := 6) nd rfl (Or.inl rfl) (pc c__law_all_product hr rfl (pa_cons (pe_lc (own := [("_law_point_here", 5)]) rfl nd (pi_list_K K (pv 1)) (blkOk_by (N := N__law_are_powers_right) (sc := defScope s__law_are_powers_right) (by decide +kernel)) (fun _ _ _ _ _ => (pg_name (i := 5) nd rfl (Or.inl rfl) (Or.inr rfl))) (fun _ _ _ _ _ => pts_nil) (fun _ _ _ _ _ => (pc c__law_line hr rfl (pa_cons (pv 5) pa_nil)))) pa_nil))) (pss_cons (ps_setLc (i := 7) (own := [("_law_one", 8)]) rfl nd rfl rfl (sw_true rfl rfl rfl (by decide +kernel)) (pi_tup_K K (pc c_killers hr rfl (pa_cons (pmk cFi C.mF hr rfl C.gF (pa_cons (pv 3) pa_nil)) (pa_cons (pe_callB (len_K K) rfl B.len PySem.boot_len (pa_cons (pv 1) pa_nil)) pa_nil)))) (blkOk_by (N := N__law_are_powers_right) (sc := defScope s__law_are_powers_right) (by decide +kernel)) (fun _ _ _ _ _ => (pg_name (i := 8) nd rfl (Or.inl rfl) (Or.inr rfl))) (fun _ _ _ _ _ => pts_nil) (fun _ _ _ _ _ => (pe_callTy (CallR.or (tuple_K K) (tup_form K rfl IL cI cL hr)) rfl B.tuple (by decide +kernel) (pa_cons (pv 8) pa_nil)))) (pss_cons (ps_if (pt_cmpR op_le (pe_op op_mulW pe_int (pe_callB (len_K K) rfl B.len PySem.boot_len (pa_cons (pv 1) pa_nil))) (pe_op op_add (pv 2) pe_int) (nomark _)) (pss_one (ps_ret (pe_cmpR (op_eqD hr.units) (pv 7) (pe_lst (pa_cons (pc c__law_plain hr rfl (pa_cons (pv 6) pa_nil)) pa_nil)) (nomark _)))) pss_nil) (pss_one (ps_ret (pe_cmpR op_eq (pc c__law_rank hr rfl (pa_cons (pe_op op_cat (pv 7) (pe_lst (pa_cons (pv 6) pa_nil))) (pa_cons (pe_callB (len_K K) rfl B.len PySem.boot_len (pa_cons (pv 6) pa_nil)) pa_nil))) (pe_callB (len_K K) rfl B.len PySem.boot_len (pa_cons (pv 7) pa_nil)) (nomark _)))))))))), ?_⟩
  obtain ⟨d, m, rfl, hd, hg, hQ⟩ := h
  refine ⟨_, rfl, d, m + 5, 4, rfl, hd, by decide, fun v H1 k1 e1 => ?_⟩
  obtain ⟨d1, PL, ps, pts, rfl, hPL, ePL, tP, pP, nP, cP, c1⟩ := e1
  have c1 := c1 (by decide)
  refine ⟨_, rfl, d, m + 4, 4, rfl, d1, by decide, fun v H2 k2 e2 => ?_⟩
  obtain ⟨d2, r, rfl, r0, r4⟩ := e2
  obtain ⟨r, rfl⟩ := Int.eq_ofNat_of_zero_le r0
  have eS : (4 : Int) + (r : Int) = ((4 + r : Nat) : Int) := by omega
  refine ⟨_, _, rfl, rfl, _, _, rfl, ?_⟩
  have ePL2 := k2.l ePL (fun z => d1.offL ePL (Option.some.inj z))
  have tP2 := tP.keep k2 (d1.offTab tP)
  have k12 := k1.trans k2
  have hg2 := hd.tg hg k12
  show tSeq _ _ _ [some (.ref d), some (.ref PL), some (.int ((4 : Int) + (r : Int))), none, none, none, none, none, none] H2
  rw [eS]
  have n4 : 4 ≤ 4 + r := by omega
  have n7 : 4 + r ≤ 7 := by omega
  generalize 4 + r = n at n4 n7
  clear r4 r0 eS
  refine ⟨_, rfl, _, _, rfl, rfl, _, rfl, by omega, by omega, fun D hD => lc_map (n := ((n : Int) + 1).toNat) (σ := [some (.ref d), some (.ref PL), some (.int n), none, none, none, none, none, none]) (vs := [4]) (wk_range (d := none)) hD (by simp) (by omega) (fun _ _ => True) (fun i v _ => v = .int 0) trivial (fun _ _ _ _ => trivial) (fun _ _ _ _ _ e => e) (fun i x H4 H3 hi k3 _ _ y R hR => ⟨wipe1, hR _ _ (by rw [y.1]; exact .refl) trivial fun o => rfl⟩) (fun H3 ys k3 _ hD3 hlen hz => ?_)⟩
  refine .inl ⟨D, _, rfl, .inl ⟨SqL.of hD3, fun F hF => ?_⟩⟩
  have kF : Kp none H2 (upd H3 F (.tup ys)) := k3.trans (Kp.new hF)
  have eF : (upd H3 F (.tup ys)) F = some (.tup (iz (List.replicate (n + 1) 0))) := by
    rw [upd_same, ints_of (f := fun _ => 0) hlen hz, map_zero, show ((n : Int) + 1).toNat = n + 1 by omega]
  generalize upd H3 F (.tup ys) = H4 at kF eF
  clear hz hlen hD3 k3 hF hD
  have ePL4 := kF.l ePL2
  have d4 := d2.keep kF
  have tP4 := tP2.keep kF
  have hg4 := kF.tg hg2
  have k14 := k12.trans kF.any
  -- the sum of powers
  refine ⟨_, rfl, PL, rfl, ⟨_, SqL.of ePL4⟩, for_it (wk_list (d := some d) ePL4 (fun z => d4.offL ePL4 (Option.some.inj z))) (fun i σ H' => Kp (some d) H4 H' ∧ Dice H' d (m + (4 - i)) ∧ ∃ (F : Addr) (f : List Int) (z5 : Option V), σ = [some (.ref d), some (.ref PL), some (.int n), some (.ref F), none, z5, none, none, none] ∧ H' F = some (.tup (iz f)) ∧ Lin.IsSum pts n i f)
    ⟨.refl, d4, F, _, _, rfl, eF, Lin.isSum_zero pts n⟩ (fun i σ H' _ p => p.1) (fun i x σ Hq H5 hi p y => ?_) (fun σ H5 p => ?_)⟩
  · obtain ⟨k5, d5, F, f, z5, rfl, eF, hs⟩ := p
    obtain ⟨rfl, hx⟩ := y
    obtain ⟨T, hT0, rfl⟩ := refs_get hx
    obtain ⟨p, hp, hpT⟩ := tP4.get hT0
    have PN := pP p (List.mem_of_getElem? hp)
    have TP := two_pnt PN
    have eT5 := k5.t hpT (d4.offTab tP4 T (List.mem_of_getElem? hT0))
    have il : i < pts.length := (List.getElem?_eq_some_iff.mp hp).1
    refine ⟨_, rfl, _, rfl, _, rfl, T, p, n, rfl, eT5, PN.len, TP.bd, by omega, fun i hi => pow_bd TP (by omega), fun v H6 k6 e6 => ?_⟩
    obtain ⟨W, rfl, hW, eW⟩ := e6
    have d6 := d5.keep k6
    refine ⟨_, rfl, d, m + (4 - (i + 1)), 5, rfl, d6.less (by omega), by decide, fun v H7 k7 e7 => ?_⟩
    obtain ⟨d7, q, rfl, q0, q5⟩ := e7
    refine ⟨_, _, rfl, rfl, ?_⟩
    have lp := Lin.powL_len PN.len n
    refine ⟨W, _, _, rfl, k7.t eW (fun z => d6.offT eW (Option.some.inj z)), by omega, pow_bd TP (by omega), by omega, fun v H8 k8 e8 => ?_⟩
    obtain ⟨S, rfl, hS, eSc⟩ := e8
    have kk := (k6.any.trans k7).trans k8.any
    refine ⟨F, S, f, _, rfl, kk.t eF (fun z => d5.offT eF (Option.some.inj z)), eSc, by rw [hs.1]; omega, fun v H9 k9 e9 => ?_⟩
    obtain ⟨G, rfl, hG, eG⟩ := e9
    exact ⟨(k5.trans kk).trans k9.any, (d7.keep k8).keep k9, G, _, _, rfl, eG, Lin.isSum_step hs hp PN.len (by omega) (by omega)⟩
  · obtain ⟨k5, d5, F, f, z5, rfl, eF, hs⟩ := p
    rw [List.length_map, tP4.1] at hs
    have bdF : ∀ k, (Lin.fn f k).natAbs ≤ 1000000000000 := fun k => by
      refine Nat.le_trans (Lin.isSum_le pP (Nat.le_refl _) hs k) ?_
      have h6 : 6 ^ n ≤ 1679616 := pow6 (by omega)
      calc pts.length * (5 * 6 ^ n) ≤ 4 * (5 * 1679616) := Nat.mul_le_mul cP (Nat.mul_le_mul_left _ h6)
        _ ≤ 1000000000000 := by decide
    have S : Small f := ⟨by rw [hs.1]; omega, by rw [hs.1]; omega, bdF⟩
    have ePL5 := k5.l ePL4 (fun z => d4.offL ePL4 (Option.some.inj z))
    have tP5 := tP4.keep k5 (d4.offTab tP4)
    have hg5 := d4.tg hg4 k5
    have k15 := k14.trans k5
    have fin : ∀ (H' : Hp), Kp none H5 H' → Q (.bl true) H' := fun H' k => hQ _ _ (k15.trans k.any) ⟨rfl, (d5.less (by omega)).keep k⟩
    clear k15 k14 k12 k1 k2
    have hcnt : (ps.map V.ref).length = pts.length := by rw [List.length_map, tP5.1]
    -- the lines
    refine ⟨_, rfl, PL, rfl, ⟨_, SqL.of ePL5⟩, fun D hD => lc_map (σ := [some (.ref d), some (.ref PL), some (.int n), some (.ref F), none, z5, none, none, none]) (vs := [5]) (wk_list (d := none) ePL5) hD (by simp) (by omega) (fun _ _ => True) (fun i v H => ∃ p, v = .ref p ∧ H p = some (.tup (iz (Lin.lineOf (pts.getD i []))))) trivial (fun _ _ _ _ => trivial) (fun i v H H' k z => let ⟨p, e, z⟩ := z; ⟨p, e, k.t z⟩) (fun i x H6 H7 hi k6 _ ac y R hR => ?_) (fun H6 ys k6 _ hD6 hlen hz => ?_)⟩
    · obtain ⟨rfl, hx⟩ := y
      obtain ⟨acc, hacc⟩ := ac
      obtain ⟨T, hT0, rfl⟩ := refs_get hx
      obtain ⟨p, hp, hpT⟩ := tP5.get hT0
      have PN := pP p (List.mem_of_getElem? hp)
      refine ⟨wipe1, _, rfl, T, p, rfl, k6.t hpT, PN.len, fun v H8 k8 e8 => ?_⟩
      obtain ⟨L, rfl, hL, eL⟩ := e8
      refine hR _ _ k8 trivial fun o => ⟨L, rfl, ?_⟩
      rw [upd_ne (ne_of_none hacc hL).symm, getD_of hp]
      exact eL
    obtain ⟨ls, rfl, tl⟩ := tabT_of (f := fun i => Lin.lineOf (pts.getD i [])) hlen hz
    rw [hcnt, rng_rows Lin.lineOf] at tl
    have hT2 : ∀ g ∈ pts.map Lin.lineOf, Two g := fun g hg => by
      obtain ⟨p, hp, rfl⟩ := List.mem_map.mp hg
      exact two_line (pP p hp)
    have lml : (pts.map Lin.lineOf).length = pts.length := List.length_map ..
    refine ⟨D, ls, _, rfl, hD6, tl, fun g hg => ⟨by rw [(hT2 g hg).1]; decide, (hT2 g hg).bd⟩, fun i hi => ⟨by rw [(all_le hT2 i hi).1]; omega, bd_of (A := 1679616) (B := 1000) (fun k => Nat.le_trans ((all_le hT2 i hi).2 k) (pow6 (by omega))) (by decide)⟩, fun v H7 k7 e7 => ?_⟩
    obtain ⟨L, rfl, hL, eL⟩ := e7
    have AL := all_le hT2 _ (Nat.le_refl _)
    rw [List.take_length, lml] at AL
    have k57 := k6.trans k7
    have ple : pts.length ≤ f.length := by rw [hs.1]; omega
    -- the killers
    refine ⟨_, rfl, fun g dx hf hdx hne => mk_at (k57.t eF) S.ents hf hdx hne fun H8 k8 ff => ⟨rfl, ?_⟩⟩
    have k58 := k57.trans k8
    refine ⟨_, rfl, PL, _, rfl, .inl (SqL.of (k58.l ePL5)), g, F, f, pts.length, congrArg (fun z : Nat => [V.ref g, V.int (z : Int)]) hcnt, ff, S, ple, k58.tg hg5, fun v H9 k9 e9 => ?_⟩
    obtain ⟨T, fs, rfl, hT, eT, FF⟩ := e9
    have k59 := k58.trans k9
    have cnt := kills_cnt f pts.length
    refine ⟨T, rfl, ⟨_, SqT.of eT⟩, fun E hE => lc_map (σ := [some (.ref d), some (.ref PL), some (.int n), some (.ref F), none, z5, some (.ref L), none, none]) (vs := [8]) (wk_tup (d := none) eT) hE (by simp) (by rw [List.length_map, FF.1]; omega) (fun _ _ => True) (fun j v H => ∃ p, v = .ref p ∧ H p = some (.tup (iz ((Lin.kills f pts.length).getD j [])))) trivial (fun _ _ _ _ => trivial) (fun j v H H' k z => let ⟨p, e, z⟩ := z; ⟨p, e, k.t z⟩) (fun j x H10 H11 hj k10 _ ac y Rr hR => ?_) (fun H10 ys k10 _ hE10 hlen2 hz2 => ?_)⟩
    · obtain ⟨rfl, hx⟩ := y
      obtain ⟨acc, hacc⟩ := ac
      obtain ⟨g, hg0, rfl⟩ := refs_get hx
      have hjl : j < (Lin.kills f pts.length).length := by rw [← FF.1]; exact (List.getElem?_eq_some_iff.mp hg0).1
      have hr := List.getElem?_eq_getElem hjl
      obtain ⟨t, ft⟩ := FF.2 j g _ hg0 hr
      refine ⟨wipe1, _, rfl, .inr ⟨g, t, _, rfl, ft.keep k10, by rw [kills_row _ (List.getElem_mem hjl)]; omega, fun v H14 k14 e14 => ?_⟩⟩
      obtain ⟨p, rfl, hp, ep⟩ := e14
      refine hR _ _ k14 trivial fun o => ⟨p, rfl, ?_⟩
      rw [upd_ne (ne_of_none hacc hp).symm, getD_of hr]
      exact ep
    obtain ⟨qs, rfl, tq⟩ := tabT_of (f := fun j => (Lin.kills f pts.length).getD j []) hlen2 hz2
    rw [List.length_map, FF.1, rng_rows (fun r => r), List.map_id'] at tq
    have k510 := k59.trans k10
    have eL10 := (k8.trans k9).trans k10 |>.t eL
    refine ⟨_, rfl, PL, _, rfl, .inl (SqL.of (k510.l ePL5)), _, _, rfl, rfl, wide_mul (a := 10) (b := 20) (by decide) (by rw [hcnt]; omega) (by decide) (by decide) (by decide), _, rfl, _, _, rfl, rfl, _, _, rfl, rfl, _, rfl, ?_⟩
    by_cases hm : 2 * pts.length ≤ n + 1
    · refine ifT (decide_eq_true (by rw [hcnt]; omega)) ?_
      refine ⟨_, rfl, _, rfl, L, _, rfl, eL10, by rw [AL.1]; omega, fun z hz => ?_, fun v H11 k11 e11 => ?_⟩
      · obtain ⟨i, hi, rfl⟩ := List.mem_iff_getElem.mp hz
        have := AL.2 i
        rw [getI (List.getElem?_eq_getElem hi)] at this
        exact lt_bits (a := 40) (b := 13400) (Nat.lt_of_le_of_lt (Nat.le_trans this (pow6 (by omega))) (by decide)) (by decide)
      · obtain ⟨T2, rfl, _, eT2⟩ := e11
        refine ⟨sz_le (by show 1 ≤ 1000000; decide), fun l hl => ?_⟩
        have kl : Kp none H11 (upd H11 l (.lst [.ref T2])) := Kp.new hl
        refine ⟨_, _, .lst (SqL.of (kl.l (k11.l hE10))) (dp_tab ((tq.keep k11).keep kl)), .lst (SqL.of upd_same) (show DpAll _ _ _ (dT [Lin.prim (Lin.allConv (pts.map Lin.lineOf))]) from .cons (.tup (SqT.of (kl.t eT2)) (dp_iz _ _)) .nil), shp_lT _, shp_lT _, ?_⟩
        rw [eqv_lT, decide_eq_true (Lin.powers_few pP nP hs c1 hm)]
        exact fin _ ((k510.trans k11).trans kl)
    · refine ifF (decide_eq_false (by rw [hcnt]; omega)) ?_
      refine ⟨_, rfl, _, rfl, sz_le (by show 1 ≤ 1000000; decide), fun l hl => ?_⟩
      have kl : Kp none H10 (upd H10 l (.lst [.ref L])) := Kp.new hl
      have hql := tq.1
      refine ⟨E, l, _, _, rfl, rfl, kl.l hE10, upd_same, sz_le (by rw [List.length_map, List.length_singleton]; omega), fun c hc => ?_⟩
      have kc : Kp none (upd H10 l (.lst [.ref L])) (upd (upd H10 l (.lst [.ref L])) c (.lst (qs.map V.ref ++ [.ref L]))) := Kp.new hc
      have klc := kl.trans kc
      have ec : (upd (upd H10 l (.lst [.ref L])) c (.lst (qs.map V.ref ++ [.ref L]))) c = some (.lst ((qs ++ [L]).map V.ref)) := by rw [upd_same, List.map_append]; rfl
      generalize upd (upd H10 l (.lst [.ref L])) c (.lst (qs.map V.ref ++ [.ref L])) = H11 at kc klc ec
      have rl : ∀ r ∈ Lin.kills f pts.length ++ [Lin.allConv (pts.map Lin.lineOf)], r.length = pts.length + 1 := fun r hr => by
        rcases List.mem_append.mp hr with h | h
        · exact kills_row r h
        · rw [List.mem_singleton.mp h]; exact AL.1
      refine ⟨_, rfl, L, _, rfl, .inr (SqT.of (klc.t eL10)), c, qs ++ [L], Lin.kills f pts.length ++ [Lin.allConv (pts.map Lin.lineOf)], pts.length + 1, congrArg (fun z : Nat => [V.ref c, V.int (z : Int)]) (by rw [iz_len, AL.1]), ec, ((tq.keep klc).snoc (klc.t eL10)).any, rl, by omega, by omega, by rw [List.length_append, List.length_singleton]; omega, Lin.many_fits pP hs cP n4 n7 hm, fun v H12 k12 e12 => ?_⟩
      subst e12
      refine ⟨_, rfl, E, _, rfl, .inl (SqL.of (k12.l (klc.l hE10))), rfl, ?_⟩
      rw [show decide (V.int ((Lin.echelon Lin.lessL (Lin.kills f pts.length ++ [Lin.allConv (pts.map Lin.lineOf)]) (pts.length + 1)).length : Nat) = V.int ((qs.map V.ref).length : Nat)) = true from eqT (by rw [Lin.powers_many pP hs (by omega), List.length_map, hql])]
      exact fin _ ((k510.trans klc).trans k12)
end
end W0
/-! ## W24 -/
set_option Elab.async false
set_option linter.all false
set_option maxRecDepth 100000
set_option maxHeartbeats 8000000
namespace W0
open PySem PySem.Spec PyProof.Rows L2 SlX
theorem v1 : Lin.ranks [1, 0, -3, 1] = [1, 2, 2, 1] := by decide +kernel
theorem v2 : Lin.ranks [0, 0] = [0, 0] := by decide +kernel
theorem v3 : Lin.kills [1, 0, -3, 1] 1 = [] := by decide +kernel
theorem v4 : Lin.kills [1, 0, -3, 1] 3 = [[1, 0, 0, -1], [0, 1, 0, 0], [0, 0, 1, 1]] := by decide +kernel
theorem v5 : Lin.kills [3] 1 = [[1, 0], [0, 1]] := by decide +kernel
theorem v6 : Lin.ranks [1, 0, 0, 0, 0] = [1, 1, 1, 1, 1] := by decide +kernel
theorem small_of {es : List Int} (h1 : 1 ≤ es.length) (h2 : es.length ≤ 9) (h : ∀ n ∈ es, n.natAbs ≤ 1000000000000) : Small es := ⟨h1, h2, fun i => by
  by_cases hi : i < es.length
  · rw [getI (List.getElem?_eq_getElem hi)]
    exact h _ (List.getElem_mem hi)
  · rw [Lin.fn_out (by omega)]
    decide⟩
theorem sql_kp {K : PySem.W.Frag} {H H' : Hp} {a : Addr} {xs : List V} (h : SqL K H a xs) (k : Kp none H H') : SqL K H' a xs := by
  rcases h with (h | ⟨o, h⟩) | h
  · exact .inl (.inl (k.l h))
  · exact .inl (.inr ⟨o, k.keep _ _ (by simp) h fun _ z => by cases z⟩)
  · exact .inr h
theorem shpX : SeqAt.shaped (.list [.tuple (dI [1, 2, 2, 1]), .tuple (dI [0, 0]), .tuple [], .list (dT [[1, 0, 0, -1], [0, 1, 0, 0], [0, 0, 1, 1]])]) = true := by
  unfold SeqAt.shaped
  rw [Bool.and_eq_true]
  exact ⟨by simp [PyData.canLay0, PyData.canLayAll0, dI, dT], decide_eq_true (by simp [PyData.depth, PyData.depthAll, dI, dT])⟩
theorem eqvX : PyData.eqv (.list [.tuple (dI [1, 2, 2, 1]), .tuple (dI [0, 0]), .tuple [], .list (dT [[1, 0, 0, -1], [0, 1, 0, 0], [0, 0, 1, 1]])]) (.list [.tuple (dI [1, 2, 2, 1]), .tuple (dI [0, 0]), .tuple [], .list (dT [[1, 0, 0, -1], [0, 1, 0, 0], [0, 0, 1, 1]])]) = true := by
  simp [PyData.eqv, PyData.eqvAll, dI, dT]
section
variable {P : Program} {w : World} {K : PySem.W.Frag} {mg : Str → Option Value} {base : Heap}
def sp_law (K : PySem.W.Frag) : Sp := fun vs H Q _ => ∃ (a : Addr) (ns : List Int), vs = [.ref a] ∧ SqL K H a (iz ns) ∧ ns.length ≤ 63 ∧ GxR.TabG H (tabK K) ∧ ∀ H', Q (.bl true) H'
theorem l_law {vs : List V} {H : Hp} {Q : VK} {E : XK} (h : sp_law K vs H Q E) : vs.length = 1 := by
  obtain ⟨a, es, rfl, _⟩ := h
  rfl
abbrev s_law : Stmt := top 74
abbrev N_law : List Str := ["_law_script", "_law_spot", "_law_dice_here", "_law_cubic", "_law_told", "_law_one"]
theorem sc_law : FnScope N_law ["_law_script"] (defScope s_law) := ⟨rfl, rfl, rfl, by decide +kernel, rfl, by decide +kernel, by decide +kernel⟩
theorem d_law (B : Bt mg) (C : Fm K mg) (cFi : Cat P w K mg base 5 (He.ma K (cF K) "__init__") (sp_formInit K)) {fi fl : Addr} (IL : ItL K (cF K) fi fl) (cI : Cat P w K mg base 1 fi (sp_iter K)) (cL : Cat P w K mg base 1 fl (sp_flen K)) (c_killer_ranks : Cal P w K mg base 7 "killer_ranks" (sp_killer_ranks K)) (c_killers : Cal P w K mg base 8 "killers" (sp_killers K)) (c__law_are_powers_right : Cal P w K mg base 9 "_law_are_powers_right" (sp_are_powers_right K)) (c__law_right : Cal P w K mg base 9 "_law_right" (sp_right K)) (c__law_dice : Cal P w K mg base 1 "_law_dice" (sp_dice K)) {f : Addr} {fd : FuncData} (F : FunD K "law" "law" (defArgs s_law) (defBody s_law) (defScope s_law) [] [] f fd) : FnOk P w K mg base CX0 10 f fd ["_law_script"] (sp_law K) := by
  refine F.ok sc_law (fun vs H Q E h => ?_) (fun cdv A outer s H vs Q E hr h => ?_)
  · exact l_law h
  have nd := sc_law.nd
  refine ⟨_, PSs.nox (pss_cons (ps_for PassesOwn.never rfl (pi_range1 rfl B.range (pa_cons (pe_callB (call_max2 rfl) rfl B.max (by decide +kernel) (pa_cons pe_int (pa_cons (pe_callB (call_min2 rfl) rfl B.min (by decide +kernel) (pa_cons pe_int (pa_cons (pe_callB (len_K K) rfl B.len PySem.boot_len (pa_cons (pv 0) pa_nil)) pa_nil))) pa_nil))) pa_nil)) (pg_name (i := 1) nd rfl (Or.inl rfl) (Or.inl rfl)) (pss_cons (ps_set (i := 2) nd rfl (Or.inl rfl) (pc c__law_dice hr rfl (pa_cons (pv 0) (pa_cons (pv 1) pa_nil)))) (pss_one (ps_if (PW.pt (pw_or (pt_not (pt_val (pc c__law_right hr rfl (pa_cons (pv 2) pa_nil)))) (pw_or1 (pt_not (pt_val (pc c__law_are_powers_right hr rfl (pa_cons (pv 2) pa_nil))))))) (pss_one (ps_ret pe_bl)) pss_nil)))) (pss_cons (ps_set (i := 3) nd rfl (Or.inl rfl) (pmk cFi C.mF hr rfl C.gF (pa_cons (pe_tup (pa_cons pe_int (pa_cons pe_int (pa_cons (pe_un un_neg pe_int) (pa_cons pe_int pa_nil))))) pa_nil))) (pss_cons (ps_set (i := 4) nd rfl (Or.inl rfl) (pe_lst (pa_cons (pc c_killer_ranks hr rfl (pa_cons (pv 3) pa_nil)) (pa_cons (pc c_killer_ranks hr rfl (pa_cons (pmk cFi C.mF hr rfl C.gF (pa_cons (pe_tup (pa_cons pe_int (pa_cons pe_int pa_nil))) pa_nil)) pa_nil)) (pa_cons (pc c_killers hr rfl (pa_cons (pv 3) (pa_cons pe_int pa_nil))) (pa_cons (pe_lc (own := [("_law_one", 5)]) rfl nd (pi_tup_K K (pc c_killers hr rfl (pa_cons (pv 3) (pa_cons pe_int pa_nil)))) (blkOk_by (N := N_law) (sc := defScope s_law) (by decide +kernel)) (fun _ _ _ _ _ => (pg_name (i := 5) nd rfl (Or.inl rfl) (Or.inr rfl))) (fun _ _ _ _ _ => pts_nil) (fun _ _ _ _ _ => (pe_callTy (CallR.or (tuple_K K) (tup_form K rfl IL cI cL hr)) rfl B.tuple (by decide +kernel) (pa_cons (pv 5) pa_nil)))) pa_nil)))))) (pss_cons (ps_if (pt_cmpR (op_neD hr.units) (pv 4) (pe_lst (pa_cons (pe_tup (pa_cons pe_int (pa_cons pe_int (pa_cons pe_int (pa_cons pe_int pa_nil))))) (pa_cons (pe_tup (pa_cons pe_int (pa_cons pe_int pa_nil))) (pa_cons (pe_tup pa_nil) (pa_cons (pe_lst (pa_cons (pe_tup (pa_cons pe_int (pa_cons pe_int (pa_cons pe_int (pa_cons (pe_un un_neg pe_int) pa_nil))))) (pa_cons (pe_tup (pa_cons pe_int (pa_cons pe_int (pa_cons pe_int (pa_cons pe_int pa_nil))))) (pa_cons (pe_tup (pa_cons pe_int (pa_cons pe_int (pa_cons pe_int (pa_cons pe_int pa_nil))))) pa_nil)))) pa_nil))))) (nomark _)) (pss_one (ps_ret pe_bl)) pss_nil) (pss_one (ps_ret (pe_and (pe_cmpR (op_eqD hr.units) (pe_lc (own := [("_law_one", 5)]) rfl nd (pi_tup_K K (pc c_killers hr rfl (pa_cons (pmk cFi C.mF hr rfl C.gF (pa_cons (pe_tup (pa_cons pe_int pa_nil)) pa_nil)) (pa_cons pe_int pa_nil)))) (blkOk_by (N := N_law) (sc := defScope s_law) (by decide +kernel)) (fun _ _ _ _ _ => (pg_name (i := 5) nd rfl (Or.inl rfl) (Or.inr rfl))) (fun _ _ _ _ _ => pts_nil) (fun _ _ _ _ _ => (pe_callTy (CallR.or (tuple_K K) (tup_form K rfl IL cI cL hr)) rfl B.tuple (by decide +kernel) (pa_cons (pv 5) pa_nil)))) (pe_lst (pa_cons (pe_tup (pa_cons pe_int (pa_cons pe_int pa_nil))) (pa_cons (pe_tup (pa_cons pe_int (pa_cons pe_int pa_nil))) pa_nil))) (nomark _)) (pe_one (pe_cmpR (op_eqD hr.units) (pc c_killer_ranks hr rfl (pa_cons (pmk cFi C.mF hr rfl C.gF (pa_cons (pe_tup (pa_cons pe_int (pa_cons pe_int (pa_cons pe_int (pa_cons pe_int (pa_cons pe_int pa_nil)))))) pa_nil)) pa_nil)) (pe_op op_repA (pe_tup (pa_cons pe_int pa_nil)) pe_int) (nomark _)))))))))), ?_⟩
  obtain ⟨a, ns, rfl, ha, hn, hg, hQ⟩ := h
  refine ⟨_, rfl, a, _, rfl, .inl ha, _, _, rfl, _, _, rfl, _, rfl, ?_⟩
  rw [iz_len]
  have hN : ∀ l : Nat, (if (if (l : Int) < 3 then (l : Int) else 3) > 1 then (if (l : Int) < 3 then (l : Int) else 3) else 1) ≤ 3 ∧ 1 ≤ (if (if (l : Int) < 3 then (l : Int) else 3) > 1 then (if (l : Int) < 3 then (l : Int) else 3) else 1) := fun l => by split <;> split <;> omega
  have hN := hN ns.length
  generalize (if (if (ns.length : Int) < 3 then (ns.length : Int) else 3) > 1 then (if (ns.length : Int) < 3 then (ns.length : Int) else 3) else 1) = N at hN
  refine ⟨by omega, by omega, for_it (n := N.toNat) (wk_range (d := none) (H1 := H)) (fun i σ H' => Kp none H H' ∧ ∃ z1 z2, σ = [some (.ref a), z1, z2, none, none, none]) ⟨.refl, none, none, rfl⟩ (fun i σ H' _ p => p.1) (fun i x σ Hq H0 hi p y => ?_) (fun σ H0 p => ?_)⟩
  · obtain ⟨k, z1, z2, rfl⟩ := p
    obtain ⟨rfl, rfl⟩ := y
    have e0 : (0 : Int) + (i : Int) = (i : Int) := Int.zero_add _
    refine ⟨_, rfl, _, rfl, a, ns, i, congrArg (fun z : Int => [V.ref a, V.int z]) e0, sql_kp ha k, by omega, fun v H1 k1 e1 => ?_⟩
    obtain ⟨D, rfl, hD, dD⟩ := e1
    have hD0 := k.fr D hD
    have g1 := (k.trans k1).tg hg
    refine ⟨_, rfl, D, 899990000, rfl, dD.less (by decide), g1, fun v H2 k2 e2 => ?_⟩
    obtain ⟨rfl, d2⟩ := e2
    have g2 := dD.tg g1 k2
    refine ⟨true, rfl, ifF rfl ?_⟩
    refine ⟨_, rfl, D, 899900000, rfl, d2.less (by decide), g2, fun v H3 k3 e3 => ?_⟩
    obtain ⟨rfl, d3⟩ := e3
    exact ⟨true, rfl, ifF rfl ⟨(k.trans k1).drop hD0 (k2.trans k3), _, _, rfl⟩⟩
  · obtain ⟨k0, z1, z2, rfl⟩ := p
    have S4 : Small [1, 0, -3, 1] := small_of (by decide) (by decide) (by decide)
    have S2 : Small [0, 0] := small_of (by decide) (by decide) (by decide)
    have S1 : Small [3] := small_of (by decide) (by decide) (by decide)
    have S5 : Small [1, 0, 0, 0, 0] := small_of (by decide) (by decide) (by decide)
    have g0 := k0.tg hg
    refine ⟨_, rfl, sz_le (by show 4 ≤ 1000000; decide), fun t ht f dx hf hdx hne => mk_at (es := [1, 0, -3, 1]) upd_same S4.ents hf hdx hne fun H1 k1 ff => ⟨rfl, ?_⟩⟩
    have kk1 : Kp none H0 H1 := (Kp.new ht).trans k1
    have g1 := kk1.tg g0
    refine ⟨_, rfl, f, t, _, rfl, ff, S4, g1, fun v H2 k2 e2 => ?_⟩
    obtain ⟨R1, rfl, hR1, eR1⟩ := e2
    refine ⟨sz_le (by show 2 ≤ 1000000; decide), fun t2 ht2 f2 dx2 hf2 hdx2 hne2 => mk_at (es := [0, 0]) upd_same S2.ents hf2 hdx2 hne2 fun H3 k3 ff2 => ⟨rfl, ?_⟩⟩
    have kk3 : Kp none H2 H3 := (Kp.new ht2).trans k3
    refine ⟨f2, t2, _, rfl, ff2, S2, kk3.tg (k2.tg g1), fun v H4 k4 e4 => ?_⟩
    obtain ⟨R2, rfl, hR2, eR2⟩ := e4
    have k14 := (k2.trans kk3).trans k4
    refine ⟨_, rfl, f, t, _, 1, rfl, ff.keep k14, S4, by decide, k14.tg g1, fun v H5 k5 e5 => ?_⟩
    obtain ⟨R3, fs3, rfl, hR3, eR3, F3⟩ := e5
    have efs3 : fs3 = [] := by
      have := F3.1
      rw [v3] at this
      exact List.length_eq_zero_iff.mp this
    subst efs3
    have k15 := k14.trans k5
    refine ⟨_, rfl, f, t, _, 3, rfl, ff.keep k15, S4, by decide, k15.tg g1, fun v H6 k6 e6 => ?_⟩
    obtain ⟨R4, fs4, rfl, hR4, eR4, F4⟩ := e6
    have cnt4 := kills_cnt [1, 0, -3, 1] 3
    refine ⟨R4, rfl, ⟨_, SqT.of eR4⟩, fun E hE => lc_map (σ := [some (.ref a), z1, z2, some (.ref f), none, none]) (vs := [5]) (wk_tup (d := none) eR4) hE (by simp) (by rw [List.length_map, F4.1]; omega) (fun _ _ => True) (fun j v H => ∃ p, v = .ref p ∧ H p = some (.tup (iz ((Lin.kills [1, 0, -3, 1] 3).getD j [])))) trivial (fun _ _ _ _ => trivial) (fun j v H H' k z => let ⟨p, e, z⟩ := z; ⟨p, e, k.t z⟩) (fun j x H10 H11 hj k10 _ ac y Rr hR => ?_) (fun H7 ys k7 _ hE7 hlen hz => ?_)⟩
    · obtain ⟨rfl, hx⟩ := y
      obtain ⟨acc, hacc⟩ := ac
      obtain ⟨g, hg0, rfl⟩ := refs_get hx
      have hjl : j < (Lin.kills [1, 0, -3, 1] 3).length := by rw [← F4.1]; exact (List.getElem?_eq_some_iff.mp hg0).1
      have hr := List.getElem?_eq_getElem hjl
      obtain ⟨t, ft⟩ := F4.2 j g _ hg0 hr
      refine ⟨wipe1, _, rfl, .inr ⟨g, t, _, rfl, ft.keep k10, by rw [kills_row _ (List.getElem_mem hjl)]; decide, fun v H14 k14 e14 => ?_⟩⟩
      obtain ⟨p, rfl, hp, ep⟩ := e14
      refine hR _ _ k14 trivial fun o => ⟨p, rfl, ?_⟩
      rw [upd_ne (ne_of_none hacc hp).symm, getD_of hr]
      exact ep
    obtain ⟨qs4, rfl, tq4⟩ := tabT_of (f := fun j => (Lin.kills [1, 0, -3, 1] 3).getD j []) hlen hz
    rw [List.length_map, F4.1, rng_rows (fun r => r), List.map_id', v4] at tq4
    clear hz hlen
    rw [show (Lin.ranks [1, 0, -3, 1]).map (fun n : Nat => (n : Int)) = [1, 2, 2, 1] by rw [v1]; rfl] at eR1
    rw [show (Lin.ranks [0, 0]).map (fun n : Nat => (n : Int)) = [0, 0] by rw [v2]; rfl] at eR2
    have k27 := (((kk3.trans k4).trans k5).trans k6).trans k7
    have k47 := (k5.trans k6).trans k7
    have k57 := k6.trans k7
    have d1 : Dp K H7 (.ref R1) (.tuple (dI [1, 2, 2, 1])) := .tup (SqT.of (k27.t eR1)) (dp_iz _ _)
    have d2 : Dp K H7 (.ref R2) (.tuple (dI [0, 0])) := .tup (SqT.of (k47.t eR2)) (dp_iz _ _)
    have d3 : Dp K H7 (.ref R3) (.tuple []) := .tup (SqT.of (k57.t eR3)) (show DpAll K H7 [] [] from .nil)
    have d4 : Dp K H7 (.ref E) (.list (dT [[1, 0, 0, -1], [0, 1, 0, 0], [0, 0, 1, 1]])) := .lst (SqL.of hE7) (dp_tab tq4)
    refine ⟨sz_le (by show 4 ≤ 1000000; decide), fun l hl => ?_⟩
    have kl : Kp none H7 (upd H7 l (.lst [.ref R1, .ref R2, .ref R3, .ref E])) := Kp.new hl
    have el : (upd H7 l (.lst [.ref R1, .ref R2, .ref R3, .ref E])) l = some (.lst [.ref R1, .ref R2, .ref R3, .ref E]) := upd_same
    generalize upd H7 l (.lst [.ref R1, .ref R2, .ref R3, .ref E]) = H8 at kl el
    have g8 : GxR.TabG H8 (tabK K) := (k27.trans kl).tg (k2.tg g1)
    refine ⟨_, rfl, sz_le (by show 4 ≤ 1000000; decide), fun p1 hp1 => ⟨sz_le (by show 2 ≤ 1000000; decide), fun p2 hp2 => ⟨sz_le (by show 0 ≤ 1000000; decide), fun p3 hp3 => ⟨_, rfl, sz_le (by show 4 ≤ 1000000; decide), fun q1 hq1 => ⟨sz_le (by show 4 ≤ 1000000; decide), fun q2 hq2 => ⟨sz_le (by show 4 ≤ 1000000; decide), fun q3 hq3 => ⟨sz_le (by show 3 ≤ 1000000; decide), fun L hL => ⟨sz_le (by show 4 ≤ 1000000; decide), fun M hM => ?_⟩⟩⟩⟩⟩⟩⟩⟩
    have n1 := Kp.new (d := none) (o := .tup [.int 1, .int 2, .int 2, .int 1]) hp1
    have n2 := Kp.new (d := none) (o := .tup [.int 0, .int 0]) hp2
    have n3 := Kp.new (d := none) (o := .tup []) hp3
    have n4 := Kp.new (d := none) (o := .tup [.int 1, .int 0, .int 0, .int (-1)]) hq1
    have n5 := Kp.new (d := none) (o := .tup [.int 0, .int 1, .int 0, .int 0]) hq2
    have n6 := Kp.new (d := none) (o := .tup [.int 0, .int 0, .int 1, .int 1]) hq3
    have n7 := Kp.new (d := none) (o := .lst [.ref q1, .ref q2, .ref q3]) hL
    have n8 := Kp.new (d := none) (o := .lst [.ref p1, .ref p2, .ref p3, .ref L]) hM
    have w1 := ((((((n2.trans n3).trans n4).trans n5).trans n6).trans n7).trans n8).t upd_same
    have w2 := (((((n3.trans n4).trans n5).trans n6).trans n7).trans n8).t upd_same
    have w3 := ((((n4.trans n5).trans n6).trans n7).trans n8).t upd_same
    have w4 := (((n5.trans n6).trans n7).trans n8).t upd_same
    have w5 := ((n6.trans n7).trans n8).t upd_same
    have w6 := (n7.trans n8).t upd_same
    have w7 := n8.l upd_same
    have nn := ((((((n1.trans n2).trans n3).trans n4).trans n5).trans n6).trans n7).trans n8
    have kk := kl.trans nn
    have dp : ∀ {v : V} {x : PyData} {H H' : Hp}, Kp none H H' → (∀ p xs, H p = some (.lst xs) → True) → True := fun _ _ => trivial
    refine ⟨.list [.tuple (dI [1, 2, 2, 1]), .tuple (dI [0, 0]), .tuple [], .list (dT [[1, 0, 0, -1], [0, 1, 0, 0], [0, 0, 1, 1]])], .list [.tuple (dI [1, 2, 2, 1]), .tuple (dI [0, 0]), .tuple [], .list (dT [[1, 0, 0, -1], [0, 1, 0, 0], [0, 0, 1, 1]])],
      .lst (SqL.of (nn.l el)) (.cons (.tup (SqT.of ((k27.trans kk).t eR1)) (dp_iz _ _)) (.cons (.tup (SqT.of ((k47.trans kk).t eR2)) (dp_iz _ _)) (.cons (.tup (SqT.of ((k57.trans kk).t eR3)) (show DpAll K _ [] [] from .nil)) (.cons (.lst (SqL.of (kk.l hE7)) (dp_tab (tq4.keep kk))) .nil)))),
      .lst (SqL.of upd_same) (.cons (.tup (SqT.of w1) (dp_iz _ [1, 2, 2, 1])) (.cons (.tup (SqT.of w2) (dp_iz _ [0, 0])) (.cons (.tup (SqT.of w3) (show DpAll K _ [] [] from .nil)) (.cons (.lst (SqL.of w7) (.cons (.tup (SqT.of w4) (dp_iz _ [1, 0, 0, -1])) (.cons (.tup (SqT.of w5) (dp_iz _ [0, 1, 0, 0])) (.cons (.tup (SqT.of w6) (dp_iz _ [0, 0, 1, 1])) .nil)))) .nil)))),
      shpX, shpX, _, rfl, ?_⟩
    rw [eqvX]
    refine ifF rfl ?_
    have g9 := nn.tg g8
    clear w1 w2 w3 w4 w5 w6 w7 dp
    generalize upd _ M _ = H9 at g9
    clear n1 n2 n3 n4 n5 n6 n7 n8 nn kk
    -- the last row
    refine ⟨sz_le (by show 1 ≤ 1000000; decide), fun t3 ht3 f3 dx3 hf3 hdx3 hne3 => mk_at (es := [3]) upd_same S1.ents hf3 hdx3 hne3 fun H10 k10 ff3 => ⟨rfl, ?_⟩⟩
    have g10 := ((Kp.new ht3).trans k10).tg g9
    refine ⟨f3, t3, _, 1, rfl, ff3, S1, by decide, g10, fun v H11 k11 e11 => ?_⟩
    obtain ⟨R5, fs5, rfl, hR5, eR5, F5⟩ := e11
    have cnt5 := kills_cnt [3] 1
    refine ⟨R5, rfl, ⟨_, SqT.of eR5⟩, fun E2 hE2 => lc_map (σ := [some (.ref a), z1, z2, some (.ref f), some (.ref l), none]) (vs := [5]) (wk_tup (d := none) eR5) hE2 (by simp) (by rw [List.length_map, F5.1]; omega) (fun _ _ => True) (fun j v H => ∃ p, v = .ref p ∧ H p = some (.tup (iz ((Lin.kills [3] 1).getD j [])))) trivial (fun _ _ _ _ => trivial) (fun j v H H' k z => let ⟨p, e, z⟩ := z; ⟨p, e, k.t z⟩) (fun j x H12 H13 hj k12 _ ac y Rr hR => ?_) (fun H12 ys k12 _ hE12 hlen hz => ?_)⟩
    · obtain ⟨rfl, hx⟩ := y
      obtain ⟨acc, hacc⟩ := ac
      obtain ⟨g, hg0, rfl⟩ := refs_get hx
      have hjl : j < (Lin.kills [3] 1).length := by rw [← F5.1]; exact (List.getElem?_eq_some_iff.mp hg0).1
      have hr := List.getElem?_eq_getElem hjl
      obtain ⟨t, ft⟩ := F5.2 j g _ hg0 hr
      refine ⟨wipe1, _, rfl, .inr ⟨g, t, _, rfl, ft.keep k12, by rw [kills_row _ (List.getElem_mem hjl)]; decide, fun v H14 k14 e14 => ?_⟩⟩
      obtain ⟨p, rfl, hp, ep⟩ := e14
      refine hR _ _ k14 trivial fun o => ⟨p, rfl, ?_⟩
      rw [upd_ne (ne_of_none hacc hp).symm, getD_of hr]
      exact ep
    obtain ⟨qs5, rfl, tq5⟩ := tabT_of (f := fun j => (Lin.kills [3] 1).getD j []) hlen hz
    rw [List.length_map, F5.1, rng_rows (fun r => r), List.map_id', v5] at tq5
    refine ⟨sz_le (by show 2 ≤ 1000000; decide), fun p4 hp4 => ⟨sz_le (by show 2 ≤ 1000000; decide), fun p5 hp5 => ⟨sz_le (by show 2 ≤ 1000000; decide), fun M2 hM2 => ?_⟩⟩⟩
    have m1 := Kp.new (d := none) (o := .tup [.int 1, .int 0]) hp4
    have m2 := Kp.new (d := none) (o := .tup [.int 0, .int 1]) hp5
    have m3 := Kp.new (d := none) (o := .lst [.ref p4, .ref p5]) hM2
    have u1 := (m2.trans m3).t upd_same
    have u2 := m3.t upd_same
    have mm := (m1.trans m2).trans m3
    refine ⟨_, .list (dT [[1, 0], [0, 1]]), .lst (SqL.of (mm.l hE12)) (dp_tab (tq5.keep mm)), .lst (SqL.of upd_same) (show DpAll K _ _ (dT [[1, 0], [0, 1]]) from .cons (.tup (SqT.of u1) (dp_iz _ [1, 0])) (.cons (.tup (SqT.of u2) (dp_iz _ [0, 1])) .nil)), shp_lT _, shp_lT _, true, by rw [eqv_lT, decide_eq_true rfl], ifTp rfl ?_⟩
    have g12 := ((k11.trans k12).trans mm).tg g10
    clear m1 m2 m3 u1 u2 mm
    generalize upd _ M2 _ = H15 at g12
    refine ⟨sz_le (by show 5 ≤ 1000000; decide), fun t4 ht4 f4 dx4 hf4 hdx4 hne4 => mk_at (es := [1, 0, 0, 0, 0]) upd_same S5.ents hf4 hdx4 hne4 fun H16 k16 ff4 => ⟨rfl, ?_⟩⟩
    have g16 := ((Kp.new ht4).trans k16).tg g12
    refine ⟨f4, t4, _, rfl, ff4, S5, g16, fun v H17 k17 e17 => ?_⟩
    obtain ⟨R6, rfl, hR6, eR6⟩ := e17
    rw [show (Lin.ranks [1, 0, 0, 0, 0]).map (fun n : Nat => (n : Int)) = [1, 1, 1, 1, 1] by rw [v6]; rfl] at eR6
    refine ⟨sz_le (by show 1 ≤ 1000000; decide), fun p6 hp6 => .inl ⟨p6, 5, _, rfl, rfl, SqT.of upd_same, by simp, by decide, by decide, by show 1 ≤ 1000; decide, fun p7 hp7 => ?_⟩⟩
    have kz := (Kp.new (d := none) (o := .tup [.int 1]) hp6).trans (Kp.new (d := none) (o := .tup (List.replicate (5 : Int).toNat [V.int 1]).flatten) hp7)
    refine ⟨_, .tuple (dI [1, 1, 1, 1, 1]), .tup (SqT.of (kz.t eR6)) (dp_iz _ _), .tup (SqT.of upd_same) (dp_iz _ [1, 1, 1, 1, 1]), shp_tI _, shp_tI _, ?_⟩
    rw [eqv_tI, decide_eq_true rfl]
    exact hQ _
end
end W0
/-! ## W25 -/
set_option Elab.async false
set_option linter.all false
set_option maxRecDepth 100000
set_option maxHeartbeats 8000000
namespace W0
open PySem PySem.Spec PyProof.Rows L2 SlX
theorem fun_at {K : PySem.W.Frag} {a : Addr} {x q : Str} {params : Arguments} {body : List Stmt} {scope : Scope} (e : Hd.fnAt K a = some (x, q, params, .stmts body, scope, mainGlobals, [], builtinsNs)) (c : Hd.fnOkB K a q = true) : ∃ fd, FunD K x q params body scope [] [] a fd := by
  obtain ⟨kp, c2⟩ := He.ba c
  unfold Hd.fnAt at e
  cases r : K.lookup a with
  | none =>
    rw [r] at c2
    cases c2
  | some o =>
    obtain ⟨oc, od, dt, osl⟩ := o
    rw [r] at c2 e
    cases dt with
    | func fd =>
      obtain ⟨n1, n2, n3, n4, n5, n6, n7, n8, n9, n10, n11, n12, n13, n14, n15⟩ := fd
      have e2 : (some (n1, n2, n3, n4, n5, n6, n7, n15) : He.FnW) = some (x, q, params, .stmts body, scope, mainGlobals, [], builtinsNs) := e
      simp only [Option.some.injEq, Prod.mk.injEq] at e2
      obtain ⟨h1, h2, h3, h4, h5, h6, h7, h8⟩ := e2
      subst h1 h2 h3 h4 h5 h6 h7 h8
      have c3 : (PySem.W.codeIn K n13 n2 && (He.dflB K n8 [] && He.kwdB K n9 [])) = true := c2
      obtain ⟨k1, k2⟩ := He.ba c3
      obtain ⟨k3, k4⟩ := He.ba k2
      exact ⟨_, ⟨oc, od, n8, n9, n10, n11, n12, n13, n14, osl, rfl, r, k1, He.dflB_ok k3, He.kwdB_ok k4⟩, kp⟩
    | _ => cases c2
theorem scls_of {K : PySem.W.Frag} {C : Addr} (h : Hd.sclsB K C = true) : SCls K C := by
  obtain ⟨h1, h⟩ := He.ba h
  obtain ⟨h2, h⟩ := He.ba h
  obtain ⟨h3, h4⟩ := He.ba h
  exact ⟨h1, h2, h3, He.eqO_ok h4⟩
theorem sisi_of {K : PySem.W.Frag} {C : Addr} (h : Hd.sisiB K C = true) : SIsi K C := by
  obtain ⟨h1, h⟩ := He.ba h
  obtain ⟨h2, h⟩ := He.ba h
  obtain ⟨h3, h4⟩ := He.ba h
  exact ⟨He.eqO_ok h1, He.eqO_ok h2, of_decide_eq_true h3, of_decide_eq_true h4⟩
theorem slot_of {K : PySem.W.Frag} {C : Addr} {f : Str} {i : Nat} (h : Hd.slotB K C f i = true) (hi : i < 1000) : ∃ p, Slot1 K C f p i := by
  obtain ⟨h1, h⟩ := He.ba h
  obtain ⟨h2, h⟩ := He.ba h
  obtain ⟨h3, h⟩ := He.ba h
  obtain ⟨h4, h5⟩ := He.ba h
  exact ⟨_, He.eqO_ok h1, He.eqO_ok h2, of_decide_eq_true h3, of_decide_eq_true h4, of_decide_eq_true h5, hi⟩
theorem rec_of {K : PySem.W.Frag} {p : Addr} (h : Hd.recB K p = true) : ∃ rest, PySem.W.recIn K p "property" = some (.ref (Hd.getA K p) :: rest) := by
  unfold Hd.recB at h
  unfold Hd.getA
  cases e : PySem.W.recIn K p "property" with
  | none => rw [e] at h; cases h
  | some l =>
    rw [e] at h
    cases l with
    | nil => cases h
    | cons v r =>
      cases v with
      | ref g => exact ⟨r, rfl⟩
      | _ => cases h
theorem prop_of {P : Program} {w : World} {K : PySem.W.Frag} {mg : Str → Option Value} {base : Heap} {C : Addr} {f : Str} {k : Nat} {sp : Sp} (h : Hd.propB K C f = true) (c : Cat P w K mg base k (Hd.getA K (Hd.atA K C f)) sp) : Prp P w K mg base k C f sp := by
  obtain ⟨h1, h⟩ := He.ba h
  obtain ⟨h2, h⟩ := He.ba h
  obtain ⟨h3, h4⟩ := He.ba h
  exact ⟨_, _, He.eqO_ok h1, He.eqO_ok h2, of_decide_eq_true h3, rec_of h4, c.raw⟩
theorem law_at {w : World} {K : PySem.W.Frag} {mg : Str → Option Value} {fa : Addr} {h : Heap} (KX : K.In h) (G : h.Ns mainGlobals mg) (hfa : mg "law" = some (.ref fa)) (c : He.SaysX Hd.fa Hd.fn [] Hd.tf Hd.ex w h K) (q : Hd.obsP K = Hd.valP) :
    LamX.LawAtS PySem.Challenge.rw_sourceforms_k64_whole_ranks_and_killers w K CX0 10 63 "_law_script" mg fa h := by
  have cD : He.SaysD Hd.fa Hd.fn K := He.SaysT.d c.t
  have E : Hd.ex K = true := c.more
  unfold Hd.ex at E
  obtain ⟨x_sF, E⟩ := He.ba E
  obtain ⟨x_sT, E⟩ := He.ba E
  obtain ⟨x_iF, E⟩ := He.ba E
  obtain ⟨x_iT, E⟩ := He.ba E
  obtain ⟨x_oF, E⟩ := He.ba E
  obtain ⟨x_oT, E⟩ := He.ba E
  obtain ⟨x_kTT, E⟩ := He.ba E
  obtain ⟨x_kFF, E⟩ := He.ba E
  obtain ⟨x_kTup, E⟩ := He.ba E
  obtain ⟨x_pEb, E⟩ := He.ba E
  obtain ⟨x_pDb, E⟩ := He.ba E
  obtain ⟨x_mIb, E⟩ := He.ba E
  obtain ⟨x_mLb, E⟩ := He.ba E
  obtain ⟨x_gcdb, E⟩ := He.ba E
  obtain ⟨x_fEb, E⟩ := He.ba E
  have B : Bt mg := ⟨He.free_ok KX G (cD.fact 55 rfl), He.free_ok KX G (cD.fact 56 rfl), He.free_ok KX G (cD.fact 57 rfl), He.free_ok KX G (cD.fact 58 rfl), He.free_ok KX G (cD.fact 59 rfl), He.free_ok KX G (cD.fact 60 rfl), He.free_ok KX G (cD.fact 61 rfl), He.free_ok KX G (cD.fact 62 rfl), He.free_ok KX G (cD.fact 63 rfl), He.free_ok KX G (cD.fact 64 rfl), He.free_ok KX G (cD.fact 65 rfl), He.free_ok KX G (cD.fact 66 rfl), He.free_ok KX G (cD.fact 67 rfl), He.free_ok KX G (cD.fact 68 rfl), He.free_ok KX G (cD.fact 69 rfl), PySem.W.mg_of KX G (He.eqO_ok x_gcdb), He.int_ok KX G (cD.fact 70 rfl), He.int_ok KX G (cD.fact 71 rfl)⟩
  have C : Fm K mg := ⟨He.glo_ok KX G (cD.fact 51 rfl), He.glo_ok KX G (cD.fact 52 rfl), scls_of x_sF, scls_of x_sT, sisi_of x_iF, sisi_of x_iT, slot_of x_oF (by decide), slot_of x_oT (by decide), He.mkr_ok (cD.fact 53 rfl), He.mkr_ok (cD.fact 54 rfl), of_decide_eq_true x_kTT, of_decide_eq_true x_kFF, of_decide_eq_true x_kTup⟩
  have IL : ItL K (cF K) (He.ma K (cF K) "__iter__") (He.ma K (cF K) "__len__") := by
    obtain ⟨i1, i2⟩ := He.ba x_mIb
    obtain ⟨l1, l2⟩ := He.ba x_mLb
    exact ⟨He.eqO_ok i1, i2, He.eqO_ok l1, l2⟩
  have q1 : Hd.fnAt K (Hd.getA K (Hd.atA K (Hd.gF K) "entries")) = (some (("entries" : Str), ("Form.entries" : Str), defArgs Hd.sE, .stmts (defBody Hd.sE), defScope Hd.sE, mainGlobals, [], builtinsNs) : He.FnW) := (List.cons.inj q).1
  have q2 : Hd.fnAt K (Hd.getA K (Hd.atA K (Hd.gF K) "degree")) = (some (("degree" : Str), ("Form.degree" : Str), defArgs Hd.sD, .stmts (defBody Hd.sD), defScope Hd.sD, mainGlobals, [], builtinsNs) : He.FnW) := (List.cons.inj (List.cons.inj q).2).1
  have D_entries : Md K "entries" "Form.entries" s_entries (Hd.getA K (Hd.atA K (Hd.gF K) "entries")) := ⟨fun_at q1 x_fEb⟩
  have D_degree : Md K "degree" "Form.degree" s_degree (Hd.getA K (Hd.atA K (Hd.gF K) "degree")) := ⟨fun_at q2 E⟩
  have D_toldInit : Md K "__init__" "Told.__init__" s_toldInit (He.ma K (cT K) "__init__") := ⟨cD.def_ 51 rfl⟩
  have D_formInit : Md K "__init__" "Form.__init__" s_formInit (He.ma K (cF K) "__init__") := ⟨cD.def_ 52 rfl⟩
  have D_iter : Md K "__iter__" "Form.__iter__" s_iter (He.ma K (cF K) "__iter__") := ⟨cD.def_ 53 rfl⟩
  have D_flen : Md K "__len__" "Form.__len__" s_flen (He.ma K (cF K) "__len__") := ⟨cD.def_ 54 rfl⟩
  have D_is_whole : Dd K mg "is_whole" s_is_whole := by
    obtain ⟨fd, F⟩ := cD.def_ 0 rfl
    exact ⟨fd, F, He.glo_ok KX G (cD.fact 0 rfl)⟩
  have D_is_short : Dd K mg "is_short" s_is_short := by
    obtain ⟨fd, F⟩ := cD.def_ 1 rfl
    exact ⟨fd, F, He.glo_ok KX G (cD.fact 1 rfl)⟩
  have D_is_from : Dd K mg "is_from" s_is_from := by
    obtain ⟨fd, F⟩ := cD.def_ 2 rfl
    exact ⟨fd, F, He.glo_ok KX G (cD.fact 2 rfl)⟩
  have D_are_short : Dd K mg "are_short" s_are_short := by
    obtain ⟨fd, F⟩ := cD.def_ 3 rfl
    exact ⟨fd, F, He.glo_ok KX G (cD.fact 3 rfl)⟩
  have D_require_from : Dd K mg "require_from" s_require_from := by
    obtain ⟨fd, F⟩ := cD.def_ 4 rfl
    exact ⟨fd, F, He.glo_ok KX G (cD.fact 4 rfl)⟩
  have D_shared_of : Dd K mg "shared_of" s_shared_of := by
    obtain ⟨fd, F⟩ := cD.def_ 5 rfl
    exact ⟨fd, F, He.glo_ok KX G (cD.fact 5 rfl)⟩
  have D_first_of : Dd K mg "first_of" s_first_of := by
    obtain ⟨fd, F⟩ := cD.def_ 6 rfl
    exact ⟨fd, F, He.glo_ok KX G (cD.fact 6 rfl)⟩
  have D_primitive_of : Dd K mg "primitive_of" s_primitive_of := by
    obtain ⟨fd, F⟩ := cD.def_ 7 rfl
    exact ⟨fd, F, He.glo_ok KX G (cD.fact 7 rfl)⟩
  have D_factorial_of : Dd K mg "factorial_of" s_factorial_of := by
    obtain ⟨fd, F⟩ := cD.def_ 8 rfl
    exact ⟨fd, F, He.glo_ok KX G (cD.fact 8 rfl)⟩
  have D_less_head : Dd K mg "less_head" s_less_head := by
    obtain ⟨fd, F⟩ := cD.def_ 9 rfl
    exact ⟨fd, F, He.glo_ok KX G (cD.fact 9 rfl)⟩
  have D_echelon_rows : Dd K mg "echelon_rows" s_echelon_rows := by
    obtain ⟨fd, F⟩ := cD.def_ 10 rfl
    exact ⟨fd, F, He.glo_ok KX G (cD.fact 10 rfl)⟩
  have D_lead_of : Dd K mg "lead_of" s_lead_of := by
    obtain ⟨fd, F⟩ := cD.def_ 11 rfl
    exact ⟨fd, F, He.glo_ok KX G (cD.fact 11 rfl)⟩
  have D_rank_of : Dd K mg "rank_of" s_rank_of := by
    obtain ⟨fd, F⟩ := cD.def_ 12 rfl
    exact ⟨fd, F, He.glo_ok KX G (cD.fact 12 rfl)⟩
  have D_kernel_rows : Dd K mg "kernel_rows" s_kernel_rows := by
    obtain ⟨fd, F⟩ := cD.def_ 13 rfl
    exact ⟨fd, F, He.glo_ok KX G (cD.fact 13 rfl)⟩
  have D_are_entries : Dd K mg "are_entries" s_are_entries := by
    obtain ⟨fd, F⟩ := cD.def_ 14 rfl
    exact ⟨fd, F, He.glo_ok KX G (cD.fact 14 rfl)⟩
  have D_form_of : Dd K mg "form_of" s_form_of := by
    obtain ⟨fd, F⟩ := cD.def_ 15 rfl
    exact ⟨fd, F, He.glo_ok KX G (cD.fact 15 rfl)⟩
  have D_require_form : Dd K mg "require_form" s_require_form := by
    obtain ⟨fd, F⟩ := cD.def_ 16 rfl
    exact ⟨fd, F, He.glo_ok KX G (cD.fact 16 rfl)⟩
  have D_level_entries : Dd K mg "level_entries" s_level_entries := by
    obtain ⟨fd, F⟩ := cD.def_ 17 rfl
    exact ⟨fd, F, He.glo_ok KX G (cD.fact 17 rfl)⟩
  have D_level_rows : Dd K mg "level_rows" s_level_rows := by
    obtain ⟨fd, F⟩ := cD.def_ 18 rfl
    exact ⟨fd, F, He.glo_ok KX G (cD.fact 18 rfl)⟩
  have D_ranks_in : Dd K mg "ranks_in" s_ranks_in := by
    obtain ⟨fd, F⟩ := cD.def_ 19 rfl
    exact ⟨fd, F, He.glo_ok KX G (cD.fact 19 rfl)⟩
  have D_killers_in : Dd K mg "killers_in" s_killers_in := by
    obtain ⟨fd, F⟩ := cD.def_ 20 rfl
    exact ⟨fd, F, He.glo_ok KX G (cD.fact 20 rfl)⟩
  have D_killer_ranks : Dd K mg "killer_ranks" s_killer_ranks := by
    obtain ⟨fd, F⟩ := cD.def_ 21 rfl
    exact ⟨fd, F, He.glo_ok KX G (cD.fact 21 rfl)⟩
  have D_killers : Dd K mg "killers" s_killers := by
    obtain ⟨fd, F⟩ := cD.def_ 22 rfl
    exact ⟨fd, F, He.glo_ok KX G (cD.fact 22 rfl)⟩
  have D__law_dice : Dd K mg "_law_dice" s__law_dice := by
    obtain ⟨fd, F⟩ := cD.def_ 23 rfl
    exact ⟨fd, F, He.glo_ok KX G (cD.fact 23 rfl)⟩
  have D__law_roll : Dd K mg "_law_roll" s__law_roll := by
    obtain ⟨fd, F⟩ := cD.def_ 24 rfl
    exact ⟨fd, F, He.glo_ok KX G (cD.fact 24 rfl)⟩
  have D__law_near : Dd K mg "_law_near" s__law_near := by
    obtain ⟨fd, F⟩ := cD.def_ 25 rfl
    exact ⟨fd, F, He.glo_ok KX G (cD.fact 25 rfl)⟩
  have D__law_gcd : Dd K mg "_law_gcd" s__law_gcd := by
    obtain ⟨fd, F⟩ := cD.def_ 26 rfl
    exact ⟨fd, F, He.glo_ok KX G (cD.fact 26 rfl)⟩
  have D__law_shared : Dd K mg "_law_shared" s__law_shared := by
    obtain ⟨fd, F⟩ := cD.def_ 27 rfl
    exact ⟨fd, F, He.glo_ok KX G (cD.fact 27 rfl)⟩
  have D__law_plus : Dd K mg "_law_plus" s__law_plus := by
    obtain ⟨fd, F⟩ := cD.def_ 28 rfl
    exact ⟨fd, F, He.glo_ok KX G (cD.fact 28 rfl)⟩
  have D__law_scaled : Dd K mg "_law_scaled" s__law_scaled := by
    obtain ⟨fd, F⟩ := cD.def_ 29 rfl
    exact ⟨fd, F, He.glo_ok KX G (cD.fact 29 rfl)⟩
  have D__law_product : Dd K mg "_law_product" s__law_product := by
    obtain ⟨fd, F⟩ := cD.def_ 30 rfl
    exact ⟨fd, F, He.glo_ok KX G (cD.fact 30 rfl)⟩
  have D__law_all_product : Dd K mg "_law_all_product" s__law_all_product := by
    obtain ⟨fd, F⟩ := cD.def_ 31 rfl
    exact ⟨fd, F, He.glo_ok KX G (cD.fact 31 rfl)⟩
  have D__law_power : Dd K mg "_law_power" s__law_power := by
    obtain ⟨fd, F⟩ := cD.def_ 32 rfl
    exact ⟨fd, F, He.glo_ok KX G (cD.fact 32 rfl)⟩
  have D__law_plain : Dd K mg "_law_plain" s__law_plain := by
    obtain ⟨fd, F⟩ := cD.def_ 33 rfl
    exact ⟨fd, F, He.glo_ok KX G (cD.fact 33 rfl)⟩
  have D__law_line : Dd K mg "_law_line" s__law_line := by
    obtain ⟨fd, F⟩ := cD.def_ 34 rfl
    exact ⟨fd, F, He.glo_ok KX G (cD.fact 34 rfl)⟩
  have D__law_point : Dd K mg "_law_point" s__law_point := by
    obtain ⟨fd, F⟩ := cD.def_ 35 rfl
    exact ⟨fd, F, He.glo_ok KX G (cD.fact 35 rfl)⟩
  have D__law_points : Dd K mg "_law_points" s__law_points := by
    obtain ⟨fd, F⟩ := cD.def_ 36 rfl
    exact ⟨fd, F, He.glo_ok KX G (cD.fact 36 rfl)⟩
  have D__law_small_form : Dd K mg "_law_small_form" s__law_small_form := by
    obtain ⟨fd, F⟩ := cD.def_ 37 rfl
    exact ⟨fd, F, He.glo_ok KX G (cD.fact 37 rfl)⟩
  have D__law_form : Dd K mg "_law_form" s__law_form := by
    obtain ⟨fd, F⟩ := cD.def_ 38 rfl
    exact ⟨fd, F, He.glo_ok KX G (cD.fact 38 rfl)⟩
  have D__law_cleared : Dd K mg "_law_cleared" s__law_cleared := by
    obtain ⟨fd, F⟩ := cD.def_ 39 rfl
    exact ⟨fd, F, He.glo_ok KX G (cD.fact 39 rfl)⟩
  have D__law_less : Dd K mg "_law_less" s__law_less := by
    obtain ⟨fd, F⟩ := cD.def_ 40 rfl
    exact ⟨fd, F, He.glo_ok KX G (cD.fact 40 rfl)⟩
  have D__law_rank : Dd K mg "_law_rank" s__law_rank := by
    obtain ⟨fd, F⟩ := cD.def_ 41 rfl
    exact ⟨fd, F, He.glo_ok KX G (cD.fact 41 rfl)⟩
  have D__law_leads : Dd K mg "_law_leads" s__law_leads := by
    obtain ⟨fd, F⟩ := cD.def_ 42 rfl
    exact ⟨fd, F, He.glo_ok KX G (cD.fact 42 rfl)⟩
  have D__law_kernel : Dd K mg "_law_kernel" s__law_kernel := by
    obtain ⟨fd, F⟩ := cD.def_ 43 rfl
    exact ⟨fd, F, He.glo_ok KX G (cD.fact 43 rfl)⟩
  have D__law_levels : Dd K mg "_law_levels" s__law_levels := by
    obtain ⟨fd, F⟩ := cD.def_ 44 rfl
    exact ⟨fd, F, He.glo_ok KX G (cD.fact 44 rfl)⟩
  have D__law_killer_table : Dd K mg "_law_killer_table" s__law_killer_table := by
    obtain ⟨fd, F⟩ := cD.def_ 45 rfl
    exact ⟨fd, F, He.glo_ok KX G (cD.fact 45 rfl)⟩
  have D__law_killer_rows : Dd K mg "_law_killer_rows" s__law_killer_rows := by
    obtain ⟨fd, F⟩ := cD.def_ 46 rfl
    exact ⟨fd, F, He.glo_ok KX G (cD.fact 46 rfl)⟩
  have D__law_least_kill : Dd K mg "_law_least_kill" s__law_least_kill := by
    obtain ⟨fd, F⟩ := cD.def_ 47 rfl
    exact ⟨fd, F, He.glo_ok KX G (cD.fact 47 rfl)⟩
  have D__law_right : Dd K mg "_law_right" s__law_right := by
    obtain ⟨fd, F⟩ := cD.def_ 48 rfl
    exact ⟨fd, F, He.glo_ok KX G (cD.fact 48 rfl)⟩
  have D__law_are_powers_right : Dd K mg "_law_are_powers_right" s__law_are_powers_right := by
    obtain ⟨fd, F⟩ := cD.def_ 49 rfl
    exact ⟨fd, F, He.glo_ok KX G (cD.fact 49 rfl)⟩
  obtain ⟨fd, F_law⟩ : ∃ fd, FunD K "law" "law" (defArgs s_law) (defBody s_law) (defScope s_law) [] [] (He.fAd K ("law", none)) fd := cD.def_ 50 rfl
  have e := hfa.symm.trans (He.glo_ok KX G (cD.fact 50 rfl))
  cases e
  have htf := c.hd ("first_of", none) (List.mem_singleton.mpr rfl)
  refine ⟨fd, [(codK K, tabK K)], sp_law K, fun p hp => ?_, fun p hp => ?_, fun p hp => ?_, fun s u => F_law.bindsA (ps := ["_law_script"]) (fun _ _ _ _ _ _ us hl => match us, hl with | [_], _ => rfl) s [u] rfl, fun H a ns hl _ hT hS => ?_, fun base KB GB hTB => ?_⟩
  · rw [List.mem_singleton.mp hp]
    exact c.empty ("first_of", none) (List.mem_singleton.mpr rfl)
  · rw [List.mem_singleton.mp hp]
    exact c.out ("first_of", none) (List.mem_singleton.mpr rfl)
  · rw [List.mem_singleton.mp hp]
    exact PySem.W.codeHd_of_K KX htf
  · exact ⟨a, ns, rfl, hS, hl, ⟨#[], hT _ (List.mem_singleton.mpr rfl), trivial⟩, fun _ => rfl⟩
  · have TB : GxR.TabB base mg (codK K) (tabK K) := let z := hTB _ (List.mem_singleton.mpr rfl); ⟨z.code, z.bm, z.gP⟩
    have cTi := d_toldInit (P := (PySem.Challenge.rw_sourceforms_k64_whole_ranks_and_killers).prog) (w := w) (base := base) B C D_toldInit
    have c_is_whole := d_is_whole (P := (PySem.Challenge.rw_sourceforms_k64_whole_ranks_and_killers).prog) (w := w) (base := base) B D_is_whole
    have c_is_short := d_is_short (P := (PySem.Challenge.rw_sourceforms_k64_whole_ranks_and_killers).prog) (w := w) (base := base) B c_is_whole D_is_short
    have c_is_from := d_is_from (P := (PySem.Challenge.rw_sourceforms_k64_whole_ranks_and_killers).prog) (w := w) (base := base) B c_is_whole D_is_from
    have c_are_short := d_are_short (P := (PySem.Challenge.rw_sourceforms_k64_whole_ranks_and_killers).prog) (w := w) (base := base) B c_is_short D_are_short
    have c_require_from := d_require_from (P := (PySem.Challenge.rw_sourceforms_k64_whole_ranks_and_killers).prog) (w := w) (base := base) B c_is_from D_require_from
    have c_are_entries := d_are_entries (P := (PySem.Challenge.rw_sourceforms_k64_whole_ranks_and_killers).prog) (w := w) (base := base) B c_are_short D_are_entries
    have cFi := d_formInit (P := (PySem.Challenge.rw_sourceforms_k64_whole_ranks_and_killers).prog) (w := w) (base := base) B C c_are_entries D_formInit
    have cE0 := d_entries (P := (PySem.Challenge.rw_sourceforms_k64_whole_ranks_and_killers).prog) (w := w) (base := base) B C D_entries
    have cD0 := d_degree (P := (PySem.Challenge.rw_sourceforms_k64_whole_ranks_and_killers).prog) (w := w) (base := base) B C D_degree
    have pE : Prp _ w K mg base 1 (cF K) "entries" (sp_entries K) := prop_of x_pEb cE0
    have pD : Prp _ w K mg base 1 (cF K) "degree" (sp_degree K) := prop_of x_pDb cD0
    have cI := d_iter (P := (PySem.Challenge.rw_sourceforms_k64_whole_ranks_and_killers).prog) (w := w) (base := base) B C D_iter
    have cL := d_flen (P := (PySem.Challenge.rw_sourceforms_k64_whole_ranks_and_killers).prog) (w := w) (base := base) B C D_flen
    have c_shared_of := d_shared_of (P := (PySem.Challenge.rw_sourceforms_k64_whole_ranks_and_killers).prog) (w := w) (base := base) B D_shared_of
    have c_first_of := d_first_of (P := (PySem.Challenge.rw_sourceforms_k64_whole_ranks_and_killers).prog) (w := w) (base := base) B TB D_first_of
    have c_primitive_of := d_primitive_of (P := (PySem.Challenge.rw_sourceforms_k64_whole_ranks_and_killers).prog) (w := w) (base := base) B c_first_of c_shared_of D_primitive_of
    have c_factorial_of := d_factorial_of (P := (PySem.Challenge.rw_sourceforms_k64_whole_ranks_and_killers).prog) (w := w) (base := base) B D_factorial_of
    have c_less_head := d_less_head (P := (PySem.Challenge.rw_sourceforms_k64_whole_ranks_and_killers).prog) (w := w) (base := base) B c_shared_of D_less_head
    have c_echelon_rows := d_echelon_rows (P := (PySem.Challenge.rw_sourceforms_k64_whole_ranks_and_killers).prog) (w := w) (base := base) B c_primitive_of c_less_head D_echelon_rows
    have c_lead_of := d_lead_of (P := (PySem.Challenge.rw_sourceforms_k64_whole_ranks_and_killers).prog) (w := w) (base := base) B D_lead_of
    have c_rank_of := d_rank_of (P := (PySem.Challenge.rw_sourceforms_k64_whole_ranks_and_killers).prog) (w := w) (base := base) B c_echelon_rows D_rank_of
    have c_kernel_rows := d_kernel_rows (P := (PySem.Challenge.rw_sourceforms_k64_whole_ranks_and_killers).prog) (w := w) (base := base) B c_echelon_rows c_lead_of D_kernel_rows
    have c_form_of := d_form_of (P := (PySem.Challenge.rw_sourceforms_k64_whole_ranks_and_killers).prog) (w := w) (base := base) B C cTi cFi D_form_of
    have c_require_form := d_require_form (P := (PySem.Challenge.rw_sourceforms_k64_whole_ranks_and_killers).prog) (w := w) (base := base) B C D_require_form
    have c_level_entries := d_level_entries (P := (PySem.Challenge.rw_sourceforms_k64_whole_ranks_and_killers).prog) (w := w) (base := base) B c_factorial_of D_level_entries
    have c_level_rows := d_level_rows (P := (PySem.Challenge.rw_sourceforms_k64_whole_ranks_and_killers).prog) (w := w) (base := base) B c_level_entries D_level_rows
    have c_ranks_in := d_ranks_in (P := (PySem.Challenge.rw_sourceforms_k64_whole_ranks_and_killers).prog) (w := w) (base := base) B c_rank_of c_level_rows D_ranks_in
    have c_killers_in := d_killers_in (P := (PySem.Challenge.rw_sourceforms_k64_whole_ranks_and_killers).prog) (w := w) (base := base) B c_kernel_rows c_level_rows D_killers_in
    have c_killer_ranks := d_killer_ranks (P := (PySem.Challenge.rw_sourceforms_k64_whole_ranks_and_killers).prog) (w := w) (base := base) B C pE c_ranks_in c_require_form D_killer_ranks
    have c_killers := d_killers (P := (PySem.Challenge.rw_sourceforms_k64_whole_ranks_and_killers).prog) (w := w) (base := base) B C pE pD c_killers_in c_form_of c_require_from c_require_form D_killers
    have c__law_dice := d__law_dice (P := (PySem.Challenge.rw_sourceforms_k64_whole_ranks_and_killers).prog) (w := w) (base := base) B D__law_dice
    have c__law_roll := d__law_roll (P := (PySem.Challenge.rw_sourceforms_k64_whole_ranks_and_killers).prog) (w := w) (base := base) B D__law_roll
    have c__law_near := d__law_near (P := (PySem.Challenge.rw_sourceforms_k64_whole_ranks_and_killers).prog) (w := w) (base := base) B c__law_roll D__law_near
    have c__law_gcd := d__law_gcd (P := (PySem.Challenge.rw_sourceforms_k64_whole_ranks_and_killers).prog) (w := w) (base := base) B D__law_gcd
    have c__law_shared := d__law_shared (P := (PySem.Challenge.rw_sourceforms_k64_whole_ranks_and_killers).prog) (w := w) (base := base) B c__law_gcd D__law_shared
    have c__law_plus := d__law_plus (P := (PySem.Challenge.rw_sourceforms_k64_whole_ranks_and_killers).prog) (w := w) (base := base) B D__law_plus
    have c__law_scaled := d__law_scaled (P := (PySem.Challenge.rw_sourceforms_k64_whole_ranks_and_killers).prog) (w := w) (base := base) B D__law_scaled
    have c__law_product := d__law_product (P := (PySem.Challenge.rw_sourceforms_k64_whole_ranks_and_killers).prog) (w := w) (base := base) B D__law_product
    have c__law_all_product := d__law_all_product (P := (PySem.Challenge.rw_sourceforms_k64_whole_ranks_and_killers).prog) (w := w) (base := base) B c__law_product D__law_all_product
    have c__law_power := d__law_power (P := (PySem.Challenge.rw_sourceforms_k64_whole_ranks_and_killers).prog) (w := w) (base := base) B c__law_product D__law_power
    have c__law_plain := d__law_plain (P := (PySem.Challenge.rw_sourceforms_k64_whole_ranks_and_killers).prog) (w := w) (base := base) B c__law_shared D__law_plain
    have c__law_line := d__law_line (P := (PySem.Challenge.rw_sourceforms_k64_whole_ranks_and_killers).prog) (w := w) (base := base) B D__law_line
    have c__law_point := d__law_point (P := (PySem.Challenge.rw_sourceforms_k64_whole_ranks_and_killers).prog) (w := w) (base := base) B c__law_plain c__law_near D__law_point
    have c__law_points := d__law_points (P := (PySem.Challenge.rw_sourceforms_k64_whole_ranks_and_killers).prog) (w := w) (base := base) B c__law_point D__law_points
    have c__law_small_form := d__law_small_form (P := (PySem.Challenge.rw_sourceforms_k64_whole_ranks_and_killers).prog) (w := w) (base := base) B c__law_near D__law_small_form
    have c__law_form := d__law_form (P := (PySem.Challenge.rw_sourceforms_k64_whole_ranks_and_killers).prog) (w := w) (base := base) B c__law_small_form c__law_roll c__law_near c__law_plus c__law_scaled c__law_power c__law_point c__law_product c__law_line c__law_all_product D__law_form
    have c__law_less := d__law_less (P := (PySem.Challenge.rw_sourceforms_k64_whole_ranks_and_killers).prog) (w := w) (base := base) B c__law_shared c__law_gcd D__law_less
    have c__law_cleared := d__law_cleared (P := (PySem.Challenge.rw_sourceforms_k64_whole_ranks_and_killers).prog) (w := w) (base := base) B c__law_plain c__law_less D__law_cleared
    have c__law_rank := d__law_rank (P := (PySem.Challenge.rw_sourceforms_k64_whole_ranks_and_killers).prog) (w := w) (base := base) B c__law_cleared D__law_rank
    have c__law_leads := d__law_leads (P := (PySem.Challenge.rw_sourceforms_k64_whole_ranks_and_killers).prog) (w := w) (base := base) B D__law_leads
    have c__law_kernel := d__law_kernel (P := (PySem.Challenge.rw_sourceforms_k64_whole_ranks_and_killers).prog) (w := w) (base := base) B c__law_cleared c__law_gcd c__law_leads D__law_kernel
    have c__law_levels := d__law_levels (P := (PySem.Challenge.rw_sourceforms_k64_whole_ranks_and_killers).prog) (w := w) (base := base) B D__law_levels
    have c__law_killer_table := d__law_killer_table (P := (PySem.Challenge.rw_sourceforms_k64_whole_ranks_and_killers).prog) (w := w) (base := base) B c__law_levels D__law_killer_table
    have c__law_killer_rows := d__law_killer_rows (P := (PySem.Challenge.rw_sourceforms_k64_whole_ranks_and_killers).prog) (w := w) (base := base) B c__law_kernel c__law_killer_table D__law_killer_rows
    have c__law_least_kill := d__law_least_kill (P := (PySem.Challenge.rw_sourceforms_k64_whole_ranks_and_killers).prog) (w := w) (base := base) B c__law_killer_rows D__law_least_kill
    have c__law_right := d__law_right (P := (PySem.Challenge.rw_sourceforms_k64_whole_ranks_and_killers).prog) (w := w) (base := base) B C cFi IL cI cL c__law_least_kill c__law_shared c__law_killer_rows c_killers c__law_rank c__law_killer_table c_killer_ranks c__law_form c__law_roll D__law_right
    have c__law_are_powers_right := d__law_are_powers_right (P := (PySem.Challenge.rw_sourceforms_k64_whole_ranks_and_killers).prog) (w := w) (base := base) B C cFi IL cI cL c__law_rank c__law_plain c_killers c__law_all_product c__law_line c__law_plus c__law_scaled c__law_roll c__law_power c__law_points D__law_are_powers_right
    exact d_law (P := (PySem.Challenge.rw_sourceforms_k64_whole_ranks_and_killers).prog) (w := w) (base := base) B C cFi IL cI cL c_killer_ranks c_killers c__law_are_powers_right c__law_right c__law_dice F_law
end W0
open PySem PySem.W PySem.Calls PyProof.Rows
theorem PySem.Challenge.cw_sourceforms_k64_whole_ranks_and_killers_holds : PySem.Challenge.rw_sourceforms_k64_whole_ranks_and_killers.Holds := by
  w_on
  o_law
  refine HandSHeadRun.head_imp (r := OpenLaw.row PySem.Challenge.rw_sourceforms_k64_whole_ranks_and_killers) (q := PySem.W.view (OpenLaw.row PySem.Challenge.rw_sourceforms_k64_whole_ranks_and_killers).prog [74]) (H := Hd.hk) (ob := Hd.ob) (M := 20000) (loose := Hd.names) (d := HandSHeadRun.topDef (OpenLaw.row PySem.Challenge.rw_sourceforms_k64_whole_ranks_and_killers).prog 74) (kwd := []) Hd.ob_eq Hd.run (by kernel_rfl) (by kernel_rfl) (by kernel_rfl) (by rfl) (by first | assumption | decide +kernel) (by decide +kernel) ⟨rfl, rfl, rfl, rfl, rfl, by decide +kernel⟩ ?hw ?hc
  case hw => w_witness2
  case hc =>
    refine LamX.walk_ofTsE (l := PySem.Challenge.rw_sourceforms_k64_whole_ranks_and_killers) (n := 63) (k := 10) (x := "_law_script") (CX := fun _ => L2.CX0) rfl (by decide) (by kernel_rfl) ⟨rfl, by decide, by decide⟩ ?F (fun _ _ _ _ _ z => z)
    intro w mg fa h Y G hmg0
    obtain ⟨K, KX, c, q⟩ := Y
    have hnm : (HandSHeadRun.topDef (OpenLaw.row PySem.Challenge.rw_sourceforms_k64_whole_ranks_and_killers).prog 74).name = "law" := by kernel_rfl
    rw [hnm] at hmg0
    exact ⟨K, KX, W0.law_at KX G hmg0 c q⟩
