import PyProof.Rows.All
import Wide.All
import OpenK.AllK
import Wide.FinOn
import HandS.Words
import KE.KSuper
import HandS.HeadNt
import HandS.HeadHook2
import HandS.Head2
import Open.Gens
import HandS.ForMost
import HandS.GenList
import HandS.Evl
import HandS.SlotsVar
import HandS.IsInst
import HandS.DictComp
import HandS.Zip
import HandS.TupAny
import HandS.Conv
import KE.KStar
import KE.KDictKeyed
import HandS.ClsMeth
import HandS.Deep
import HandS.TupSets
import HandS.Keys
import KE.KDictDisplayH
import KE.KSortTupG
import KE.KSortTupUse
import HandS.Head0
import HandS.Head1
import HandS.HeadEnd
import HandS.HeadHook1
import HandS.Ends
import HandS.Defaults
import HandS.Wide
import PySem.Challenge.RW_levelhues_k35_whole_counts_of_colourings
set_option Elab.async false
set_option linter.all false
set_option autoImplicit false
set_option maxRecDepth 100000
/-! Tx: the text by places. -/
namespace Tx
open PySem L2
def top (i : Nat) : Stmt := PySem.Challenge.pw_levelhues_k35_whole_counts_of_colourings.main.body.getD i (.Pass ⟨0, 0, 0, 0⟩)
/-! the defs of the text -/
abbrev sInt : Stmt := top 8
abbrev sAsc : Stmt := top 9
abbrev sTie : Stmt := top 14
abbrev sNbr : Stmt := top 17
abbrev sNear : Stmt := top 16
abbrev sParts : Stmt := inClass (top 13) 1
abbrev sChk : Stmt := top 15
abbrev sWeb : Stmt := inClass (top 18) 0
abbrev sLess : Stmt := top 37
abbrev sApt : Stmt := top 38
abbrev sRw : Stmt := top 22
abbrev sRe : Stmt := top 39
abbrev sRa : Stmt := top 40
abbrev sSi : Stmt := inClass (top 35) 0
abbrev sSc : Stmt := inClass (top 35) 1
abbrev sCt : Stmt := inClass (top 35) 3
abbrev sVi : Stmt := inClass (top 36) 0
abbrev sFi : Stmt := inClass (top 36) 1
abbrev sLc : Stmt := inClass (top 36) 2
abbrev sCc : Stmt := top 41
abbrev sCl : Stmt := top 42
abbrev sDi : Stmt := top 46
abbrev sRo : Stmt := top 47
abbrev sMi : Stmt := top 48
abbrev sAt : Stmt := top 49
abbrev sPt : Stmt := top 50
abbrev sTi : Stmt := top 51
abbrev sWb : Stmt := top 52
abbrev sMw : Stmt := top 53
abbrev sPw : Stmt := top 61
abbrev sHu : Stmt := top 59
abbrev sCo : Stmt := top 57
abbrev sNe : Stmt := top 54
abbrev sIr : Stmt := top 55
abbrev sIc : Stmt := top 56
abbrev sIl : Stmt := top 58
abbrev sMg : Stmt := top 60
abbrev sNu : Stmt := top 62
abbrev sLn : Stmt := top 63
abbrev sRf : Stmt := top 43
abbrev sCg : Stmt := top 44
abbrev sLr : Stmt := top 64
abbrev sRt : Stmt := top 65
abbrev sLw : Stmt := top 66
end Tx
set_option maxHeartbeats 0
/-! Hk2: the facts behind the top. -/
namespace Hk
open PySem PySem.Spec PyProof.Rows L2 Tx

def dD (x : Str) (st : Stmt) : He.DefD := ⟨(x, none), x, x, defArgs st, defBody st, defScope st, [], []⟩
def dM (c m q : Str) (st : Stmt) : He.DefD := ⟨(c, some m), m, q, defArgs st, defBody st, defScope st, [], []⟩
def dWeb : He.DefD := ⟨("Web", some "__init__"), "__init__", "Web.__init__", defArgs sWeb, defBody sWeb, defScope sWeb, [.adr (He.dflAt ("Web", some "__init__") 0)], []⟩
def fn1 : List He.DefD := [dD "is_integer" sInt, dD "is_ascending" sAsc, dM "Parts" "__init__" "Parts.__init__" sParts, dD "is_tie" sTie, dD "checked" sChk, dD "near_of" sNear, dD "neighbours_of" sNbr, dWeb, dD "require_web" sRw, dM "Search" "__init__" "Search.__init__" sSi,
  dM "Search" "choices" "Search.choices" sSc, dM "Search" "count" "Search.count" sCt, dM "LevelSearch" "fits" "LevelSearch.fits" sFi, dM "LevelSearch" "choices" "LevelSearch.choices" sLc, dD "less" sLess, dD "apart_sets" sApt, dD "require_exact" sRe, dD "require_asked" sRa,
  dD "count_colourings" sCc, dD "count_level" sCl, dD "rows_from" sRf, dD "colourings" sCg]
def fn2 : List He.DefD := [dD "_law_dice" sDi, dD "_law_roll" sRo, dD "_law_mixed" sMi, dD "_law_all_ties" sAt, dD "_law_parted_ties" sPt, dD "_law_ties" sTi, dD "_law_web" sWb, dD "_law_made_web" sMw, dD "_law_near" sNe, dD "_law_is_row" sIr, dD "_law_is_colouring" sIc,
  dD "_law_counts" sCo, dD "_law_is_level" sIl, dD "_law_hues" sHu, dD "_law_merged" sMg, dD "_law_power" sPw, dD "_law_number" sNu, dD "_law_level_number" sLn, dD "_law_listed_right" sLr, dD "_law_right" sRt, dD "law" sLw]
def fn : List He.DefD := fn1 ++ fn2
def fa1 : List He.Fa := [.free "len", .free "range", .free "isinstance", .free "int", .free "bool", .free "tuple", .free "list", .free "all", .free "any", .free "sum", .free "zip", .free "sorted", .free "set", .free "max", .free "min", .free "abs", .free "super"]
def fa2 : List He.Fa := [.int "MAX_HUES" 20, .int "MAX_EXACT" 10, .int "MAX_PASSED" 10, .int "MAX_LISTED" 7, .glo "Parts", .glo "Web", .glo "Search", .glo "LevelSearch", .mkr "Parts", .mkr "Web", .mkr "Search", .mkr "LevelSearch", .cls "Web", .cls "Search", .cls "LevelSearch",
  .noat "Web" "own_size", .noat "Web" "own_ties", .noat "Web" "own_near", .noat "Web" "own_places", .noat "Search" "own_web", .noat "Search" "own_hues", .noat "Search" "own_dead", .noat "Search" "own_counts"]
def fa3 : List He.Fa := [.noat "LevelSearch" "own_web", .noat "LevelSearch" "own_hues", .noat "LevelSearch" "own_dead", .noat "LevelSearch" "own_counts", .noat "LevelSearch" "own_least", .noat "LevelSearch" "own_given", .noat "LevelSearch" "own_free",
  .meth "Search" "choices", .meth "Search" "count", .meth "LevelSearch" "choices", .meth "LevelSearch" "fits", .meth "LevelSearch" "count"]
/-- the module's names of the defs -/
def faG (l : List He.DefD) : List He.Fa := l.filterMap fun d => match d.at_.2 with
  | none => some (.glo d.name)
  | some _ => none
def fa : List He.Fa := fa1 ++ (fa2 ++ (fa3 ++ faG fn))
/-! ### what else is asked -/
def slB (K : PySem.W.Frag) (C : Addr) (f : Str) (i : Nat) : Bool := (match PySem.W.findIn K (.ref C) f with
  | some (some (.ref p)) => He.eqO (PySem.W.specialIn K (.ref p) "__get__") (some (some (.builtin "member_descriptor.__get__"))) && (decide (PySem.W.takesIn K (.ref p) = some true) && (decide (PySem.W.slotIn K p C = some i) && decide (PySem.W.typeIn K (.ref p) = some (.type "member_descriptor"))))
  | _ => false)
def scB (K : PySem.W.Frag) (C : Addr) : Bool := PySem.W.plainGet K C Str.empty && (PySem.W.isClsIn K C && (PySem.W.plainOver K C && He.eqO (PySem.W.findIn K (.ref C) "__setattr__") (some (some (.builtin "object.__setattr__")))))
def isB (K : PySem.W.Frag) (C : Addr) : Bool := He.eqO (PySem.W.findIn K (.ref C) "__class__") (some (some (.builtin "object.__class__"))) && (He.eqO (PySem.W.specialIn K (.builtin "object.__class__") "__get__") (some (some (.builtin "getset_descriptor.__get__"))) &&
  (decide (PySem.W.takesIn K (.builtin "object.__class__") = some true) && (decide (PySem.W.mroIn K C (.type "object") = some true) && decide (PySem.W.kitOne K (.ref C) (.ref C) = some true))))
/-- the function at f: its cell, its code -/
def ccAt (K : PySem.W.Frag) (f : Addr) : Addr := match K.lookup f with
  | some ⟨_, _, .func fd, _⟩ => (match fd.closure with
    | [(_, c)] => c
    | _ => 0)
  | _ => 0
def cdAt (K : PySem.W.Frag) (f : Addr) : Addr := match K.lookup f with
  | some ⟨_, _, .func fd, _⟩ => (match fd.code with
    | .ref c => c
    | _ => 0)
  | _ => 0
def cdB (K : PySem.W.Frag) (f : Addr) (q : Str) : Bool := match K.lookup f with
  | some ⟨_, _, .func fd, _⟩ => (match fd.code with
    | .ref _ => true
    | _ => false) && (PySem.W.codeIn K fd.code q && match fd.defaults with
    | .none => true
    | _ => false)
  | _ => false
def cellB (K : PySem.W.Frag) (cc D : Addr) : Bool := match K.lookup cc with
  | some ⟨_, _, .cell (some (.ref E)), _⟩ => decide (E = D)
  | _ => false
def fileB (K : PySem.W.Frag) (cda : Addr) (main : Str) : Bool := match K.lookup cda with
  | some ⟨_, _, .fields vs, _⟩ => (match (vs[2]? : Option Value) with
    | some (.str file _) => main == file
    | _ => false)
  | _ => false
def emB (K : PySem.W.Frag) (T : Addr) : Bool := match K.lookup T with
  | some ⟨.type c, _, .seq its _, _⟩ => decide (c = "tuple") && decide (its.size = 0)
  | _ => false
abbrev mainF : Str := PySem.Challenge.pw_levelhues_k35_whole_counts_of_colourings.main.file
def xsup (K : PySem.W.Frag) (C D : Addr) (m : Str) (g cc cda : Addr) : Bool := cellB K cc D && (fileB K cda mainF && (PySem.W.isClsIn K D && (PySem.W.isClsIn K C && (decide (PySem.W.mroIn K C (.ref D) = some true) &&
  (He.eqO (PySem.W.ks_superIn K C D m) (some (some (.ref g))) && (decide (PySem.W.typeIn K (.ref g) = some (.type "function")) && (PySem.W.fnIn K g && He.eqO (PySem.W.nsIn K cStatics "thirdparty.any") (some none))))))))
abbrev aP (K : PySem.W.Frag) : Addr := He.ga K "Parts"
abbrev aW (K : PySem.W.Frag) : Addr := He.ga K "Web"
abbrev aS (K : PySem.W.Frag) : Addr := He.ga K "Search"
abbrev aL (K : PySem.W.Frag) : Addr := He.ga K "LevelSearch"
abbrev aV (K : PySem.W.Frag) : Addr := He.ma K (aL K) "__init__"
abbrev aE (K : PySem.W.Frag) : Addr := He.dflAt ("Web", some "__init__") 0 K
def xtra (K : PySem.W.Frag) : Bool := slB K (aP K) "own_size" 0 && (slB K (aP K) "own_ties" 1 && (scB K (aP K) && (isB K (aW K) && (decide (PySem.W.kitOne K (.type "int") (.ref (aP K)) = some false) && (cdB K (aV K) "LevelSearch.__init__" && (emB K (aE K) &&
  (xsup K (aL K) (aL K) "__init__" (He.ma K (aS K) "__init__") (ccAt K (aV K)) (cdAt K (aV K)) && decide (He.ma K (aS K) "count" = He.ma K (aL K) "count"))))))))
abbrev FnX : Type := Option (Str × Str × Arguments × FuncBody × Scope × Addr × List Str × Addr)
def fnC (K : PySem.W.Frag) (a : Addr) : FnX := match K.lookup a with
  | some ⟨_, _, .func fd, _⟩ => some (fd.name, fd.qualname, fd.params, fd.body, fd.scope, fd.globals, fd.closure.map (·.1), fd.builtins)
  | _ => none
def valX : FnX := some ("__init__", "LevelSearch.__init__", defArgs sVi, .stmts (defBody sVi), defScope sVi, mainGlobals, ["__class__"], builtinsNs)
/-! ### the Hook -/
abbrev Al : Type := Bool × He.AlD × FnX
def obsK (K : PySem.W.Frag) : Al := (xtra K, He.obsD fa fn K, fnC K (aV K))
def valK : Al := (true, He.valD fn, valX)
def Says (K : PySem.W.Frag) : Prop := obsK K = valK
/-- where the objects stand that the facts speak of -/
def as0 : List Addr := [3, 6, 4, 21, 31, 44, 56, 77, 99, 109, 114, 133, 142, 147, 152, 157, 344, 355, 360, 367, 374, 381, 388, 395, 402, 407, 412, 419, 424, 463, 498, 505, 510, 517, 524, 531, 538, 543, 550, 557, 564, 571, 576, 581, 586, 591, 598, 603, 608, 613, 620, 627, 634, 639, 646, 653, 658, 663, 670, 677]
def as1 : List Addr := [0, 20, 30, 43, 55, 76, 98, 108, 113, 132, 141, 146, 151, 156, 343, 354, 359, 366, 373, 380, 387, 394, 401, 406, 411, 418, 423, 462, 497, 504, 509, 516, 523, 530, 537, 542, 549, 556, 563, 570, 575, 580, 585, 590, 597, 602, 607, 612, 619, 626, 633, 638, 645, 652, 657, 662, 669, 676, 15, 16]
def as2 : List Addr := [17, 18, 19, 29, 32, 42, 54, 74, 75, 78, 96, 97, 100, 103, 104, 105, 106, 107, 110, 111, 112, 122, 129, 130, 134, 135, 138, 139, 140, 143, 144, 145, 148, 149, 150, 153, 154, 155, 173, 182, 192, 201, 209, 217, 223, 230, 237, 244, 251, 256, 263, 270, 277, 284, 289, 294, 299, 306, 313, 320]
def as3 : List Addr := [327, 334, 341, 342, 345, 346, 349, 350, 351, 352, 353, 356, 357, 358, 361, 362, 363, 364, 365, 368, 369, 370, 371, 372, 375, 376, 377, 378, 379, 382, 383, 384, 385, 386, 389, 390, 391, 392, 393, 396, 397, 398, 399, 400, 403, 404, 405, 408, 409, 410, 413, 414, 415, 416, 417, 420, 421, 422, 438, 443]
def as4 : List Addr := [450, 455, 460, 461, 464, 465, 483, 488, 495, 496, 501, 502, 503, 506, 507, 508, 511, 512, 513, 514, 515, 518, 519, 520, 521, 522, 525, 526, 527, 528, 529, 532, 533, 534, 535, 536, 539, 540, 541, 544, 545, 546, 547, 548, 551, 552, 553, 554, 555, 558, 559, 560, 561, 562, 565, 566, 567, 568, 569, 572]
def as5 : List Addr := [573, 574, 577, 578, 579, 582, 583, 584, 587, 588, 589, 592, 593, 594, 595, 596, 599, 600, 601, 604, 605, 606, 609, 610, 611, 614, 615, 616, 617, 618, 621, 622, 623, 624, 625, 628, 629, 630, 631, 632, 635, 636, 637, 640, 641, 642, 643, 644, 647, 648, 649, 650, 651, 654, 655, 656, 659, 660, 661, 664]
def as6 : List Addr := [665, 666, 667, 668, 671, 672, 673, 674, 675, 73, 62, 95, 84, 128, 172, 166, 180, 181, 190, 191, 200, 208, 216, 222, 229, 236, 243, 250, 255, 262, 269, 276, 283, 288, 293, 298, 305, 312, 319, 326, 333, 340, 437, 442, 449, 454, 459, 482, 471, 487, 494, 68, 69, 70, 71, 72, 90, 91, 92, 93]
def as7 : List Addr := [94, 123, 124, 125, 126, 127, 167, 168, 169, 170, 171, 165, 179, 183, 189, 193, 199, 207, 215, 221, 224, 225, 226, 227, 228, 231, 232, 233, 234, 235, 238, 239, 240, 241, 242, 245, 246, 247, 248, 249, 252, 253, 254, 257, 258, 259, 260, 261, 264, 265, 266, 267, 268, 271, 272, 273, 274, 275, 278, 279]
def as8 : List Addr := [280, 281, 282, 285, 286, 287, 290, 291, 292, 295, 296, 297, 300, 301, 302, 303, 304, 307, 308, 309, 310, 311, 314, 315, 316, 317, 318, 321, 322, 323, 324, 325, 328, 329, 330, 331, 332, 335, 336, 337, 338, 339, 432, 433, 434, 435, 436, 439, 440, 441, 444, 445, 446, 447, 448, 451, 452, 453, 456, 457]
def as9 : List Addr := [458, 477, 478, 479, 480, 481, 484, 485, 486, 489, 490, 491, 492, 493]
def asL : List Addr := as0 ++ (as1 ++ (as2 ++ (as3 ++ (as4 ++ (as5 ++ (as6 ++ (as7 ++ (as8 ++ (as9 ++ [cStatics])))))))))
def obsL (g : Addr → Option Obj) : Al := obsK (He.frG g asL)
def hk : PySem.W.Hook where
  α := Al
  obs := fun s => obsL s.heap.get?
  val := fun _ => valK
  says := fun _ h => ∃ K : PySem.W.Frag, K.In h ∧ Says K
  of := fun _ _ e => ⟨_, He.frG_in, e⟩
  keeps := fun _ _ _ ⟨K, hK, c⟩ k => ⟨K, PySem.W.Frag.In.keeps hK k, c⟩
def ob (s : PySem.W.SharedT) : Al := obsL (HandSHeadRun.getT s)
theorem ob_eq (s : PySem.W.SharedT) : ob s = hk.obs s.abs := congrArg (obsL) (funext (HandSHeadRun.getT_eq s))
/-! ### the top -/
abbrev R : PySem.W.OpenRow := PySem.W.OpenLaw.row PySem.Challenge.rw_levelhues_k35_whole_counts_of_colourings
abbrev qv : Program := PySem.W.view R.prog [66]
def names0 : List PySem.Str := [("_wall" : PySem.Str), ("__name__" : PySem.Str), ("HueError" : PySem.Str), ("InvalidWeb" : PySem.Str), ("InvalidOperation" : PySem.Str), ("InvalidNumber" : PySem.Str), ("TooMany" : PySem.Str), ("is_integer" : PySem.Str), ("is_ascending" : PySem.Str), ("MAX_PASSED" : PySem.Str), ("MOST_JOINED" : PySem.Str), ("Parts" : PySem.Str), ("is_tie" : PySem.Str), ("checked" : PySem.Str), ("near_of" : PySem.Str), ("neighbours_of" : PySem.Str)]
def names1 : List PySem.Str := [("Web" : PySem.Str), ("web_in" : PySem.Str), ("all_ties" : PySem.Str), ("has_tie" : PySem.Str), ("require_web" : PySem.Str), ("require_place" : PySem.Str), ("require_joinable" : PySem.Str), ("require_like" : PySem.Str), ("tie_of" : PySem.Str), ("part_in" : PySem.Str), ("moved_ties" : PySem.Str), ("beside_in" : PySem.Str), ("crossed_in" : PySem.Str), ("MAX_EXACT" : PySem.Str), ("MAX_LISTED" : PySem.Str), ("MAX_HUES" : PySem.Str)]
def names2 : List PySem.Str := [("Search" : PySem.Str), ("LevelSearch" : PySem.Str), ("less" : PySem.Str), ("apart_sets" : PySem.Str), ("require_exact" : PySem.Str), ("require_asked" : PySem.Str), ("count_colourings" : PySem.Str), ("count_level" : PySem.Str), ("rows_from" : PySem.Str), ("colourings" : PySem.Str), ("_law_dice" : PySem.Str), ("_law_roll" : PySem.Str), ("_law_mixed" : PySem.Str), ("_law_all_ties" : PySem.Str), ("_law_parted_ties" : PySem.Str), ("_law_ties" : PySem.Str)]
def names3 : List PySem.Str := [("_law_web" : PySem.Str), ("_law_made_web" : PySem.Str), ("_law_near" : PySem.Str), ("_law_is_row" : PySem.Str), ("_law_is_colouring" : PySem.Str), ("_law_counts" : PySem.Str), ("_law_is_level" : PySem.Str), ("_law_hues" : PySem.Str), ("_law_merged" : PySem.Str), ("_law_power" : PySem.Str), ("_law_number" : PySem.Str), ("_law_level_number" : PySem.Str), ("_law_listed_right" : PySem.Str), ("_law_right" : PySem.Str)]
def names : List PySem.Str := names0 ++ names1 ++ names2 ++ names3
end Hk
set_option maxHeartbeats 0
namespace Hk
open PySem PySem.Spec PyProof.Rows L2 Tx
theorem run (w : World) : HandSHeadRun.RunEq R qv hk ob 20000 names w := by
  intro os
  kernel_rfl
end Hk
set_option maxHeartbeats 4000000
/-! Lo1: chains of machine steps in which a generator may sleep over another one. -/
namespace Lo
open PySem

/-- a yield out of a generator that sleeps over another generator -/
def Over (s : Shared) (t : Thread) : Prop :=
  ∃ (v : Value) (l : List Value) (k : Resume → Sem PySem.Fin) (fs : List Frame) (b : Nat × (GenResult → Sem PySem.Fin) × Code × Pos) (rest : List Frame) (a : Addr) (more : List Value) (kw : List (Str × Value)) (o : Obj) (n : Nat),
    t.cur = .yield v true l k ∧ splitAtGen t.stack = some (fs, b, rest) ∧ fs.any Frame.guarded = false ∧ t.code = .builtin "proto.yield_from" ⟨.ref a :: more, kw⟩ ∧ s.heap.get? a = some o ∧ o.genNumber? = some n
def Okt (s : Shared) (t : Thread) : Prop := t.calm = true ∨ Over s t

section
variable (den : Code → Sem PySem.Fin) (prog : Program) (w : World)
/-- a chain of steps -/
inductive Go : Shared → Thread → Shared → Thread → Prop
  | refl {s t} : Go s t s t
  | step {s t s1 t1 s2 t2} : Okt s t → stepK den prog w s t = .go s1 t1 → Go s1 t1 s2 t2 → Go s t s2 t2
end
section
variable {den : Code → Sem PySem.Fin} {prog : Program} {w : World} {s s1 s2 : Shared} {t t1 t2 : Thread}
theorem Go.trans (h : Go den prog w s t s1 t1) : Go den prog w s1 t1 s2 t2 → Go den prog w s t s2 t2 := by
  induction h with
  | refl => exact id
  | step a b _ ih => exact fun z => .step a b (ih z)

/-! ### the scheduler takes such a step as it stands -/
theorem life_over (others : List Value) (h : Over s t) (hz : s.asleep) : lifeStep den prog w others s t = PySem.step den prog w s t := by
  obtain ⟨hr, hc⟩ := hz
  obtain ⟨v, l, k, fs, b, rest, a, more, kw, o, n, e1, e2, e3, e4, e5, e6⟩ := h
  obtain ⟨cur, code, pos, stack⟩ := t
  obtain rfl : cur = .yield v true l k := e1
  obtain rfl : code = .builtin "proto.yield_from" ⟨.ref a :: more, kw⟩ := e4
  have e2' : splitAtGen stack = some (fs, b, rest) := e2
  have hs : Thread.special ⟨.yield v true l k, .builtin "proto.yield_from" ⟨.ref a :: more, kw⟩, pos, stack⟩ = true := by
    simp [Thread.special, Thread.yieldsInsideHandler]
  have hsh : closingShows s fs (.builtin "proto.yield_from" ⟨.ref a :: more, kw⟩) true = false := by
    simp [closingShows, e3, delegateShows, e5, e6, hr]
  unfold lifeStep
  rw [if_pos hs]
  simp only [collectorTurn?, e2', hsh, Thread.atItsEnd, stepCounting, hc, Bool.false_and, Bool.false_eq_true, if_false]
theorem pick_over (h : Over s t) (hr : s.heap.life.registered = []) : (Config.single s t).pick w = .ok (.run 0, .single s t) := by
  obtain ⟨v, l, k, fs, b, rest, a, more, kw, o, n, e1, e2, e3, e4, e5, e6⟩ := h
  obtain ⟨cur, code, pos, stack⟩ := t
  obtain rfl : cur = .yield v true l k := e1
  have h0 : (Config.single s ⟨.yield v true l k, code, pos, stack⟩).moves w.params.profile = [.run 0] := by
    simp [Config.moves, Config.single, movesFrom, Thread.moves, Thread.atomic, Thread.rests, Thread.tells]
  have h1 : (Config.single s ⟨.yield v true l k, code, pos, stack⟩).collect? w.params = none := by
    simp [Config.collect?, Config.single, (nothing_to_collect _ _ _ s _ hr).1]
  have h2 : (Config.single s ⟨.yield v true l k, code, pos, stack⟩).collectable = [] := by
    simp [Config.collectable, Config.single, (nothing_to_collect w.params _ _ s _ hr).2]
  simp only [Config.pick, h1, h2, Config.pickThread, h0]
  cases w.params.lifetimes <;> simp
theorem run_over (h : Over s t) (hl : ∀ others, lifeStep den prog w others s t = PySem.step den prog w s t) :
    (Config.single s t).run den prog w 0 = (PySem.step den prog w s t).lift := by
  obtain ⟨v, l, k, fs, b, rest, a, more, kw, o, n, e1, e2, e3, e4, e5, e6⟩ := h
  obtain ⟨cur, code, pos, stack⟩ := t
  obtain rfl : cur = .yield v true l k := e1
  simp only [Config.run, Config.single]
  simp [hl, others_single, frozenBadly, ThreadState.insideWrite, Thread.finalizes]
  split <;> simp_all [Step.lift, Config.single] <;> split <;> simp
theorem sstep_ok (h : Okt s t) (hz : s.asleep) : sstep den prog w (.single s t) = (PySem.step den prog w s t).lift ∨
    PySem.step den prog w s t = .halt (.unsupported "lifetime:generator-with-cleanup-left-suspended") s := by
  rcases h with h | h
  · exact sstep_single den prog w s t h hz
  · left
    simp only [sstep, pick_over h hz.1, Config.move, run_over h (fun others => life_over others h hz)]

theorem okt_forget {s s1 : Shared} {t t1 : Thread} (hs : s1.forget = s.forget) (ht : t1.forget = t.forget) (h : Okt s t) : Okt s1 t1 := by
  rcases h with h | h
  · left
    rw [← Thread.calm_forget, ht, Thread.calm_forget]
    exact h
  · right
    obtain ⟨v, l, k, fs, b, rest, a, more, kw, o, n, e1, e2, e3, e4, e5, e6⟩ := h
    obtain ⟨cur, code, pos, stack⟩ := t
    obtain ⟨cur1, code1, pos1, stack1⟩ := t1
    have hh : s1.heap = s.heap := by
      have := congrArg Shared.heap hs
      exact this
    simp only [Thread.forget, Thread.mk.injEq] at ht
    obtain ⟨c1, c2, c3, c4⟩ := ht
    have e2' : splitAtGen stack = some (fs, b, rest) := e2
    have q : splitAtGen (forgetAll stack1) = some (forgetAll fs, b, forgetAll rest) := by
      rw [c4, splitAtGen_forgetAll, e2']; rfl
    rw [splitAtGen_forgetAll] at q
    cases z : splitAtGen stack1 with
    | none => rw [z] at q; cases q
    | some x =>
      obtain ⟨fs1, b1, rest1⟩ := x
      rw [z] at q
      simp only [Option.map_some, Option.some.injEq, Prod.mk.injEq] at q
      obtain ⟨q1, q2, q3⟩ := q
      have g : ∀ fs : List Frame, (forgetAll fs).any Frame.guarded = fs.any Frame.guarded := fun fs => by
        induction fs with
        | nil => rfl
        | cons f r ih =>
          show (f.forget.guarded || (forgetAll r).any Frame.guarded) = _
          rw [ih, List.any_cons]
          cases f <;> rfl
      refine ⟨v, l, k, fs1, b1, rest1, a, more, kw, o, n, c1.trans e1, z, ?_, c2.trans e4, ?_, e6⟩
      · rw [← g, q1, g]; exact e3
      · rw [hh]; exact e5

theorem leaf_halts {s : Shared} {r : Result} {c : Code} {p : Pos} (hl : leftWithCleanup s.gens = false) : PySem.step den prog w s ⟨leafOf r, c, p, []⟩ = .halt (outcomeOf r) s := by
  obtain ⟨heap, gens, drawn, toks, os⟩ := s
  have hl' : leftWithCleanup gens = false := hl
  cases r <;> simp [leafOf, outcomeOf, PySem.step, finish, hl']
theorem leftWithCleanup_of_forget {s s1 : Shared} (h : s1.forget = s.forget) (hl : leftWithCleanup s.gens = false) : leftWithCleanup s1.gens = false := by
  have e : s1.gens.map GenState.forget = s.gens.map GenState.forget := congrArg Shared.gens h
  rw [← leftWithCleanup_forget, e, leftWithCleanup_forget]
  exact hl
theorem go_sched {r : Result} (h : Go den prog w s t s2 t2) : (∃ c p, t2 = ⟨leafOf r, c, p, []⟩) → leftWithCleanup s2.gens = false →
    ∀ (sa : Shared) (ta : Thread), sa.forget = s.forget → ta.forget = t.forget → sa.asleep →
      ∃ n sb, schedN den prog w n (.single sa ta) = .halted (outcomeOf r) sb ∧ sb.forget = s2.forget ∧ sb.heap.life = sa.heap.life := by
  induction h with
  | refl =>
    intro ⟨c, p, e⟩ hl sa ta hs ht hz
    subst e
    have hl' := leftWithCleanup_of_forget hs hl
    obtain ⟨cur, code, pos, stack⟩ := ta
    simp only [Thread.forget, Thread.mk.injEq] at ht
    obtain ⟨rfl, rfl, rfl, c4⟩ := ht
    have c4' : stack = [] := by
      cases stack with
      | nil => rfl
      | cons x y =>
        have e := congrArg List.length c4
        have e1 : (forgetAll (x :: y)).length = (x :: y).length := List.length_map _
        rw [e1] at e
        cases e
    subst c4'
    have e := leaf_halts (den := den) (prog := prog) (w := w) (s := sa) (r := r) (c := code) (p := pos) hl'
    have hc : Thread.calm ⟨leafOf r, code, pos, []⟩ = true := by cases r <;> rfl
    have e2 := sstep_ok (den := den) (prog := prog) (w := w) (s := sa) (t := ⟨leafOf r, code, pos, []⟩) (.inl hc) hz
    rcases e2 with e2 | e2
    · refine ⟨1, sa, ?_, hs, rfl⟩
      simp only [schedN, e2, e, Step.lift]
    · rw [e] at e2
      exfalso
      injection e2 with e2
      cases r <;> cases e2
  | @step s t s1 t1 s2 t2 ok hk _ ih =>
    intro ht2 hl sa ta hs ht hz
    have okA : Okt sa ta := okt_forget hs ht ok
    have hf : (PySem.step den prog w sa ta).forget = (Step.go s1 t1).forget := by
      rw [step_same den prog w hs ht, ← stepK_forget, hk]
    cases hst : PySem.step den prog w sa ta with
    | halt o sx => rw [hst] at hf; cases hf
    | go sx tx =>
      rw [hst] at hf
      simp only [Step.forget, Step.go.injEq] at hf
      have hlife := step_life den prog w sa sx ta tx hst
      obtain ⟨n, sb, q1, q2, q3⟩ := ih ht2 hl sx tx hf.1 hf.2 (Shared.asleep_of_life hlife hz)
      rcases sstep_ok (den := den) (prog := prog) (w := w) okA hz with e | e
      · refine ⟨n + 1, sb, ?_, q2, q3.trans hlife⟩
        simp only [schedN, e, hst, Step.lift]
        exact q1
      · rw [hst] at e
        cases e
end

/-! ### what is reached at last -/
def Ev (prog : Program) (w : World) (P : Shared → Thread → Prop) (s : Shared) (t : Thread) : Prop := ∃ s' t', Go (denote table) prog w s t s' t' ∧ P s' t'
section
variable {prog : Program} {w : World} {P : Shared → Thread → Prop} {s s1 : Shared} {t t1 : Thread}
theorem Ev.of (h : P s t) : Ev prog w P s t := ⟨s, t, .refl, h⟩
theorem Ev.go (h : Go (denote table) prog w s t s1 t1) (q : Ev prog w P s1 t1) : Ev prog w P s t := by
  obtain ⟨s', t', h1, h2⟩ := q
  exact ⟨s', t', h.trans h1, h2⟩
theorem Ev.one (ok : Okt s t) (hs : stepK (denote table) prog w s t = .go s1 t1) (q : Ev prog w P s1 t1) : Ev prog w P s t := Ev.go (.step ok hs .refl) q
/-- a step of the calm machine -/
theorem Ev.calm (hs : (model prog w).step s t = .go s1 t1) (q : Ev prog w P s1 t1) : Ev prog w P s t := by
  have hl : t.loud = false := by
    cases h : t.loud with
    | false => rfl
    | true => rw [Model.step_loud _ h] at hs; cases hs
  rw [Model.step_quiet _ hl] at hs
  have hr : t.refused = false := by
    cases h : t.refused with
    | false => rfl
    | true =>
      obtain ⟨what, e⟩ := stepK_refused (denote table) prog w (s := s) h
      have hs' : stepK (denote table) prog w s t = .go s1 t1 := hs
      rw [e] at hs'
      cases hs'
  refine Ev.one (.inl ?_) hs q
  rw [Thread.calm_eq, hl, hr]
  rfl
theorem Ev.reach {base : List Frame} {t : Sem PySem.Fin} {c : Code} {p : Pos} {pre : List Frame} {s s' : Shared} {e : End} (h : Reach (model prog w) base s t c p pre s' e)
    (q : ∀ t' c' p' pre', Exits e t' c' p' pre' → Ev prog w P s' ⟨t', c', p', pre' ++ base⟩) : Ev prog w P s ⟨t, c, p, pre ++ base⟩ := by
  induction h with
  | exit hx => exact q _ _ _ _ hx
  | step hs _ ih => exact Ev.calm hs (ih q)
theorem Ev.runs {Γ : Ctx} {base fs : List Frame} {t : Sem PySem.Fin} {p : Pos} {s s' : Shared} {e : End} (h : Runs (model prog w) Γ p t fs s e s') (hf : Γ.Fits base)
    (q : ∀ t' c' p' pre', Exits e t' c' p' pre' → Ev prog w P s' ⟨t', c', p', pre' ++ base⟩) : Ev prog w P s ⟨t, Γ.code, p, fs ++ base⟩ := Ev.reach (runs_reach h base hf) q
/-- quiet work, whatever is behind it -/
theorem ev_wp {α : Type} {c : Code} {st : List Frame} (K : α → Sem PySem.Fin) (J : Value → Sem PySem.Fin) (gd : Bool → Bool) (lv : List Value → List Value) (m : Sem α) :
    ∀ {Q : α → Pos → Shared → Prop} {E : Value → Pos → Shared → Prop} {p : Pos} {s : Shared}, Sem.wp (model prog w) (Ctx.of c st) m Q E p s →
      (∀ a p' s', Q a p' s' → Ev prog w P s' ⟨K a, c, p', st⟩) → (∀ x p' s', E x p' s' → Ev prog w P s' ⟨J x, c, p', st⟩) → Ev prog w P s ⟨m.wrap K J gd lv, c, p, st⟩ := by
  induction m with
  | pure a => intro Q E p s h hQ _; exact hQ a p s h
  | raise x => intro Q E p s h _ hE; exact hE x p s h
  | unsupported what => intro Q E p s h; exact h.elim
  | finish x => intro Q E p s h; exact h.elim
  | register a k => intro Q E p s h; exact h.elim
  | yield v g l k => intro Q E p s h; exact h.elim
  | fork c k => intro Q E p s h; exact h.elim
  | await a f d l k => intro Q E p s h; exact h.elim
  | rule tag k ih => intro Q E p s h hQ hE; exact Ev.calm (step_rule ..) (ih () h hQ hE)
  | «at» p' k ih => intro Q E p s h hQ hE; exact Ev.calm (step_at ..) (ih () h hQ hE)
  | load a part k ih =>
    intro Q E p s h hQ hE
    obtain ⟨o, ho, h⟩ := h
    exact Ev.calm (step_load _ _ _ _ _ _ _ ho) (ih o h hQ hE)
  | update a part f k ih =>
    intro Q E p s h hQ hE
    obtain ⟨ha, h⟩ := h
    exact Ev.calm (step_update _ _ _ _ _ _ _ _ ha) (ih () h hQ hE)
  | alloc o k ih => intro Q E p s h hQ hE; exact Ev.calm (step_alloc ..) (ih _ h hQ hE)
  | loadIfAlive a k ih => intro Q E p s h hQ hE; exact Ev.calm (step_loadIfAlive ..) (ih _ h hQ hE)
  | point l k ih => intro Q E p s h hQ hE; exact Ev.calm (step_point ..) (ih () h hQ hE)
  | fresh k ih => intro Q E p s h hQ hE; exact Ev.calm (step_fresh ..) (ih _ h hQ hE)
  | ask k ih => intro Q E p s h hQ hE; exact Ev.calm (step_ask ..) (ih _ h hQ hE)
  | choose src n k ih =>
    intro Q E p s h hQ hE
    obtain ⟨hn, h⟩ := h
    exact Ev.calm (step_choose _ _ _ _ _ _ _ hn) (ih _ h hQ hE)
  | os q l k ih => intro Q E p s h hQ hE; exact Ev.calm (step_os ..) (ih _ h hQ hE)
  | call c' h g l k ih =>
    intro Q E p s hw hQ hE
    obtain ⟨r, s₁, hret, hw⟩ := hw
    refine Ev.calm (step_call ..) ?_
    have hf : (Ctx.enter (Ctx.of c st) c' h p).Fits (.ret (fun r => (k r).wrap K J gd lv) h (gd g) (lv l) c p [] :: st) := (Ctx.fits_of c st).enter c' _ h _ _ p _
    refine Ev.runs (Γ := Ctx.enter (Ctx.of c st) c' h p) (fs := []) hret hf fun t' c'' p' pre' hx => ?_
    obtain ⟨rfl, rfl⟩ := hx
    exact Ev.calm (step_leaf_ret ..) (ih r hw hQ hE)
  | handled own k ih => intro Q E p s h hQ hE; refine Ev.calm (step_handled ..) (ih _ ?_ hQ hE); cases own <;> exact h
  | newGen c' k ih => intro Q E p s h hQ hE; exact Ev.calm (step_newGen ..) (ih _ h hQ hE)
  | genState g k ih =>
    intro Q E p s h hQ hE
    obtain ⟨x, hg, h⟩ := h
    exact Ev.calm (step_genState _ _ _ _ _ _ hg) (ih _ h hQ hE)
  | resume g r l k ih =>
    intro Q E p s h hQ hE
    obtain ⟨res, s₁, hwk, h⟩ := h
    unfold Wakes at hwk
    split at hwk
    · exact hwk.elim
    · rename_i c' hg
      split at hwk
      · obtain ⟨e₁, s₂, hr, hq, rfl, rfl⟩ := hwk
        refine Ev.calm (step_resume_fresh _ _ _ _ _ _ _ hg) ?_
        have hf : (Ctx.wake (Ctx.of c st) c' p).Fits (.gen g (fun r => (k r).wrap K J gd lv) (lv l) c p :: st) := (Ctx.fits_of c st).wake c' g _ _ p
        refine Ev.runs (Γ := Ctx.wake (Ctx.of c st) c' p) (fs := []) hr hf fun t' c'' p' pre' hx => ?_
        exact Ev.calm (step_exit_gen _ _ _ _ _ _ _ hx hq) (ih _ h hQ hE)
      · obtain ⟨rfl, rfl⟩ := hwk
        rename_i v hv
        exact Ev.calm (step_resume_justStarted _ _ _ _ _ _ _ hg (fun z => hv (by rw [z]))) (ih _ h hQ hE)
      · obtain ⟨rfl, rfl⟩ := hwk
        exact Ev.calm (step_resume_throwFresh _ _ _ _ _ _ _ _ hg) (ih _ h hQ hE)
    · rename_i k₀ l₀ c₀ p₀ fs cl hg
      obtain ⟨e₁, s₂, hr, hq, rfl, rfl⟩ := hwk
      refine Ev.calm (step_resume_suspended _ _ _ _ _ _ _ _ hg) ?_
      have hf : (Ctx.wake (Ctx.of c st) c₀ p).Fits (.gen g (fun r => (k r).wrap K J gd lv) (lv l) c p :: st) := (Ctx.fits_of c st).wake c₀ g _ _ p
      refine Ev.runs (Γ := Ctx.wake (Ctx.of c st) c₀ p) hr hf fun t' c'' p' pre' hx => ?_
      exact Ev.calm (step_exit_gen _ _ _ _ _ _ _ hx hq) (ih _ h hQ hE)
    · rename_i hg
      obtain ⟨rfl, rfl⟩ := hwk
      exact Ev.calm (step_resume_running (h := hg) ..) (ih _ h hQ hE)
    · rename_i hg
      obtain ⟨rfl, rfl⟩ := hwk
      exact Ev.calm (step_resume_finished (h := hg) ..) (ih _ h hQ hE)
  | stack k ih => intro Q E p s h hQ hE; exact Ev.calm (step_stack ..) (ih _ h hQ hE)
  | thread k ih => intro Q E p s h hQ hE; exact Ev.calm (step_thread ..) (ih _ h hQ hE)
end
end Lo
set_option maxHeartbeats 4000000
/-! Lo2: the words of the calm logic once more, over Ev. -/
namespace Lo
open PySem

def wpE {α : Type} (prog : Program) (w : World) (A : Around) (t : Sem α) (Q : α → Shared → Prop) (E : Value → Shared → Prop) (s : Shared) : Prop :=
  ∀ (P : Shared → Thread → Prop) (K : α → Sem PySem.Fin) (J : Value → Sem PySem.Fin) (gd : Bool → Bool) (lv : List Value → List Value) (c : Code) (p : Pos) (st : List Frame), (Ctx.of c st).In A →
    (∀ a s' p', Q a s' → Ev prog w P s' ⟨K a, c, p', st⟩) → (∀ x s' p', E x s' → Ev prog w P s' ⟨J x, c, p', st⟩) → Ev prog w P s ⟨t.wrap K J gd lv, c, p, st⟩
def codeE (prog : Program) (w : World) (A : Around) (c : Code) (R : Result → Shared → Prop) (s : Shared) : Prop :=
  ∀ (P : Shared → Thread → Prop) (p : Pos) (st : List Frame), (Ctx.of c st).Below A → (∀ r s' c' p', R r s' → Ev prog w P s' ⟨leafOf r, c', p', st⟩) → Ev prog w P s ⟨denote table c, c, p, st⟩

section
variable {α β : Type} {prog : Program} {w : World} {A : Around} {E E' : Value → Shared → Prop} {s : Shared} {c : Code} {R R' : Result → Shared → Prop}
theorem wpE_of {t : Sem α} {Q : α → Shared → Prop} (h : wpAny (model prog w) A t Q E s) : wpE prog w A t Q E s := fun P K J gd lv c p st hc hQ hE =>
  ev_wp K J gd lv t (h (Ctx.of c st) p hc) (fun a p' s' q => hQ a s' p' q) fun x p' s' q => hE x s' p' q
theorem wpE_mono {t : Sem α} {Q Q' : α → Shared → Prop} (h : wpE prog w A t Q E s) (hQ : ∀ a s, Q a s → Q' a s) (hE : ∀ e s, E e s → E' e s) : wpE prog w A t Q' E' s :=
  fun P K J gd lv c p st hc q e => h P K J gd lv c p st hc (fun a s' p' z => q a s' p' (hQ a s' z)) fun x s' p' z => e x s' p' (hE x s' z)
theorem wpE_thn {t : Sem α} {Q Q' : α → Shared → Prop} (h : wpE prog w A t Q E s) (hQ : ∀ a s, Q a s → Q' a s) : wpE prog w A t Q' E s := wpE_mono h hQ fun _ _ z => z
theorem wpE_pure {a : α} {Q : α → Shared → Prop} (h : Q a s) : wpE prog w A (pure a) Q E s := fun P K J gd lv c p st hc q e => q a s p h
theorem wpE_bind {m : Sem α} {f : α → Sem β} {Q : β → Shared → Prop} (h : wpE prog w A m (fun a s' => wpE prog w A (f a) Q E s') E s) : wpE prog w A (m >>= f) Q E s := fun P K J gd lv c p st hc q e => by
  rw [Sem.bind_eq_wrap', Sem.wrap_wrap]
  exact h P _ _ _ _ c p st hc (fun a s' p' z => z P K J gd lv c p' st hc q e) fun x s' p' z => e x s' p' z
theorem wpE_keep {t : Sem α} {vs : List Value} {Q : α → Shared → Prop} (h : wpE prog w A t Q E s) : wpE prog w A (t.keep vs) Q E s := fun P K J gd lv c p st hc q e => by
  rw [Sem.keep_eq_wrap, Sem.wrap_wrap]
  exact h P _ _ _ _ c p st hc (fun a s' p' z => q a s' p' z) fun x s' p' z => e x s' p' z
theorem wpE_holding {t : Sem α} {vs : List Value} {Q : α → Shared → Prop} (h : wpE prog w A t Q E s) : wpE prog w A (holding vs t) Q E s := by
  unfold holding
  split
  · exact h
  · exact wpE_keep h
theorem wpE_standAt {pos : Pos} {Q : Unit → Shared → Prop} (h : Q () s) : wpE prog w A (standAt pos) Q E s := wpE_of (wpAny_standAt h)
theorem wpE_of_eq {t : Sem α} {a : α} {Q : α → Shared → Prop} (e : t = pure a) (h : Q a s) : wpE prog w A t Q E s := by
  rw [e]
  exact wpE_pure h
theorem wpE_onRaise {t : Sem α} {k : Value → Sem Unit} {Q : α → Shared → Prop} (h : wpE prog w A t Q (fun _ _ => False) s) : wpE prog w A (t.onRaise k) Q E s := fun P K J gd lv c p st hc q e => by
  rw [Sem.onRaise_eq_wrap, Sem.wrap_wrap]
  exact h P _ _ _ _ c p st hc (fun a s' p' z => q a s' p' z) fun x s' p' z => z.elim
theorem wpE_units {t : Sem α} {Q : α → Shared → Prop} {u : Nat} (h : wpE prog w A t Q E s) (hu : u ≤ A.units) : wpE prog w { A with units := u } t Q E s :=
  fun P K J gd lv c p st hc q e => h P K J gd lv c p st (hc.units_le hu) q e
theorem codeE_mono (h : codeE prog w A c R s) (hR : ∀ r s, R r s → R' r s) : codeE prog w A c R' s := fun P p st hc q => h P p st hc fun r s' c' p' z => q r s' c' p' (hR r s' z)
theorem codeE_of (h : codeAny (model prog w) A c R s) : codeE prog w A c R s := fun P p st hc q => by
  obtain ⟨r, s', hr, hR⟩ := h (Ctx.of c st) p rfl hc
  refine Ev.runs (Γ := Ctx.of c st) (fs := []) hr (Ctx.fits_of c st) fun t' c' p' pre' hx => ?_
  obtain ⟨rfl, rfl⟩ := hx
  exact q r s' c' p' hR
theorem codeE_of_tree (h : wpE prog w (A.under c) (denote table c) (fun fin s' => match fin with | .done f => R (.ok f) s' | .again c' => c'.quiet = true ∧ codeE prog w A c' R s') (fun e s' => R (.error e) s') s) :
    codeE prog w A c R s := fun P p st hc q => by
  have e : (denote table c) = (denote table c).wrap .pure .raise id id := by rw [← Sem.bind_eq_wrap, Sem.bind_pure]
  rw [e]
  refine h P .pure .raise id id c p st (Ctx.Below.in (Γ := Ctx.of c st) hc) (fun fin s' p' z => ?_) fun x s' p' z => q (.error x) s' c p' z
  cases fin with
  | done f => exact q (.ok f) s' c p' z
  | again c' => exact Ev.calm (step_again _ _ _ _ _ _ z.1) (z.2 P p' st hc q)
theorem wpE_run {hd : Option Value} {Q : Flow → Shared → Prop} (hc : codeE prog w (A.mark hd) c (fun r s' => match r with | .ok f => Q f s' | .error e => E e s') s) (hnb : hd ≠ some byPass := by intro x; cases x) : wpE prog w A (run c hd) Q E s :=
  fun P K J gd lv c0 p st hi q e => by
    show Ev prog w P s ⟨.call c hd (gd false) (lv []) _, c0, p, st⟩
    refine Ev.calm (step_call ..) (hc P p _ ?_ fun r s' c' p' z => Ev.calm (step_leaf_ret ..) ?_)
    · have hB := Ctx.In.enter (Γ := Ctx.of c0 st) hi c hd p hnb
      exact ⟨(topHandled_ret _ hd _ _ c0 p _ st).trans hB.1, hB.2⟩
    · cases r with
      | ok f => exact q f s' p z
      | error x => exact e x s' p z
theorem wpE_call {f : Value} {as : List Value} {kw : List (Str × Value)} {Q : Value → Shared → Prop} (hc : codeE prog w A (.call f ⟨as, kw⟩) (fun r s' => match r with | .ok (.ret v) => Q v s' | .ok _ => False | .error e => E e s') s) :
    wpE prog w A (call f as kw) Q E s := by
  unfold PySem.call runValue
  refine wpE_bind (wpE_run (hd := none) (codeE_mono hc fun r s' z => ?_))
  cases r with
  | error e => exact z
  | ok fl => cases fl with
    | ret v => exact wpE_pure z
    | next => exact z.elim
    | brk => exact z.elim
    | cont => exact z.elim

/-! ### statements -/
variable {env : Env}
theorem wpE_execs_nil {Q : Flow → Shared → Prop} (h : Q .next s) : wpE prog w A (execs [] env) Q E s := wpE_of (wpAny_execs_nil h)
theorem wpE_execs_cons {st : Stmt} {rest : List Stmt} {Q : Flow → Shared → Prop} (h : wpE prog w A (exec st env) (fun f s' => match f with | .next => wpE prog w A (execs rest env) Q E s' | f => Q f s') E s) : wpE prog w A (execs (st :: rest) env) Q E s := by
  rw [execs_cons]
  refine wpE_bind (wpE_thn h fun f s' z => ?_)
  cases f <;> first | exact z | exact wpE_pure z
theorem wpE_If {test : Expr} {body orelse : List Stmt} {pos : Pos} {Q : Flow → Shared → Prop}
    (h : wpE prog w A (isTrue test env (eval test env)) (fun b s2 => if b = true then wpE prog w A (execs body env) Q E s2 else wpE prog w A (execs orelse env) Q E s2) E s) : wpE prog w A (exec (.If test body orelse pos) env) Q E s := by
  rw [exec_If]
  refine wpE_bind (wpE_standAt (wpE_bind (wpE_thn h fun b s2 z => ?_)))
  cases b <;> exact z
theorem wpE_Return {e : Expr} {pos : Pos} {Q : Flow → Shared → Prop} (h : wpE prog w A (eval e env) (fun v => Q (.ret v)) E s) : wpE prog w A (exec (.Return (some e) pos) env) Q E s := by
  rw [exec_Return_some]
  exact wpE_bind (wpE_standAt (wpE_bind (wpE_thn h fun v s2 z => wpE_pure z)))
theorem isTrueE_not {x : Expr} {pos : Pos} {whole : Sem Value} {Q : Bool → Shared → Prop} (h : wpE prog w A (isTrue x env (eval x env)) (fun c s' => Q (!c) s') E s) : wpE prog w A (isTrue (.UnaryOp .Not x pos) env whole) Q E s := by
  show wpE prog w A (do return !(← isTrue x env (eval x env))) Q E s
  exact wpE_bind (wpE_thn h fun c s' z => wpE_pure z)
theorem isTrueE_and {x : Expr} {rest : List Expr} {pos : Pos} {whole : Sem Value} {Q : Bool → Shared → Prop}
    (h : wpE prog w A (isTrue x env (eval x env)) (fun c s' => if c = true then wpE prog w A (isTrue (.BoolOp .And rest pos) env whole) Q E s' else Q false s') E s) : wpE prog w A (isTrue (.BoolOp .And (x :: rest) pos) env whole) Q E s := by
  show wpE prog w A (do
    match BoolOp.And, ← isTrue x env (eval x env) with
    | .And, false => pure false
    | .Or, true => pure true
    | _, _ => allTrue .And rest env) Q E s
  refine wpE_bind (wpE_thn h fun c s' z => ?_)
  cases c with
  | false => exact wpE_pure z
  | true => exact z
theorem isTrueE_or {x : Expr} {rest : List Expr} {pos : Pos} {whole : Sem Value} {Q : Bool → Shared → Prop}
    (h : wpE prog w A (isTrue x env (eval x env)) (fun c s' => if c = true then Q true s' else wpE prog w A (isTrue (.BoolOp .Or rest pos) env whole) Q E s') E s) : wpE prog w A (isTrue (.BoolOp .Or (x :: rest) pos) env whole) Q E s := by
  show wpE prog w A (do
    match BoolOp.Or, ← isTrue x env (eval x env) with
    | .And, false => pure false
    | .Or, true => pure true
    | _, _ => allTrue .Or rest env) Q E s
  refine wpE_bind (wpE_thn h fun c s' z => ?_)
  cases c with
  | false => exact z
  | true => exact wpE_pure z
theorem isTrueE_plain {e : Expr} {whole : Sem Value} {Q : Bool → Shared → Prop} (h : wpE prog w A whole (fun v s1 => wpE prog w A (truthy v) Q E s1) E s)
    (he : isTrue e env whole = (do let v ← whole; standAt e.pos; holding [v] (truthy v)) := by rfl) : wpE prog w A (isTrue e env whole) Q E s := by
  rw [he]
  exact wpE_bind (wpE_thn h fun v s1 z => wpE_bind (wpE_standAt (wpE_holding z)))
theorem wpE_runOwn {Q : Flow → Shared → Prop} (hc : codeE prog w A c (fun r s' => match r with | .ok f => Q f s' | .error e => False) s) : wpE prog w A (runOwn c env) Q E s := by
  unfold runOwn
  exact wpE_onRaise (wpE_run (hd := none) hc)
theorem wpE_For {target iter : Expr} {body orelse : List Stmt} {pos : Pos} {Q : Flow → Shared → Prop}
    (h : wpE prog w A (eval iter env) (fun x s1 => wpE prog w A (pyIter x) (fun it s2 => codeE prog w A (.forLoop target it body orelse env) (fun r s' => match r with | .ok f => Q f s' | .error e => False) s2) E s1) E s)
    (hs : ∀ x, foldedSetIterable iter env x = pure x := by intro _; rfl) : wpE prog w A (exec (.For target iter body orelse pos) env) Q E s := by
  rw [exec_For]
  exact wpE_bind (wpE_standAt (wpE_bind (wpE_thn h fun x s1 h1 => wpE_bind (wpE_of_eq (hs x) (wpE_bind (wpE_standAt (wpE_bind (wpE_holding (wpE_thn h1 fun it s2 h2 => wpE_runOwn h2)))))))))
theorem codeE_loop (hq : c.quiet = true) (I : Nat → Shared → Prop)
    (turn : ∀ n s, I n s → wpE prog w (A.under c) (denote table c) (fun fin s' => match fin with
      | .done f => R (.ok f) s'
      | .again c' => (c' = c ∧ ∃ m, m < n ∧ I m s') ∨ (c'.quiet = true ∧ codeE prog w A c' R s')) (fun e s' => R (.error e) s') s) (n : Nat) (h : I n s) : codeE prog w A c R s := by
  induction n using Nat.strongRecOn generalizing s with
  | ind n ih =>
    refine codeE_of_tree (wpE_thn (turn n s h) fun fin s' hf => ?_)
    cases fin with
    | done f => exact hf
    | again c' =>
      rcases hf with ⟨rfl, m, hm, hI⟩ | hf
      · exact ⟨hq, ih m hm hI⟩
      · exact hf
theorem codeE_block {stmts : List Stmt} (h : wpE prog w A (execs stmts env) (fun f s' => R (.ok f) s') (fun _ _ => False) s) : codeE prog w A (.block stmts env) R s := by
  refine codeE_of_tree ?_
  show wpE prog w _ (do return Fin.done (← (execs stmts env).onRaise (fun x => do noteFrame x env; theTreesLotGoes x))) _ _ s
  exact wpE_bind (wpE_onRaise (wpE_thn h fun f s' z => wpE_pure z))
theorem codeE_forLoop {target : Expr} {it : Value} {body orelse : List Stmt} (I : Nat → Shared → Prop)
    (turn : ∀ n s, I n s → wpE prog w A (pyNext it) (fun r s1 => match r with
      | none => wpE prog w A (execs orelse env) (fun f s3 => R (.ok f) s3) (fun _ _ => False) s1
      | some v => wpE prog w A (letOwnedTupleGo target it v) (fun _ s1' => wpE prog w A (assign target env v) (fun _ s2 => wpE prog w A (execs body env) (fun f s3 => match f with
            | .next | .cont => ∃ m, m < n ∧ I m s3
            | .brk => R (.ok .next) s3
            | .ret v => R (.ok (.ret v)) s3) (fun _ _ => False) s2) (fun _ _ => False) s1') (fun _ _ => False) s1) (fun _ _ => False) s)
    (n : Nat) (h : I n s) : codeE prog w A (.forLoop target it body orelse env) R s := by
  refine codeE_loop rfl I (fun n s hI => ?_) n h
  show wpE prog w A ((forTurn target it body orelse env).onRaise (fun x => do noteFrame x env; theTreesLotGoes x)) _ _ s
  refine wpE_onRaise ?_
  simp only [forTurn]
  refine wpE_bind (wpE_standAt (wpE_bind (wpE_onRaise (wpE_thn (turn n s hI) fun r s1 h1 => ?_))))
  cases r with
  | none => exact wpE_pure (.inr ⟨rfl, codeE_block h1⟩)
  | some v =>
    refine wpE_bind (wpE_thn h1 fun _ s1' h1' => wpE_bind (wpE_thn h1' fun _ s2 h2 => wpE_bind (wpE_thn h2 fun f s3 h3 => ?_)))
    cases f with
    | next => exact wpE_pure (.inl ⟨rfl, h3⟩)
    | cont => exact wpE_pure (.inl ⟨rfl, h3⟩)
    | brk => exact wpE_pure h3
    | ret v => exact wpE_pure h3

/-! ### calls of a def -/
theorem wpE_Call_Name {id : Str} {p pos : Pos} {args : List Expr} {keywords : List Keyword} {Q : Value → Shared → Prop}
    (h : wpE prog w A (eval (.Name id p) env) (fun f s1 => wpE prog w A (callWith pos f [] (backTo pos (starEach args env)) (backToKw pos (keywordEach keywords env))) Q E s1) E s) : wpE prog w A (eval (.Call (.Name id p) args keywords pos) env) Q E s := by
  rw [arm_eval_Call_Name']
  exact wpE_bind h
theorem wpE_looks {t : Sem α} {a : α} {Q : α → Shared → Prop} (L : PySem.W.Looks (model prog w) s.heap t a) (h : Q a s) : wpE prog w A t Q E s := wpE_of (PySem.W.Looks.here L h)
theorem callWithE_of {H : Heap → Prop} {f : Value} {pos : Pos} {args : List (Bool × Sem Value)} {keywords : List (Option Str × Sem Value)} {Q : Value → Shared → Prop} (hplain : (args.any (·.1) || keywords.any (·.1.isNone)) = false)
    (hk : ∀ h, H h → ∃ k, (k = Keeper.frame ∨ k = Keeper.machine ∨ k = Keeper.boundFrame) ∧ PySem.W.Looks (model prog w) h (keeperOf f) k)
    (h : wpE prog w A (evalArgs f true args keywords) (fun a s1 => H s1.heap ∧ wpE prog w A (call f ([] ++ a.pos) a.kw) Q E s1) E s) : wpE prog w A (callWith pos f [] args keywords) Q E s := by
  unfold callWith
  refine wpE_bind (wpE_holding (wpE_thn h fun a s1 h1 => wpE_bind (wpE_standAt ?_)))
  obtain ⟨k, hk', L⟩ := hk _ h1.1
  simp only [hplain]
  refine wpE_bind (wpE_looks L ?_)
  have tail : ∀ {t : Sem Value}, wpE prog w A t Q E s1 → wpE prog w A (t >>= fun r => holding [r] point >>= fun _ => pure r) Q E s1 :=
    fun ht => wpE_bind (wpE_thn ht fun r s2 hr => wpE_bind (wpE_holding (wpE_of (wpAny_point (show wpE prog w A (pure r) Q E s2 from wpE_pure hr)))))
  have marked (mk : Value) : wpE prog w A (callMarked mk f ([] ++ a.pos) a.kw) Q E s1 := by unfold callMarked; exact wpE_keep h1.2
  rcases hk' with rfl | rfl | rfl <;> dsimp only <;> first | exact tail h1.2 | (split <;> first | exact tail h1.2 | exact tail (marked _))
theorem codeE_func {body : List Stmt} (h : wpE prog w (A.deeper env) (execs body env) (fun f s' => R (.ok (.ret (match f with | .ret v => v | _ => .none))) s') (fun _ _ => False) s) : codeE prog w A (.func body env) R s := by
  refine codeE_of_tree ?_
  show wpE prog w (A.deeper env) (do point; match ← (execs body env).onRaise (leaving env) with | .ret v => ret v | _ => ret .none) _ _ s
  refine wpE_bind (wpE_of (wpAny_point (wpE_bind (wpE_onRaise (wpE_thn h fun f s' h' => ?_)))))
  cases f <;> exact wpE_pure h'
theorem codeE_call_function {a : Addr} {args : Args} {o : Obj} {fd : FuncData} {body : List Stmt} (hroom : A.depth < recursionLimit) (ho : s.heap.get? a = some o) (hd' : o.data = .func fd) (hco : fd.scope.isCoroutine = false) (hgen : fd.scope.isGenerator = false)
    (hbody : fd.body = .stmts body) (hcd : s.heap.CodeRec fd.code fd.qualname)
    (h : wpAny (model prog w) A.in1 (bindArgs fd args) (fun binds s1 => wpAny (model prog w) A.in1 (newFunctionEnv fd.scope fd.globals fd.closure binds (fd.qualname ++ ".<locals>.") (some a) fd.code none fd.builtins)
        (fun env s2 => s2.heap.NoLimit ∧ codeE prog w A (.func body env) R s2) (fun e s' => R (.error e) s') s1) (fun e s' => R (.error e) s') s) : codeE prog w A (.call (.ref a) args) R s := by
  refine codeE_of_tree ?_
  show wpE prog w A.in1 (callAny (.ref a) args) _ _ s
  simp only [callAny]
  refine wpE_bind (wpE_of (wpAny_load ho ?_))
  obtain ⟨c, oc, vs, tq, hc, hoc, hdc, hq⟩ := hcd
  simp only [hd', callFunction, hco, hgen, hbody, hc]
  rw [hc] at h
  refine wpE_bind (m := field (.ref c) 1) (wpE_of (wpAny_field hoc hdc hq (wpE_bind (wpE_pure ?_))))
  refine wpE_bind (wpE_of (wpAny_mono h (fun binds s1 h1 => wpE_bind (wpE_of (wpAny_mono h1 (fun env s2 h2 => wpE_bind (wpE_of (wpAny_enterFrame h2.1 hroom
    (wpE_pure (And.intro rfl h2.2))))) fun _ _ z => z))) fun _ _ z => z))
end
end Lo
set_option maxHeartbeats 4000000
/-! Lo3: a generator that is resumed, by its outputs. -/
namespace Lo
open PySem PySem.Spec PyProof.Rows L2 GenW

section
variable {α β : Type} {prog : Program} {w : World} {A : Around} {E E' : Value → Shared → Prop} {s : Shared}
theorem wpE_attempt {t : Sem α} {Q : Except Value α → Shared → Prop} (h : wpE prog w A t (fun a => Q (.ok a)) (fun e => Q (.error e)) s) : wpE prog w A t.attempt Q E s := fun P K J gd lv c p st hc q e => by
  show Ev prog w P s ⟨(((t.bind fun a => .pure (.ok a)).tryCatch fun e => .pure (.error e)) : Sem (Except Value α)).wrap K J gd lv, c, p, st⟩
  rw [Sem.tryCatch_eq_wrap, Sem.bind_eq_wrap, Sem.wrap_wrap, Sem.wrap_wrap]
  exact h P _ _ _ _ c p st hc (fun a s' p' z => q (.ok a) s' p' z) fun x s' p' z => q (.error x) s' p' z
theorem wpE_throw {e : Value} {Q : α → Shared → Prop} (h : E e s) : wpE prog w A (throw e : Sem α) Q E s := fun P K J gd lv c p st hc q z => z e s p h
end

/-! ### the generator's own object; n: how many sleep over it -/
def GObj (h : Heap) (a : Addr) (g : Nat) (n : Int) : Prop :=
  ∃ (o : Obj) (nm qn : Value), h.get? a = some o ∧ o.cls = .type "generator" ∧ o.data = .fields #[.int g 0, nm, qn] ∧ (match (o.slots[0]? : Option (Option Value)) with | some (some (Value.int i _)) => i | _ => 0) = n
section
variable {h h' : Heap} {a : Addr} {g : Nat} {n : Int}
theorem GObj.at (x : GObj h a g n) (e : h'.get? a = h.get? a) : GObj h' a g n := by
  obtain ⟨o, nm, qn, ho, r⟩ := x
  exact ⟨o, nm, qn, e.trans ho, r⟩
theorem GObj.of (x : h.IsGen a g) : GObj h a g 0 := by
  obtain ⟨o, nm, qn, ho, hc, hd, hs⟩ := x
  exact ⟨o, nm, qn, ho, hc, hd, by rw [hs]; rfl⟩
theorem GObj.typeIs {s : Shared} (x : GObj s.heap a g n) : s.TypeIs (.ref a) "generator" := let ⟨o, _, _, ho, hc, _⟩ := x; ⟨o, ho, hc⟩
end
section
variable {M : Model} {A : Around} {E : Value → Shared → Prop} {s : Shared} {a : Addr} {g : Nat} {n : Int}
theorem wpAny_genNumber0 {Q : Nat → Shared → Prop} (hg : GObj s.heap a g 0) (h : Q g s) : wpAny M A (Builtin.Generator.genNumber (.ref a)) Q E s := by
  obtain ⟨o, nm, qn, ho, _, hd, hsl⟩ := hg
  unfold Builtin.Generator.genNumber
  refine wpAny_bind (wpAny_load ho ?_)
  have tail : wpAny M A (match o.data with
      | .fields vs => (match (vs[0]? : Option Value) with
        | some (Value.int i _) => pure i.toNat
        | _ => unsupported "internal:generator-number")
      | _ => unsupported "internal:no-fields") Q E s := by
    rw [hd]
    show wpAny M A (pure ((g : Int).toNat)) Q E s
    rw [Int.toNat_natCast]
    exact wpAny_pure h
  cases hs : (o.slots[0]? : Option (Option Value)) with
  | none => exact tail
  | some x =>
    cases x with
    | none => exact tail
    | some v =>
      cases v with
      | int i t =>
        rw [hs] at hsl
        have hi : i = 0 := hsl
        subst hi
        dsimp only
        rw [if_neg (by decide)]
        exact tail
      | _ => exact tail
theorem wpAny_slept {more : Bool} {Q : Unit → Shared → Prop} (hg : GObj s.heap a g n)
    (h : ∀ h', GObj h' a g (if more = true then n + 1 else n - 1) → (∀ b, b ≠ a → h'.get? b = s.heap.get? b) → (∃ o o', s.heap.get? a = some o ∧ h'.get? a = some o' ∧ o'.data = o.data) → Q () { s with heap := h' }) :
    wpAny M A (Builtin.Generator.sleptOver (.ref a) more) Q E s := by
  obtain ⟨o, nm, qn, ho, hc, hd, hsl⟩ := hg
  unfold Builtin.Generator.sleptOver
  refine wpAny_bind (wpAny_load ho ?_)
  rw [hc, if_neg (by decide)]
  unfold setSlotAt
  dsimp only
  rw [if_neg (show ¬ ((0 : Nat) ≥ sizeLine) by decide)]
  refine wpAny_updatePart ho ?_
  have e1 : ∀ (v : Option Value) (sl : Array (Option Value)), ((sl ++ Array.replicate (0 + 1 - sl.size) none).setIfInBounds 0 v)[0]? = some v := fun v sl => by
    rw [Array.getElem?_setIfInBounds_self]
    rw [if_pos]
    rw [Array.size_append, Array.size_replicate]
    omega
  have hf : ∀ f : Obj → Obj, (f o).data = o.data → (s.heap.update a f).get? a = some (f o) := fun f e => Heap.get?_update_self _ ho (Obj.isFreed_of_fields (by rw [e]; exact hd))
  refine h _ ⟨_, nm, qn, hf _ rfl, hc, hd, ?_⟩ (fun b hb => Heap.get?_update_other _ _ (Ne.symm hb)) ⟨o, _, ho, hf _ rfl, rfl⟩
  dsimp only
  rw [e1]
  dsimp only [rawInt]
  rw [← hsl]
  rfl
end

/-! ### a generator that runs -/
def startT (gs : GenState) (base : List Frame) (p : Pos) : Thread := match gs with
  | .fresh c => ⟨denote table c, c, p, base⟩
  | .suspended k _ c p' fs _ => ⟨k (.send .none), c, p', fs ++ base⟩
  | _ => ⟨.unsupported "", .builtin "" ⟨[], []⟩, p, base⟩
def GenState.rests : GenState → Prop
  | .fresh _ => True
  | .suspended .. => True
  | _ => False
/-- resumed at s it yields (Y: what holds then) or ends (F) -/
def RunsG (prog : Program) (w : World) (A : Around) (g : Nat) (gs : GenState) (s : Shared) (Y : Value → Shared → GenState → Prop) (F : Shared → Prop) : Prop :=
  ∀ (P : Shared → Thread → Prop) (kg : GenResult → Sem PySem.Fin) (lg : List Value) (cg : Code) (pg : Pos) (st : List Frame), (Ctx.of cg st).In A →
    (∀ v s1 gs', Y v s1 gs' → Ev prog w P (s1.setGen g gs') ⟨kg (.yielded v), cg, pg, st⟩) → (∀ s1, F s1 → Ev prog w P (s1.setGen g .finished) ⟨kg (.returned .none), cg, pg, st⟩) →
    Ev prog w P (s.setGen g .running) (startT gs (.gen g kg lg cg pg :: st) pg)
section
variable {prog : Program} {w : World} {A : Around} {E : Value → Shared → Prop} {s : Shared} {g : Nat} {gs : GenState}
theorem resumeE {Y : Value → Shared → GenState → Prop} {F : Shared → Prop} {Q : GenResult → Shared → Prop} (hg : s.gens[g]? = some gs) (hr : GenState.rests gs) (h : RunsG prog w A g gs s Y F)
    (hY : ∀ v s1 gs', Y v s1 gs' → Q (.yielded v) (s1.setGen g gs')) (hF : ∀ s1, F s1 → Q (.returned .none) (s1.setGen g .finished)) : wpE prog w A (resume g (.send .none)) Q E s := fun P K J gd lv c p st hc q e => by
  show Ev prog w P s ⟨.resume g (.send .none) (lv []) (fun x => (Sem.pure x).wrap K J gd lv), c, p, st⟩
  have hh := h P (fun x => (Sem.pure x).wrap K J gd lv) (lv []) c p st hc (fun v s1 gs' z => q _ _ p (hY v s1 gs' z)) fun s1 z => q _ _ p (hF s1 z)
  cases gs with
  | fresh c' => exact Ev.calm (step_resume_fresh _ _ _ _ _ _ _ hg) hh
  | suspended k₀ l₀ c₀ p₀ fs cl => exact Ev.calm (step_resume_suspended _ _ _ _ _ _ _ _ hg) hh
  | running => exact hr.elim
  | finished => exact hr.elim
/-- it is woken by __next__ -/
theorem callE_entry {T : String} {name : Str} {id : String} {b : Builtin} {self : Value} {rest : List Value} {Q : Value → Shared → Prop} (h : Slot T name id) (hT : s.TypeIs self T) (hb : entryFor table id = some b)
    (hc : wpE prog w A.in1 (b ⟨self :: rest, []⟩) (fun fin s' => ∃ v, fin = .done (.ret v) ∧ Q v s') E s) (ha : argsOk id ⟨self :: rest, []⟩) : wpE prog w A (call (.builtin id) (self :: rest)) Q E s := by
  refine wpE_call (codeE_of_tree ?_)
  show wpE prog w A.in1 (do checkBuiltinCall id ⟨self :: rest, []⟩; again (.builtin id ⟨self :: rest, []⟩)) _ _ s
  refine wpE_bind (wpE_of (h.check _ _ _ _ _ _ _ _ hT ha ?_))
  refine wpE_pure ⟨plainId_quiet h.plain _, codeE_of_tree ?_⟩
  rw [Around.under_plainId h.plain]
  show wpE prog w A.in1 (match entryFor table id with | some b => b ⟨self :: rest, []⟩ | none => unsupported ((withoutEnding? id "#data").getD id)) _ _ s
  rw [hb]
  refine wpE_mono hc (fun fin s' z => ?_) fun _ _ z => z
  obtain ⟨v, rfl, z⟩ := z
  exact z
theorem callSpecialE_slot {self : Value} {T : String} {name : Str} {id : String} {Q : Option Value → Shared → Prop} (hT : s.TypeIs self T) (h : Slot T name id) (hc : wpE prog w A (call (.builtin id) [self] []) (fun v => Q (some v)) E s) : wpE prog w A (callSpecial? self name) Q E s := by
  simp only [callSpecial?]
  refine wpE_bind (wpE_of (wpAny_specialOf hT h.lookup ?_))
  simp only [h.bind]
  exact wpE_holding (wpE_bind (wpE_pure (wpE_bind (wpE_thn hc fun v s' h' => wpE_pure h'))))
theorem nextE {a : Addr} {Y : Value → Shared → GenState → Prop} {F : Shared → Prop} {Q : Option Value → Shared → Prop} (hh : A.handled = none) (hl : s.heap.NoLimit) (hroom : A.depth < recursionLimit) (hg : GObj s.heap a g 0) (hgs : s.gens[g]? = some gs) (hr : GenState.rests gs)
    (h : RunsG prog w A.in1 g gs s Y F) (hY : ∀ v s1 gs', Y v s1 gs' → Q (some v) (s1.setGen g gs')) (hF : ∀ s1, F s1 → ∀ e h', L2.StopX e h' → (∀ b o, s1.heap.get? b = some o → h'.get? b = some o) → E e { s1.setGen g .finished with heap := h' }) :
    wpE prog w A (callSpecial? (.ref a) "__next__") Q E s := by
  refine callSpecialE_slot (name := Str.ofString "__next__") hg.typeIs slot_gen_next (callE_entry slot_gen_next hg.typeIs entry_gen_next ?_ (args_gen_next _))
  show wpE prog w A.in1 (Builtin.Generator.genWake (.ref a) (.send .none)) _ _ s
  unfold Builtin.Generator.genWake
  refine wpE_bind (wpE_holding (wpE_of (wpAny_genNumber0 hg ?_)))
  refine wpE_bind (wpE_of (wpAny_genState hgs ?_))
  have main : wpE prog w A.in1 (do
      match ← resume g (.send .none) with
      | .yielded v => ret v
      | .returned v =>
        if v == .none then raiseNew (← newExc (.type "StopIteration") [])
        rule "generator.return-value"; throw (← newExc (.type "StopIteration") [v])
      | .raised e => Builtin.Generator.genLeft (.ref a) e
      | .running => rule "generator.already-executing"; raiseError "ValueError" "generator already executing"
      | .justStarted => rule "generator.send-to-fresh"; raiseError "TypeError" "can't send non-None value to a just-started generator"
      | .finished => raiseNew (← newExc (.type "StopIteration") [])) (fun fin s' => ∃ v, fin = .done (.ret v) ∧ Q (some v) s') E s := by
    refine wpE_bind (resumeE hgs hr h (fun v s1 gs' z => ?_) fun s1 z => ?_)
    · exact wpE_pure ⟨v, rfl, hY v s1 gs' z⟩
    · show wpE prog w A.in1 (newExc (.type "StopIteration") [] >>= _) _ _ _
      refine wpE_of ?_
      refine wpAny_bind ?_
      simp only [newExc, newTuple]
      refine wpAny_bind (wpAny_newObj_type ?_ (by size_fits))
      refine wpAny_bind (m := firstArgMember _ _) (wpAny_of_eq (a := Value.none) (by first | rfl | (simp only [firstArgMember]; rfl)) ?_)
      refine wpAny_newObj_type ?_ (by size_fits)
      simp only [raiseNew]
      refine wpAny_bind (wpAny_bind (wpAny_handled ?_))
      first | rw [show A.in1.handled = none from hh] | rw [hh]
      refine wpAny_throw ?_
      exact hF s1 z _ _ ⟨_, _, _, rfl, Heap.get?_push_size _ rfl, rfl, rfl, rfl⟩ fun b o hb => Heap.get?_push_of_some _ (Heap.get?_push_of_some _ hb)
  cases gs with
  | running => exact hr.elim
  | finished => exact hr.elim
  | fresh c' => exact wpE_bind (wpE_of (wpAny_roomToWake hl hroom main))
  | suspended k₀ l₀ c₀ p₀ fs cl => exact wpE_bind (wpE_of (wpAny_roomToWake hl hroom main))
end
end Lo
set_option maxHeartbeats 4000000
/-! Lo4: the outputs of a generator, one by one; yield; yield from another generator. -/
namespace Lo
open PySem PySem.Spec PyProof.Rows L2 GenW

/-- at a generator: how it is resumed, its number, the list that the last consumer fills, the generators' objects and numbers from it outward -/
structure Gp where
  prog : Program
  w : World
  A : Around
  g : Nat
  S : Addr
  GA : List Addr
  GO : List Nat
/-- a run of ours leaves the consumers' things alone -/
structure Still (Y : Gp) (s s1 : Shared) : Prop where
  os : s1.os = s.os
  size : s.gens.size ≤ s1.gens.size
  at_ : ∀ b ∈ Y.S :: Y.GA, s1.heap.get? b = s.heap.get? b
theorem Still.refl (Y : Gp) (s : Shared) : Still Y s s := ⟨rfl, Nat.le_refl _, fun _ _ => rfl⟩
theorem Still.trans {Y : Gp} {s s1 s2 : Shared} (a : Still Y s s1) (b : Still Y s1 s2) : Still Y s s2 := ⟨b.os.trans a.os, Nat.le_trans a.size b.size, fun x hx => (b.at_ x hx).trans (a.at_ x hx)⟩
/-- what may have become of the state when it is resumed -/
structure Zz (Y : Gp) (v : Value) (s1 s2 : Shared) : Prop where
  os : s2.os = s1.os
  size : s2.gens.size = s1.gens.size
  gens : ∀ j, j ∉ Y.GO → s2.gens[j]? = s1.gens[j]?
  run : ∀ j ∈ Y.GO, j < s1.gens.size → s2.gens[j]? = some .running
  keep : ∀ b o, b ≠ Y.S → b ∉ Y.GA → s1.heap.get? b = some o → s2.heap.get? b = some o
  there : ∀ b ∈ Y.GA, ∀ o, s1.heap.get? b = some o → ∃ o', s2.heap.get? b = some o' ∧ o'.data = o.data
  objs : ∀ b ∈ Y.GA, ∀ n m, GObj s1.heap b n m → GObj s2.heap b n m
  own : ∀ acc c, s1.heap.get? Y.S = some (lstObj acc c) → ∃ c', s2.heap.get? Y.S = some (lstObj (acc.push v) c')

section
variable {δ : Type}
/-- from here (s; s0: where this stretch began) it hands out just these, then ends -/
def Prod (Y : Gp) (R : Hp → V → δ → Prop) (Fin : Shared → Hp → Prop) : List δ → Hp → Shared → Shared → Sem PySem.Fin → Code → Pos → List Frame → Prop
  | [], H, s0, s, t, c, p, fs => ∀ (P : Shared → Thread → Prop) (kg : GenResult → Sem PySem.Fin) (lg : List Value) (cg : Code) (pg : Pos) (st : List Frame), (Ctx.of cg st).In Y.A →
      (∀ s' H', Still Y s0 s' → Evl.Ex H H' → Fin s' H' → Ev Y.prog Y.w P (s'.setGen Y.g .finished) ⟨kg (.returned .none), cg, pg, st⟩) → Ev Y.prog Y.w P s ⟨t, c, p, fs ++ .gen Y.g kg lg cg pg :: st⟩
  | d :: r, H, s0, s, t, c, p, fs => ∀ (P : Shared → Thread → Prop) (kg : GenResult → Sem PySem.Fin) (lg : List Value) (cg : Code) (pg : Pos) (st : List Frame), (Ctx.of cg st).In Y.A →
      (∀ (v : Value) (x : V) (s1 : Shared) (H1 : Hp) (k' : Resume → Sem PySem.Fin) (l' : List Value) (c' : Code) (p' : Pos) (fs' : List Frame) (cl : Bool), RelV x v → R H1 x d → Evl.Ex H H1 → Still Y s0 s1 → s1.heap.NoLimit →
        (∀ s2, Zz Y v s1 s2 → Prod Y R Fin r H1 s2 s2 (k' (.send .none)) c' p' fs') → Ev Y.prog Y.w P (s1.setGen Y.g (.suspended k' l' c' p' fs' cl)) ⟨kg (.yielded v), cg, pg, st⟩) →
      Ev Y.prog Y.w P s ⟨t, c, p, fs ++ .gen Y.g kg lg cg pg :: st⟩
/-- a resting generator -/
def ProdG (Y : Gp) (R : Hp → V → δ → Prop) (Fin : Shared → Hp → Prop) (ds : List δ) (H : Hp) (s : Shared) (gs : GenState) : Prop := match gs with
  | .fresh c => ∀ p, Prod Y R Fin ds H s s (denote table c) c p []
  | .suspended k _ c p fs _ => Prod Y R Fin ds H s s (k (.send .none)) c p fs
  | _ => False

theorem in_gen {A : Around} {cg c : Code} {pg : Pos} {st fs : List Frame} {g : Nat} {kg : GenResult → Sem PySem.Fin} {lg : List Value} (h : (Ctx.of cg st).In A) : (Ctx.of c (fs ++ .gen g kg lg cg pg :: st)).In (A.over c fs) := by
  have f : ((Ctx.of cg st).wake c pg).Fits (.gen g kg lg cg pg :: st) := (Ctx.fits_of cg st).wake c g kg lg pg
  have e : Ctx.of c (.gen g kg lg cg pg :: st) = (Ctx.of cg st).wake c pg := by
    obtain ⟨f1, f2, f3, f4⟩ := f
    show (⟨c, topHandled (.gen g kg lg cg pg :: st), topHandled (ownFrames (.gen g kg lg cg pg :: st)), (Frame.gen g kg lg cg pg :: st).map Frame.where_, topHandled.go true (.gen g kg lg cg pg :: st)⟩ : PySem.Ctx) = _
    rw [← f1, ← f2, ← f4]
    rfl
  rw [Ctx.of_append, e]
  exact (Ctx.In.wake h c pg).over fs

section
variable {Y : Gp} {R : Hp → V → δ → Prop} {Fin : Shared → Hp → Prop} {ds : List δ} {H : Hp} {s0 s : Shared} {t : Sem PySem.Fin} {c : Code} {p : Pos} {fs : List Frame}
/-- a stretch begun anew -/
theorem Prod.rebase {H1 : Hp} (e : Evl.Ex H H1) (z : Still Y s0 s) (q : Prod Y R Fin ds H1 s s t c p fs) : Prod Y R Fin ds H s0 s t c p fs := by
  cases ds with
  | nil => exact fun P kg lg cg pg st hc k => q P kg lg cg pg st hc fun s' H' z' e' f => k s' H' (z.trans z') (e.trans e') f
  | cons d r => exact fun P kg lg cg pg st hc k => q P kg lg cg pg st hc fun v x s1' H1' k' l' c' p' fs' cl a1 a2 a3 a4 a5 a6 => k v x s1' H1' k' l' c' p' fs' cl a1 a2 (e.trans a3) (z.trans a4) a5 a6
/-- whatever the machine does in this generator until another place of it -/
theorem Prod.by {s1 : Shared} {t1 : Sem PySem.Fin} {c1 : Code} {p1 : Pos} {fs1 : List Frame} (q : Prod Y R Fin ds H s0 s1 t1 c1 p1 fs1)
    (h : ∀ (P : Shared → Thread → Prop) (kg : GenResult → Sem PySem.Fin) (lg : List Value) (cg : Code) (pg : Pos) (st : List Frame), (Ctx.of cg st).In Y.A → Ev Y.prog Y.w P s1 ⟨t1, c1, p1, fs1 ++ .gen Y.g kg lg cg pg :: st⟩ → Ev Y.prog Y.w P s ⟨t, c, p, fs ++ .gen Y.g kg lg cg pg :: st⟩) : Prod Y R Fin ds H s0 s t c p fs := by
  cases ds with
  | nil => exact fun P kg lg cg pg st hc k => h P kg lg cg pg st hc (q P kg lg cg pg st hc k)
  | cons d r => exact fun P kg lg cg pg st hc k => h P kg lg cg pg st hc (q P kg lg cg pg st hc k)
/-- the same, told by what may follow -/
theorem Prod.wrapE {α : Type} {m : Sem α} {K : α → Sem PySem.Fin} {J : Value → Sem PySem.Fin} {gd : Bool → Bool} {lv : List Value → List Value}
    (h : wpE Y.prog Y.w (Y.A.over c fs) m (fun a s' => ∀ p', Prod Y R Fin ds H s0 s' (K a) c p' fs) (fun _ _ => False) s) : Prod Y R Fin ds H s0 s (m.wrap K J gd lv) c p fs := by
  cases ds with
  | nil => exact fun P kg lg cg pg st hc k => h P K J gd lv c p _ (in_gen hc) (fun a s' p' q => q p' P kg lg cg pg st hc k) fun _ _ _ z => z.elim
  | cons d r => exact fun P kg lg cg pg st hc k => h P K J gd lv c p _ (in_gen hc) (fun a s' p' q => q p' P kg lg cg pg st hc k) fun _ _ _ z => z.elim
theorem Prod.bindE {α : Type} {m : Sem α} {K : α → Sem PySem.Fin} (h : wpE Y.prog Y.w (Y.A.over c fs) m (fun a s' => ∀ p', Prod Y R Fin ds H s0 s' (K a) c p' fs) (fun _ _ => False) s) : Prod Y R Fin ds H s0 s (m >>= K) c p fs := by
  rw [Sem.bind_eq_wrap']
  exact Prod.wrapE h
theorem Prod.bindW {α β : Type} {m : Sem α} {f : α → Sem β} {K : β → Sem PySem.Fin} {J : Value → Sem PySem.Fin} {gd : Bool → Bool} {lv : List Value → List Value}
    (h : wpE Y.prog Y.w (Y.A.over c fs) m (fun a s' => ∀ p', Prod Y R Fin ds H s0 s' ((f a).wrap K J gd lv) c p' fs) (fun _ _ => False) s) : Prod Y R Fin ds H s0 s ((m >>= f).wrap K J gd lv) c p fs := by
  rw [Sem.bind_eq_wrap', Sem.wrap_wrap]
  exact Prod.wrapE h
theorem Prod.call {c' : Code} {h : Option Value} {g : Bool} {l : List Value} {k : Result → Sem PySem.Fin} (q : Prod Y R Fin ds H s0 s (denote table c') c' p (.ret k h g l c p [] :: fs)) : Prod Y R Fin ds H s0 s (.call c' h g l k) c p fs :=
  Prod.by q fun P kg lg cg pg st hc e => Ev.calm (step_call ..) e
theorem Prod.leaf {k : Result → Sem PySem.Fin} {h : Option Value} {g : Bool} {l : List Value} {c1 : Code} {p1 : Pos} {kp : List Value} {r : Result} (q : Prod Y R Fin ds H s0 s (k r) c1 p1 fs) : Prod Y R Fin ds H s0 s (leafOf r) c p (.ret k h g l c1 p1 kp :: fs) :=
  Prod.by q fun P kg lg cg pg st hc e => Ev.calm (step_leaf_ret ..) e
theorem Prod.again {c' : Code} (hq : c'.quiet = true) (q : Prod Y R Fin ds H s0 s (denote table c') c' p fs) : Prod Y R Fin ds H s0 s (.pure (.again c')) c p fs :=
  Prod.by q fun P kg lg cg pg st hc e => Ev.calm (step_again _ _ _ _ _ _ hq) e
theorem Prod.atPos {p' : Pos} {k : Unit → Sem PySem.Fin} (q : Prod Y R Fin ds H s0 s (k ()) c p' fs) : Prod Y R Fin ds H s0 s (.at p' k) c p fs :=
  Prod.by q fun P kg lg cg pg st hc e => Ev.calm (step_at ..) e
theorem Prod.point {l : List Value} {k : Unit → Sem PySem.Fin} (q : Prod Y R Fin ds H s0 s (k ()) c p fs) : Prod Y R Fin ds H s0 s (.point l k) c p fs :=
  Prod.by q fun P kg lg cg pg st hc e => Ev.calm (step_point ..) e
/-- the end -/
theorem Prod.ends {r : Result} (hr : r = .ok (.ret .none) ∨ r = .ok .next) (z : Still Y s0 s) (q : Fin s H) : Prod Y R Fin [] H s0 s (leafOf r) c p [] := by
  intro P kg lg cg pg st hc k
  have e : (End.ret r).result = .returned .none := by rcases hr with rfl | rfl <;> rfl
  refine Ev.calm (step_leaf_gen ..) ?_
  rw [e]
  exact k s H z (Evl.Ex.refl H) q
theorem split_over {fs : List Frame} {b : Frame} {st : List Frame} {g : Nat} {kg : GenResult → Sem PySem.Fin} {lg : List Value} {cg : Code} {pg : Pos} (hs : splitAtGen fs = none) : splitAtGen (fs ++ .gen g kg lg cg pg :: st) = some (fs, (g, kg, cg, pg), st) := by
  rw [splitAtGen_append_none _ hs, splitAtGen_gen]
  simp
/-- a yield of its own -/
theorem Prod.yields {d : δ} {v : Value} {x : V} {l : List Value} {k : Resume → Sem PySem.Fin} (hs : splitAtGen fs = none) (hg : fs.any Frame.guarded = false) (rv : RelV x v) (hR : R H x d) (z : Still Y s0 s) (hl : s.heap.NoLimit)
    (q : ∀ s2, Zz Y v s s2 → Prod Y R Fin ds H s2 s2 (k (.send .none)) c p fs) : Prod Y R Fin (d :: ds) H s0 s (.yield v false l k) c p fs := by
  intro P kg lg cg pg st hc kk
  refine Ev.calm (step_yield _ _ _ _ _ _ _ _ _ (split_over (b := .gen Y.g kg lg cg pg) hs) (by simp [End.quiet, hg])) ?_
  exact kk v x s H k l c p fs _ rv hR (Evl.Ex.refl H) z hl q
/-- a yield over another generator -/
theorem Prod.yieldsOver {d : δ} {v : Value} {x : V} {l : List Value} {k : Resume → Sem PySem.Fin} {ai : Addr} {gi : Nat} {n : Int} (hs : splitAtGen fs = none) (hg : fs.any Frame.guarded = false) (go : GObj s.heap ai gi n) (rv : RelV x v) (hR : R H x d) (z : Still Y s0 s) (hl : s.heap.NoLimit)
    (q : ∀ s2, Zz Y v s s2 → Prod Y R Fin ds H s2 s2 (k (.send .none)) (.builtin "proto.yield_from" ⟨[.ref ai, .bool false, .none], []⟩) p fs) :
    Prod Y R Fin (d :: ds) H s0 s (.yield v true l k) (.builtin "proto.yield_from" ⟨[.ref ai, .bool false, .none], []⟩) p fs := by
  intro P kg lg cg pg st hc kk
  have hsp := split_over (b := .gen Y.g kg lg cg pg) (st := st) (g := Y.g) (kg := kg) (lg := lg) (cg := cg) (pg := pg) hs
  obtain ⟨o, nm, qn, ho, hcl, hd, _⟩ := go
  have hgn : o.genNumber? = some gi := by
    unfold Obj.genNumber?
    rw [hcl, hd]
    simp
  refine Ev.one (.inr ⟨v, l, k, fs, _, _, ai, _, _, o, gi, rfl, hsp, hg, rfl, ho, hgn⟩) (s1 := s.setGen Y.g (.suspended k l (.builtin "proto.yield_from" ⟨[.ref ai, .bool false, .none], []⟩) p fs (true || fs.any Frame.guarded))) (t1 := ⟨kg (.yielded v), cg, pg, st⟩) ?_ ?_
  · show stepK (denote table) Y.prog Y.w s ⟨.yield v true l k, _, p, fs ++ .gen Y.g kg lg cg pg :: st⟩ = _
    simp only [stepK, PySem.step, hsp]
    rfl
  · exact kk v x s H k l _ p fs _ rv hR (Evl.Ex.refl H) z hl q
end
end
end Lo
set_option maxHeartbeats 4000000
/-! Lo5: yield from a generator. -/
namespace Lo
open PySem PySem.Spec PyProof.Rows L2 GenW

section
variable {δ : Type} {Y : Gp} {R : Hp → V → δ → Prop} {Fin : Shared → Hp → Prop} {d : δ} {ds : List δ} {H : Hp} {s : Shared} {gs : GenState}
theorem ProdG.rests (h : ProdG Y R Fin ds H s gs) : GenState.rests gs := by
  cases gs <;> first | trivial | exact h.elim
theorem runsG_nil (h : ProdG Y R Fin [] H (s.setGen Y.g .running) gs) : RunsG Y.prog Y.w Y.A Y.g gs s (fun _ _ _ => False) (fun s1 => ∃ H1, Still Y (s.setGen Y.g .running) s1 ∧ Evl.Ex H H1 ∧ Fin s1 H1) := by
  intro P kg lg cg pg st hc _ kf
  cases gs with
  | fresh c => exact h pg P kg lg cg pg st hc fun s' H' z e f => kf s' ⟨H', z, e, f⟩
  | suspended k l c p fs cl => exact h P kg lg cg pg st hc fun s' H' z e f => kf s' ⟨H', z, e, f⟩
  | running => exact h.elim
  | finished => exact h.elim
theorem runsG_cons (h : ProdG Y R Fin (d :: ds) H (s.setGen Y.g .running) gs) :
    RunsG Y.prog Y.w Y.A Y.g gs s (fun v s1 gs' => ∃ x H1, RelV x v ∧ R H1 x d ∧ Evl.Ex H H1 ∧ Still Y (s.setGen Y.g .running) s1 ∧ s1.heap.NoLimit ∧ ∀ s2, Zz Y v s1 s2 → ProdG Y R Fin ds H1 s2 gs') (fun _ => False) := by
  intro P kg lg cg pg st hc ky _
  cases gs with
  | fresh c => exact h pg P kg lg cg pg st hc fun v x s1 H1 k' l' c' p' fs' cl a1 a2 a3 a4 a5 a6 => ky v s1 _ ⟨x, H1, a1, a2, a3, a4, a5, a6⟩
  | suspended k l c p fs cl => exact h P kg lg cg pg st hc fun v x s1 H1 k' l' c' p' fs' cl a1 a2 a3 a4 a5 a6 => ky v s1 _ ⟨x, H1, a1, a2, a3, a4, a5, a6⟩
  | running => exact h.elim
  | finished => exact h.elim
end

/-- the code of yield from -/
abbrev yfCode (a : Addr) : Code := .builtin "proto.yield_from" ⟨[.ref a, .bool false, .none], []⟩
theorem den_any (id : String) (args : Args) : denote table (.builtin id args) = (match entryFor table id with | some b => b args | none => unsupported ((withoutEnding? id "#data").getD id)) := rfl
theorem den_at {id : String} {b : Builtin} (h : entryFor table id = some b) (args : Args) : denote table (.builtin id args) = b args := by
  rw [den_any, h]
theorem den_yf (a : Addr) : denote table (yfCode a) = Builtin.«proto.yield_from» ⟨[.ref a, .bool false, .none], []⟩ := den_at L2.entry_yf _
theorem close_gen : typeLookup (.type "generator") "close" = pure (some (.builtin "generator.close")) := by
  rw [typeLookup_type, builtinLookup_eq_fast]
  kernel_rfl
theorem GObj.inj {h : Heap} {a : Addr} {g g' : Nat} {n n' : Int} (x : GObj h a g n) (y : GObj h a g' n') : g = g' ∧ n = n' := by
  obtain ⟨o, nm, qn, ho, _, hd, hs⟩ := x
  obtain ⟨o', nm', qn', ho', _, hd', hs'⟩ := y
  rw [ho] at ho'
  cases ho'
  refine ⟨?_, hs.symm.trans hs'⟩
  rw [hd] at hd'
  injection hd' with e
  have e2 := congrArg Array.toList e
  simp at e2
  omega
theorem GObj.some {h : Heap} {a : Addr} {g : Nat} {n : Int} (x : GObj h a g n) : ∃ o, h.get? a = some o := let ⟨o, _, _, ho, _⟩ := x; ⟨o, ho⟩
theorem noLimit_at {h h' : Heap} (x : h.NoLimit) (e : ∀ o, h.get? cStatics = some o → h'.get? cStatics = some o) : h'.NoLimit := let ⟨mc, hns, hnn⟩ := x; ⟨mc, hns.at' fun o z => e o z, hnn⟩

theorem setGen_at' {s : Shared} {g : Nat} {x : GenState} (h : g < s.gens.size) : (s.setGen g x).gens[g]? = some x := L2.setGen_at h
theorem setGen_ne {s : Shared} {g j : Nat} {x : GenState} (h : j ≠ g) : (s.setGen g x).gens[j]? = s.gens[j]? := by
  show (s.gens.setIfInBounds g x)[j]? = _
  rw [Array.getElem?_setIfInBounds_ne (Ne.symm h)]

section
variable {δ : Type} {Y : Gp} {R : Hp → V → δ → Prop} {Fin FinI : Shared → Hp → Prop} {fs : List Frame} {ai : Addr} {gi : Nat} {rest : List δ}
/-- the inner one, woken by the outer one's code -/
def Gp.inner (Y : Gp) (fs : List Frame) (ai : Addr) (gi : Nat) : Gp := { Y with A := (Y.A.over (yfCode ai) fs).in1, g := gi, GA := ai :: Y.GA, GO := gi :: Y.GO }
theorem prod_yf (hho : (Y.A.over (yfCode ai) fs).handled = none) (hroom : (Y.A.over (yfCode ai) fs).depth < recursionLimit) (hsp : splitAtGen fs = none) (hgd : fs.any Frame.guarded = false) (ngo : gi ∉ Y.GO) (nga : ai ∉ Y.GA) (nS : ai ≠ Y.S)
    (nC : cStatics ≠ ai ∧ cStatics ≠ Y.S ∧ cStatics ∉ Y.GA)
    (hend : ∀ s' H' p, FinI s' H' → ∀ h', (∀ b o, s'.heap.get? b = some o → h'.get? b = some o) → (∀ j ∈ Y.GO, j < s'.gens.size) → (∃ acc c, h'.get? Y.S = some (lstObj acc c)) → (∀ b ∈ Y.GA, ∃ o, s'.heap.get? b = some o ∧ h'.get? b = some o) →
      Prod Y R Fin rest H' { s'.setGen gi .finished with heap := h' } { s'.setGen gi .finished with heap := h' } (.pure (.done (.ret .none))) (yfCode ai) p fs) :
    ∀ (ds : List δ) (H : Hp) (s : Shared) (gs : GenState) (p : Pos), GObj s.heap ai gi 0 → (∃ acc c, s.heap.get? Y.S = some (lstObj acc c)) → (∀ b ∈ Y.GA, ∃ o, s.heap.get? b = some o) → s.gens[gi]? = some gs → (∀ j ∈ Y.GO, j < s.gens.size) → s.heap.NoLimit →
      ProdG (Y.inner fs ai gi) R FinI ds H (s.setGen gi .running) gs → Prod Y R Fin (ds ++ rest) H s s (denote table (yfCode ai)) (yfCode ai) p fs := by
  have inG : ∀ b ∈ Y.S :: Y.GA, b ∈ (Y.inner fs ai gi).S :: (Y.inner fs ai gi).GA := fun b hb => by
    show b ∈ Y.S :: ai :: Y.GA
    rcases List.mem_cons.mp hb with h | h
    · exact h ▸ List.mem_cons_self
    · exact List.mem_cons_of_mem _ (List.mem_cons_of_mem _ h)
  have neA : ∀ b ∈ Y.S :: Y.GA, b ≠ ai := fun b hb e => by
    subst e
    rcases List.mem_cons.mp hb with h | h
    · exact nS h
    · exact nga h
  intro ds
  induction ds with
  | nil =>
    intro H s gs p go hS hob' hgs hj hl hP
    have hob : ∀ b ∈ Y.S :: Y.GA, ∃ o, s.heap.get? b = some o := fun b hb => (List.mem_cons.mp hb).elim (fun e => let ⟨acc, c, q⟩ := hS; ⟨_, e ▸ q⟩) (hob' b)
    rw [den_yf]
    unfold Builtin.«proto.yield_from»
    try dsimp only
    refine Prod.bindE (wpE_pure fun p' => ?_)
    try dsimp only
    refine Prod.bindE (wpE_attempt (wpE_holding ?_))
    rw [if_neg Bool.false_ne_true, if_pos (show (Value.none == Value.none) = true from rfl)]
    refine wpE_bind (wpE_of (wpAny_rule (wpE_bind ?_)))
    refine nextE (gs := gs) hho hl hroom go hgs hP.rests (runsG_nil hP) (fun _ _ _ z => z.elim) fun s1 ⟨H1, z, e, f⟩ x h' hx hk => ?_
    have zs : s.gens.size ≤ s1.gens.size := by
      have q := z.size
      rw [GenW.setGen_size] at q
      exact q
    have at1 : ∀ b ∈ Y.S :: Y.GA, s1.heap.get? b = s.heap.get? b := fun b hb => z.at_ b (inG b hb)
    intro p2
    refine Prod.rebase e ⟨z.os, ?_, fun b hb => ?_⟩ ?_
    · show s.gens.size ≤ (s1.setGen gi .finished).gens.size
      rw [GenW.setGen_size]
      exact zs
    · obtain ⟨o, ho⟩ := hob b hb
      exact (hk b o ((at1 b hb).trans ho)).trans ho.symm
    · obtain ⟨a, o, vs, rfl, hoa, hcls, hdat, h5⟩ := hx
      try dsimp only
      refine Prod.bindE (wpE_of (L2.wpAny_endsTurn hoa hcls ?_))
      intro p3
      try dsimp only
      rw [if_pos rfl]
      first
        | refine Prod.bindE (wpE_of (wpAny_rule ?_))
        | (rw [if_neg Bool.false_ne_true]; refine Prod.bindE (wpE_of (wpAny_rule ?_)))
        | (rw [if_neg Bool.false_ne_true]; refine Prod.bindE (wpE_pure fun p4 => ?_); refine Prod.bindE (wpE_of (wpAny_rule ?_)))
      intro p4
      refine Prod.bindE (wpE_of (wpAny_field hoa hdat h5 ?_))
      intro p5
      refine hend s1 H1 p5 f h' hk (fun j hjj => Nat.lt_of_lt_of_le (hj j hjj) zs) ?_ fun b hb => ?_
      · obtain ⟨acc, c, q⟩ := hS
        exact ⟨acc, c, hk _ _ ((at1 _ List.mem_cons_self).trans q)⟩
      · obtain ⟨o, q⟩ := hob' b hb
        have q1 := (at1 b (List.mem_cons_of_mem _ hb)).trans q
        exact ⟨o, q1, hk _ _ q1⟩
  | cons d ds ih =>
    intro H s gs p go hS hob hgs hj hl hP
    have hgl : gi < s.gens.size := (Array.getElem?_eq_some_iff.mp hgs).1
    rw [den_yf]
    unfold Builtin.«proto.yield_from»
    try dsimp only
    refine Prod.bindE (wpE_pure fun p' => ?_)
    try dsimp only
    refine Prod.bindE (wpE_attempt (wpE_holding ?_))
    rw [if_neg Bool.false_ne_true, if_pos (show (Value.none == Value.none) = true from rfl)]
    refine wpE_bind (wpE_of (wpAny_rule (wpE_bind ?_)))
    refine nextE (gs := gs) hho hl hroom go hgs hP.rests (runsG_cons hP) (fun v s1 gs' ⟨x, H1, rv, hR, e, z, hl1, cont⟩ => ?_) fun _ z => z.elim
    have zs : s.gens.size ≤ s1.gens.size := by
      have q := z.size
      rw [GenW.setGen_size] at q
      exact q
    have g1 : GObj s1.heap ai gi 0 := go.at (z.at_ ai (by show ai ∈ Y.S :: ai :: Y.GA; simp))
    have at1 : ∀ b ∈ Y.S :: Y.GA, s1.heap.get? b = s.heap.get? b := fun b hb => z.at_ b (inG b hb)
    refine wpE_pure fun p2 => ?_
    try dsimp only
    refine Prod.bindE (wpE_of (wpAny_typeOf (T := "generator") (GObj.typeIs (s := s1.setGen gi gs') g1) ?_))
    intro p3
    try dsimp only
    first
      | (refine Prod.bindE (wpE_of_eq close_gen fun p4 => ?_); refine Prod.bindE (wpE_pure fun p5 => ?_))
      | refine Prod.bindE (wpE_bind (wpE_of_eq close_gen (wpE_pure fun p4 => ?_)))
    try dsimp only
    refine Prod.bindE (wpE_of (wpAny_slept (more := true) (s := s1.setGen gi gs') g1 fun h' g2 k2 k3 => ?_))
    intro p6
    have g2' : GObj h' ai gi 1 := g2
    have hl2 : h'.NoLimit := noLimit_at hl1 fun o ho => (k2 cStatics nC.1).trans ho
    refine Prod.rebase e (s := { s1.setGen gi gs' with heap := h' }) ⟨z.os, ?_, fun b hb => (k2 b (neA b hb)).trans (at1 b hb)⟩ ?_
    · show s.gens.size ≤ (s1.setGen gi gs').gens.size
      rw [GenW.setGen_size]
      exact zs
    show Prod Y R Fin (d :: (ds ++ rest)) H1 _ { s1.setGen gi gs' with heap := h' } (.yield v true [] _) _ p6 fs
    refine Prod.yieldsOver (x := x) hsp hgd g2' rv hR (Still.refl Y _) hl2 fun s2 zz => ?_
    have g3 : GObj s2.heap ai gi 1 := by
      obtain ⟨o, ho⟩ := g2'.some
      exact g2'.at ((zz.keep ai o nS nga ho).trans ho.symm)
    show Prod Y R Fin (ds ++ rest) H1 _ s2 (Builtin.Generator.sleptOver (.ref ai) false >>= fun _ => _) _ p6 fs
    refine Prod.bindE (wpE_of (wpAny_slept (more := false) g3 fun h'' g4 k4 k5 => ?_))
    intro p7
    have g4' : GObj h'' ai gi 0 := g4
    refine Prod.rebase (Evl.Ex.refl H1) (s := { s2 with heap := h'' }) ⟨rfl, Nat.le_refl _, fun b hb => k4 b (neA b hb)⟩ ?_
    try dsimp only
    refine Prod.bindE (wpE_pure fun p8 => ?_)
    have hgl1 : gi < s1.gens.size := Nat.lt_of_lt_of_le hgl zs
    have zsz : s2.gens.size = s1.gens.size := by
      have q := zz.size
      have q' : s2.gens.size = (s1.setGen gi gs').gens.size := q
      rw [GenW.setGen_size] at q'
      exact q'
    have zg : s2.gens[gi]? = some gs' := (zz.gens gi ngo).trans (setGen_at' hgl1)
    refine Prod.again (plainId_quiet L2.plain_yf _) (ih H1 { s2 with heap := h'' } gs' p8 g4' ?_ (fun b hb => ?_) zg (fun j hjj => ?_) ?_ (cont _ ?_))
    · obtain ⟨acc, c, ho⟩ := hS
      have m0 : Y.S ∈ Y.S :: Y.GA := List.mem_cons_self
      obtain ⟨c', q⟩ := zz.own acc c ((k2 Y.S (Ne.symm nS)).trans ((at1 _ m0).trans ho))
      exact ⟨_, _, (k4 Y.S (Ne.symm nS)).trans q⟩
    · have hb' : b ∈ Y.S :: Y.GA := List.mem_cons_of_mem _ hb
      obtain ⟨o, ho⟩ := hob b hb
      obtain ⟨o', q, _⟩ := zz.there b hb o ((k2 b (neA b hb')).trans ((at1 b hb').trans ho))
      exact ⟨o', (k4 b (neA b hb')).trans q⟩
    · show j < s2.gens.size
      rw [zsz]
      exact Nat.lt_of_lt_of_le (hj j hjj) zs
    · exact noLimit_at hl2 fun o ho => (k4 cStatics nC.1).trans (zz.keep cStatics o nC.2.1 nC.2.2 ho)
    · refine ⟨zz.os, ?_, fun j hjn => ?_, fun j hjm hjs => ?_, fun b o hb1 hb2 ho => ?_, fun b hb o ho => ?_, fun b hb n m x => ?_, fun acc c ho => ?_⟩
      · show (Shared.setGen { s2 with heap := h'' } gi .running).gens.size = s1.gens.size
        rw [GenW.setGen_size]
        exact zsz
      · have hj1 : j ≠ gi := fun z => hjn (z ▸ List.mem_cons_self)
        have hj2 : j ∉ Y.GO := fun z => hjn (List.mem_cons_of_mem _ z)
        exact (setGen_ne hj1).trans ((zz.gens j hj2).trans (setGen_ne hj1))
      · rcases List.mem_cons.mp hjm with h | h
        · rw [h]
          exact setGen_at' (show gi < s2.gens.size by rw [zsz]; exact hgl1)
        · have hj1 : j ≠ gi := fun z => ngo (z ▸ h)
          exact (setGen_ne hj1).trans (zz.run j h (by show j < (s1.setGen gi gs').gens.size; rw [GenW.setGen_size]; exact hjs))
      · have hb3 : b ≠ ai := fun z => hb2 (z ▸ List.mem_cons_self)
        have hb4 : b ∉ Y.GA := fun z => hb2 (List.mem_cons_of_mem _ z)
        exact (k4 b hb3).trans (zz.keep b o hb1 hb4 ((k2 b hb3).trans ho))
      · rcases List.mem_cons.mp hb with h | h
        · subst h
          obtain ⟨o1, o2, e1, e2, e3⟩ := k3
          obtain ⟨o3, o4, e4, e5, e6⟩ := k5
          have e1' : s1.heap.get? b = some o1 := e1
          rw [ho] at e1'
          cases e1'
          have e7 : s2.heap.get? b = some o2 := zz.keep b o2 nS nga e2
          rw [e4] at e7
          cases e7
          exact ⟨o4, e5, e6.trans e3⟩
        · have hb3 : b ≠ ai := fun z => nga (z ▸ h)
          obtain ⟨o', q1, q2⟩ := zz.there b h o ((k2 b hb3).trans ho)
          exact ⟨o', (k4 b hb3).trans q1, q2⟩
      · rcases List.mem_cons.mp hb with h | h
        · subst h
          obtain ⟨rfl, rfl⟩ := GObj.inj x g1
          exact g4'
        · have hb3 : b ≠ ai := fun z => nga (z ▸ h)
          exact (zz.objs b h n m (x.at (k2 b hb3))).at (k4 b hb3)
      · obtain ⟨c', q⟩ := zz.own acc c ((k2 Y.S (Ne.symm nS)).trans ho)
        exact ⟨c', (k4 Y.S (Ne.symm nS)).trans q⟩
end
end Lo
set_option maxHeartbeats 4000000
/-! Lo6: list(g). -/
namespace Lo
open PySem PySem.Spec PyProof.Rows L2 GenW

section
variable {prog : Program} {w : World} {A : Around} {E : Value → Shared → Prop} {s : Shared} {g : Nat} {gs : GenState}
theorem pyNextE {a : Addr} {Y : Value → Shared → GenState → Prop} {F : Shared → Prop} {Q : Option Value → Shared → Prop} (hh : A.handled = none) (hl : s.heap.NoLimit) (hroom : A.depth < recursionLimit) (hg : GObj s.heap a g 0) (hgs : s.gens[g]? = some gs) (hr : GenState.rests gs)
    (h : RunsG prog w A.in1 g gs s Y F) (hY : ∀ v s1 gs', Y v s1 gs' → Q (some v) (s1.setGen g gs')) (hF : ∀ s1, F s1 → ∀ h', (∀ b o, s1.heap.get? b = some o → h'.get? b = some o) → Q none { s1.setGen g .finished with heap := h' }) :
    wpE prog w A (pyNext (.ref a)) Q E s := by
  unfold pyNext
  refine wpE_bind (wpE_attempt (nextE hh hl hroom hg hgs hr h (fun v s1 gs' z => wpE_pure (hY v s1 gs' z)) fun s1 z e h' hx hk => ?_))
  obtain ⟨x, o, vs, rfl, ho, hc, _, _⟩ := hx
  refine wpE_bind (wpE_of (wpAny_isInstance (T := "StopIteration") (b := true) ⟨o, ho, hc⟩ isSubtype_stop ?_))
  exact wpE_pure (hF s1 z h' hk)
end

/-- paired, by a relation that may grow -/
inductive Outs {δ : Type} (R : V → δ → Prop) : List V → List δ → Prop
  | nil : Outs R [] []
  | cons {x : V} {d : δ} {xs : List V} {ds : List δ} : R x d → Outs R xs ds → Outs R (x :: xs) (d :: ds)
theorem Outs.imp {δ : Type} {R R' : V → δ → Prop} (h : ∀ x d, R x d → R' x d) : ∀ {xs : List V} {ds : List δ}, Outs R xs ds → Outs R' xs ds
  | _, _, .nil => .nil
  | _, _, .cons a b => .cons (h _ _ a) (b.imp h)
theorem Outs.snoc {δ : Type} {R : V → δ → Prop} {x : V} {d : δ} (h : R x d) : ∀ {xs : List V} {ds : List δ}, Outs R xs ds → Outs R (xs ++ [x]) (ds ++ [d])
  | _, _, .nil => .cons h .nil
  | _, _, .cons a b => .cons a (b.snoc h)

section
variable {δ : Type} {prog : Program} {w : World} {A : Around} {R : Hp → V → δ → Prop} {Fin : Shared → Hp → Prop} {S a : Addr} {g : Nat} {res : Value}
def Gp.last (prog : Program) (w : World) (A : Around) (g : Nat) (S a : Addr) : Gp := ⟨prog, w, A, g, S, [a], [g]⟩
/-- what list.extend's loop comes to -/
def Drained (R : Hp → V → δ → Prop) (Fin : Shared → Hp → Prop) (S : Addr) (g : Nat) (H : Hp) (all : List δ) (s' : Shared) : Prop :=
  ∃ (s1 : Shared) (H1 : Hp) (h' : Heap) (xs : List V) (acc : Array Value) (c : Nat), s' = { s1.setGen g .finished with heap := h' } ∧ (∀ b o, s1.heap.get? b = some o → h'.get? b = some o) ∧ Fin s1 H1 ∧ Evl.Ex H H1 ∧ h'.get? S = some (lstObj acc c) ∧ Vals xs acc.toList ∧ Outs (R H1) xs all
theorem drainE (hmono : ∀ H H' x d, Evl.Ex H H' → R H x d → R H' x d) (hh : A.handled = none) (hd : A.depth < recursionLimit) (hSa : a ≠ S) (hC : cStatics ≠ S ∧ cStatics ≠ a) :
    ∀ (ds done : List δ) (H : Hp) (s : Shared) (gs : GenState) (xs : List V) (acc : Array Value) (c : Nat), GObj s.heap a g 0 → s.heap.get? S = some (lstObj acc c) → Vals xs acc.toList → Outs (R H) xs done → acc.size + ds.length ≤ sizeLine → s.gens[g]? = some gs → s.heap.NoLimit →
      ProdG (Gp.last prog w A.in1.in1 g S a) R Fin ds H (s.setGen g .running) gs → codeE prog w A (.builtin "list.extend.loop" ⟨[.ref S, .ref a, res], []⟩) (fun r s' => r = .ok (.ret res) ∧ Drained R Fin S g H (done ++ ds) s') s := by
  intro ds
  induction ds with
  | nil =>
    intro done H s gs xs acc c go hS hv ho hz hgs hl hP
    refine codeE_of_tree ?_
    rw [Around.under_plainId F.plain_extend_loop _, den_at F.entry_extend_loop]
    show wpE prog w A.in1 (pyNext (.ref a) >>= _) _ _ s
    refine wpE_bind (pyNextE (A := A.in1) hh hl hd go hgs hP.rests (runsG_nil hP) (fun _ _ _ z => z.elim) fun s1 ⟨H1, z, e, f⟩ h' hk => ?_)
    refine wpE_pure ⟨rfl, s1, H1, h', xs, acc, c, rfl, hk, f, e, hk _ _ ?_, hv, ?_⟩
    · exact (z.at_ S List.mem_cons_self).trans hS
    · rw [List.append_nil]
      exact ho.imp fun x d q => hmono _ _ _ _ e q
  | cons d ds ih =>
    intro done H s gs xs acc c go hS hv ho hz hgs hl hP
    have hgl : g < s.gens.size := (Array.getElem?_eq_some_iff.mp hgs).1
    refine codeE_of_tree ?_
    rw [Around.under_plainId F.plain_extend_loop _, den_at F.entry_extend_loop]
    show wpE prog w A.in1 (pyNext (.ref a) >>= _) _ _ s
    refine wpE_bind (pyNextE (A := A.in1) hh hl hd go hgs hP.rests (runsG_cons hP) (fun v s1 gs' ⟨x, H1, rv, hR, e, z, hl1, cont⟩ => ?_) fun _ z => z.elim)
    have zs : s.gens.size ≤ s1.gens.size := by
      have q := z.size
      rw [GenW.setGen_size] at q
      exact q
    have hS1 : s1.heap.get? S = some (lstObj acc c) := (z.at_ S List.mem_cons_self).trans hS
    have g1 : GObj s1.heap a g 0 := go.at (z.at_ a (by show a ∈ [S, a]; simp))
    have hlen : acc.size < sizeLine := by
      rw [List.length_cons] at hz
      omega
    show wpE prog w A.in1 (updateSeq S (·.push v) >>= _) _ _ (s1.setGen g gs')
    refine wpE_bind (wpE_of (wpAny_updateSeq hS1 rfl ?_ (Nat.le_of_lt hlen) (by show (acc.push v).size ≤ sizeLine + 1; rw [Array.size_push]; omega)))
    refine wpE_pure ⟨plainId_quiet F.plain_extend_loop _, ?_⟩
    have keep : ∀ b o, b ≠ S → s1.heap.get? b = some o → (s1.heap.update S (Obj.mapSeq (·.push v))).get? b = some o := fun b o hbS q => (Heap.get?_update_other _ _ (Ne.symm hbS)).trans q
    have hoth : ∀ b, b ≠ S → (s1.heap.update S (Obj.mapSeq (·.push v))).get? b = s1.heap.get? b := fun b hbS => Heap.get?_update_other _ _ (Ne.symm hbS)
    have push : ∀ acc c, s1.heap.get? S = some (lstObj acc c) → ∃ c', (s1.heap.update S (Obj.mapSeq (·.push v))).get? S = some (lstObj (acc.push v) c') := fun acc c q => ⟨_, Heap.get?_update_self _ q rfl⟩
    obtain ⟨c', hS2⟩ := push acc c hS1
    have hgl1 : g < s1.gens.size := Nat.lt_of_lt_of_le hgl zs
    refine codeE_mono (ih (done ++ [d]) H1 { s1.setGen g gs' with heap := s1.heap.update S (Obj.mapSeq (·.push v)) } gs' (xs ++ [x]) (acc.push v) c' (g1.at (hoth a hSa)) hS2 ?_ ?_ ?_ (setGen_at' hgl1) (noLimit_at hl1 fun o ho => keep cStatics o hC.1 ho) (cont _ ?_)) fun r s' ⟨hr, hD⟩ => ⟨hr, ?_⟩
    · rw [Array.toList_push]
      exact hv.append (.cons rv .nil)
    · exact (ho.imp fun x d q => hmono _ _ _ _ e q).snoc hR
    · rw [Array.size_push]
      rw [List.length_cons] at hz
      omega
    · refine ⟨rfl, ?_, fun j hj => ?_, fun j hj hjs => ?_, fun b o hb1 hb2 q => keep b o hb1 q, fun b hb o q => ⟨o, ?_, rfl⟩, fun b hb n m q => ?_, fun acc c q => push acc c q⟩
      · show (Shared.setGen { s1.setGen g gs' with heap := _ } g .running).gens.size = s1.gens.size
        rw [GenW.setGen_size]
        exact GenW.setGen_size _ _ _
      · have hj1 : j ≠ g := fun z => hj (z ▸ List.mem_singleton.mpr rfl)
        exact (setGen_ne hj1).trans (setGen_ne hj1)
      · have hj1 : j = g := List.mem_singleton.mp hj
        rw [hj1]
        exact setGen_at' (show g < (s1.setGen g gs').gens.size by rw [GenW.setGen_size]; exact hgl1)
      · have hb1 : b = a := List.mem_singleton.mp hb
        subst hb1
        exact (hoth b hSa).trans q
      · have hb1 : b = a := List.mem_singleton.mp hb
        subst hb1
        exact q.at (hoth b hSa)
    · obtain ⟨s2, H2, h2, ys, acc2, c2, e1, e2, e3, e4, e5, e6, e7⟩ := hD
      refine ⟨s2, H2, h2, ys, acc2, c2, e1, e2, e3, e.trans e4, e5, e6, ?_⟩
      rw [List.append_assoc] at e7
      exact e7
end

/-! ### list(g), from its call -/
section
variable {prog : Program} {w : World} {A : Around} {E : Value → Shared → Prop} {s : Shared}
theorem callSpecialE_slot1 {self u : Value} {T : String} {name : Str} {id : String} {Q : Option Value → Shared → Prop} (hT : s.TypeIs self T) (h : Slot T name id) (hc : wpE prog w A (call (.builtin id) [self, u] []) (fun v => Q (some v)) E s) : wpE prog w A (callSpecial? self name [u]) Q E s := by
  simp only [callSpecial?]
  refine wpE_bind (wpE_of (wpAny_specialOf hT h.lookup ?_))
  simp only [h.bind]
  exact wpE_holding (wpE_bind (wpE_pure (wpE_bind (wpE_thn hc fun v s' h' => wpE_pure h'))))
theorem callE_list {u : Value} {Q : Value → Shared → Prop}
    (h : wpE prog w A.in1.in1 (Builtin.«list.__init__» ⟨[.ref s.heap.objs.size, u], []⟩) (fun fin s' => match fin with | .done f => f = .ret .none ∧ Q (.ref s.heap.objs.size) s' | .again c' => c'.quiet = true ∧ codeE prog w A.in1 c' (fun r s2 => r = .ok (.ret .none) ∧ Q (.ref s.heap.objs.size) s2) s') (fun _ _ => False)
      { s with heap := s.heap.push { cls := .type "list", data := .seq #[] } }) :
    wpE prog w A (call (.type "list") [u]) Q E s := by
  refine wpE_call (codeE_of_tree ?_)
  show wpE prog w _ (callAny (.type "list") _) _ _ _
  refine wpE_pure ⟨Code.quiet_builtin _ (by decide +kernel), codeE_of_tree ?_⟩
  rw [Around.under_plain (weight_type_call_type "list" [u] []) rfl, den_at F.entry_type_call]
  have ft := F.called_list
  unfold Builtin.«type.__call__»
  dsimp only
  rw [if_neg (by rw [ft.notType]; exact Bool.false_ne_true), if_neg (by rw [ft.canCreate]; exact Bool.false_ne_true)]
  obtain ⟨c, tl, hmro⟩ := ft.mro
  refine wpE_bind (wpE_of_eq (F.typeCall_list_1 u) (wpE_bind (wpE_of_eq hmro ?_)))
  rw [if_neg (show ¬ ((c :: tl).isEmpty = true) from Bool.false_ne_true)]
  refine wpE_bind (wpE_of_eq ft.made (wpE_bind (wpE_pure ?_)))
  have hS : (s.heap.push { cls := .type "list", data := .seq #[] }).get? s.heap.objs.size = some { cls := .type "list", data := .seq #[] } := Heap.get?_push_size _ rfl
  refine wpE_bind (wpE_holding (wpE_of (wpAny_call (codeAny_mono (code_list_new (E := fun _ _ => False) (Q₁ := fun obj s₁ => obj = .ref s.heap.objs.size ∧ s₁ = { s with heap := s.heap.push { cls := .type "list", data := .seq #[] } }) u ⟨rfl, rfl⟩) fun r s1 hr => ?_))))
  cases r with
  | error e => exact False.elim hr
  | ok fl =>
    cases fl with
    | ret obj =>
      obtain ⟨rfl, rfl⟩ := hr
      have hT : Shared.TypeIs { s with heap := s.heap.push { cls := .type "list", data := .seq #[] } } (.ref s.heap.objs.size) "list" := ⟨_, hS, rfl⟩
      show wpE prog w _ _ _ _ _
      refine wpE_bind (wpE_of (wpAny_isInstance (T := "list") (b := true) hT ft.sub ?_))
      rw [if_neg (show ¬ ((!true) = true) from Bool.false_ne_true)]
      refine wpE_bind (wpE_holding (callSpecialE_slot1 hT ft.init ?_))
      refine wpE_call (codeE_of_tree ?_)
      show wpE prog w _ (do checkBuiltinCall "list.__init__" ⟨[.ref s.heap.objs.size, u], []⟩; again (.builtin "list.__init__" ⟨[.ref s.heap.objs.size, u], []⟩)) _ _ _
      refine wpE_bind (wpE_of (ft.init.check _ _ _ _ _ _ _ _ hT (F.args_list_init_2 _ _) ?_))
      refine wpE_pure ⟨plainId_quiet ft.init.plain _, codeE_of_tree ?_⟩
      rw [Around.under_plainId ft.init.plain, den_at F.entry_list_init]
      refine wpE_mono h (fun fin s' z => ?_) fun _ _ z => z.elim
      cases fin with
      | done f =>
        obtain ⟨rfl, z⟩ := z
        show wpE prog w _ _ _ _ _
        dsimp only
        rw [if_neg (show ¬ ((Value.none != Value.none) = true) by decide)]
        exact wpE_pure z
      | again c' =>
        refine ⟨z.1, codeE_mono z.2 fun r2 s2 ⟨e2, z2⟩ => ?_⟩
        subst e2
        show wpE prog w _ _ _ _ _
        dsimp only
        rw [if_neg (show ¬ ((Value.none != Value.none) = true) by decide)]
        exact wpE_pure z2
    | next => exact hr.elim
    | brk => exact hr.elim
    | cont => exact hr.elim
end

section
variable {δ : Type} {prog : Program} {w : World} {A : Around} {E : Value → Shared → Prop} {s : Shared} {R : Hp → V → δ → Prop} {Fin : Shared → Hp → Prop} {a : Addr} {g : Nat} {gs : GenState} {ds : List δ} {H : Hp}
theorem listE {Q : Value → Shared → Prop} (hmono : ∀ H H' x d, Evl.Ex H H' → R H x d → R H' x d) (hh : A.handled = none) (hd : A.depth < recursionLimit) (hig : s.heap.IsGen a g) (hgs : s.gens[g]? = some gs) (hl : s.heap.NoLimit) (hca : cStatics ≠ a) (hz : ds.length ≤ sizeLine)
    (hP : ∀ s2 : Shared, (∀ b o, s.heap.get? b = some o → s2.heap.get? b = some o) → (∃ c, s2.heap.get? s.heap.objs.size = some (lstObj #[] c)) → s2.os = s.os → s2.gens = s.gens → ProdG (Gp.last prog w A.in1.in1.in1 g s.heap.objs.size a) R Fin ds H (s2.setGen g .running) gs)
    (hQ : ∀ s', Drained R Fin s.heap.objs.size g H ds s' → Q (.ref s.heap.objs.size) s') : wpE prog w A (call (.type "list") [.ref a]) Q E s := by
  refine callE_list ?_
  have hg : GObj s.heap a g 0 := GObj.of hig
  have ha2 : a < s.heap.objs.size := by
    obtain ⟨o, ho⟩ := hg.some
    exact Heap.lt_size ho
  have hSa : s.heap.objs.size ≠ a := Nat.ne_of_gt ha2
  have hcl : cStatics < s.heap.objs.size := let ⟨_, hn, _⟩ := hl; hn.lt
  have hSc : cStatics ≠ s.heap.objs.size := Nat.ne_of_lt hcl
  have hS : (s.heap.push { cls := .type "list", data := .seq #[] }).get? s.heap.objs.size = some { cls := .type "list", data := .seq #[] } := Heap.get?_push_size _ rfl
  show wpE prog w A.in1.in1 (do let old ← Builtin.List.listItems (.ref s.heap.objs.size); Builtin.List.listUpdate (.ref s.heap.objs.size) (fun _ => #[]); letGo old.toList.reverse; Builtin.List.listExtendWith (.ref s.heap.objs.size) (.ref a) .none) _ _ _
  refine wpE_bind (wpE_of ?_)
  unfold Builtin.List.listItems
  refine wpAny_bind (wpAny_seqItems hS rfl (wpAny_pure ?_))
  show wpE prog w A.in1.in1 (updateSeq s.heap.objs.size (fun _ => #[]) >>= fun _ => letGo (#[] : Array Value).toList.reverse >>= fun _ => Builtin.List.listExtendWith (.ref s.heap.objs.size) (.ref a) .none) _ _ _
  refine wpE_bind (wpE_of (wpAny_updateSeq hS rfl ?_))
  have hS2 := Heap.get?_update_self (Obj.mapSeq (fun _ => (#[] : Array Value))) hS rfl
  refine wpE_bind (wpE_of (wpAny_letGo ?_))
  unfold Builtin.List.listExtendWith
  have up : ∀ (h : Heap) (f : Obj → Obj), (∀ b o, s.heap.get? b = some o → h.get? b = some o) → ∀ b o, s.heap.get? b = some o → (h.update s.heap.objs.size f).get? b = some o := fun h f q b o e =>
    (Heap.get?_update_other _ _ (Ne.symm (Nat.ne_of_lt (Heap.lt_size e)))).trans (q b o e)
  have k1 : ∀ b o, s.heap.get? b = some o → (s.heap.push { cls := .type "list", data := .seq #[] }).get? b = some o := fun b o e => Heap.get?_push_of_some _ e
  have k2 := up _ (Obj.mapSeq (fun _ => (#[] : Array Value))) k1
  have gat : ∀ {h : Heap}, (∀ b o, s.heap.get? b = some o → h.get? b = some o) → GObj h a g 0 := fun {h} q => by
    obtain ⟨o, ho⟩ := hg.some
    exact hg.at ((q a o ho).trans ho.symm)
  refine wpE_bind (wpE_of (wpAny_typeOf (GObj.typeIs (s := { s with heap := _ }) (gat k2)) ?_))
  have h1 : Builtin.List.listSameRef (.ref s.heap.objs.size) (.ref a) = false := by simp [Builtin.List.listSameRef, hSa]
  have h2 : (Value.type "generator" == Value.type "list") = false := by decide
  have h3 : (Value.type "generator" == Value.type "tuple") = false := by decide
  simp only [h1, h2, h3, Bool.or_false, Bool.false_eq_true, if_false]
  have gty : ∀ {h : Heap}, (∀ b o, s.heap.get? b = some o → h.get? b = some o) → h.IsGen a g := fun {h} q => hig.keeps q
  refine wpE_bind (wpE_of (wpAny_pyIter_gen (s := { s with heap := _ }) (gty k2) ?_))
  refine wpE_bind (wpE_holding (wpE_of ?_))
  unfold Builtin.List.listLengthHint
  refine wpAny_bind (wpAny_specialOf (Heap.IsGen.typeIs (s := { s with heap := _ }) (gty k2)) F.gen_no_len ?_)
  show wpAny _ A.in1.in1 (specialOf (Value.ref a) (Str.ofString "__length_hint__") >>= _) _ _ _
  refine wpAny_bind (wpAny_specialOf (Heap.IsGen.typeIs (s := { s with heap := _ }) (gty k2)) F.gen_no_hint ?_)
  refine wpAny_pure ?_
  show wpE prog w A.in1.in1 (rule "list.extend.makes-room" >>= fun _ => Builtin.List.listTouch (.ref s.heap.objs.size) >>= fun _ =>
    again (.builtin "list.extend.loop" ⟨[.ref s.heap.objs.size, .ref a, .none], []⟩)) _ _ _
  refine wpE_bind (wpE_of (wpAny_rule ?_))
  refine wpE_bind (wpE_of ?_)
  show wpAny _ A.in1.in1 (updateSeq s.heap.objs.size (·.push .none) >>= fun _ => updateSeq s.heap.objs.size (·.pop)) _ _ _
  refine wpAny_bind (wpAny_updateSeq hS2 rfl ?_)
  have hS3 := Heap.get?_update_self (Obj.mapSeq (·.push Value.none)) hS2 rfl
  refine wpAny_updateSeq (hz := by seq_fits) hS3 rfl ?_
  have hS4 := Heap.get?_update_self (Obj.mapSeq (·.pop)) hS3 rfl
  have k4 := up _ (Obj.mapSeq (·.pop)) (up _ (Obj.mapSeq (·.push Value.none)) k2)
  refine wpE_pure ⟨plainId_quiet F.plain_extend_loop _, ?_⟩
  refine codeE_mono (drainE (A := A.in1) (R := R) (Fin := Fin) (res := .none) hmono hh hd (Ne.symm hSa) ⟨hSc, hca⟩ ds [] H _ gs [] #[] _ (gat k4) hS4 .nil .nil (by rw [Array.size_empty, Nat.zero_add]; exact hz) hgs (hl.keeps k4) (hP _ k4 ⟨_, hS4⟩ rfl rfl)) fun r s' ⟨hr, hD⟩ => ⟨hr, hQ s' hD⟩
end
end Lo
set_option maxHeartbeats 4000000
/-! Lo7: a generator def's body, statement by statement. -/
namespace Lo
open PySem PySem.Spec PyProof.Rows L2 GenW

/-- the body runs: the layer's invariant, the consumers' things pinned -/
structure BI (X : Cx) (Y : Gp) (ip : List (Addr × Obj)) (σ : L2.St) (H : Hp) (s : Shared) : Prop where
  inv : Inv X (ip ++ pinsAt (Y.S :: Y.GA) s.heap) σ H s
  fp : ∀ b ∈ Y.S :: Y.GA, FpOk X ip H b
  obj : ∀ b ∈ Y.GA, ∃ o, s.heap.get? b = some o ∧ ∀ v, o.data ≠ .cell v
  lst : ∃ acc c, s.heap.get? Y.S = some (lstObj acc c)
  gz : ∀ j ∈ Y.GO, j < s.gens.size

section
variable {X : Cx} {Y : Gp} {ip : List (Addr × Obj)} {σ σ' : L2.St} {H H' : Hp} {s s' : Shared} {v : Value}
theorem BI.obj' (b : BI X Y ip σ H s) : ∀ a ∈ Y.S :: Y.GA, ∃ o, s.heap.get? a = some o ∧ ∀ v, o.data ≠ .cell v := fun a ha => by
  rcases List.mem_cons.mp ha with e | e
  · obtain ⟨acc, c, q⟩ := b.lst
    exact ⟨_, e ▸ q, fun v z => by cases z⟩
  · exact b.obj a e
theorem BI.free (b : BI X Y ip σ H s) : Inv X ip σ H s := b.inv.unpinned
theorem BI.of (I : Inv X ip σ H s) (fp : ∀ b ∈ Y.S :: Y.GA, FpOk X ip H b) (obj : ∀ b ∈ Y.GA, ∃ o, s.heap.get? b = some o ∧ ∀ v, o.data ≠ .cell v) (lst : ∃ acc c, s.heap.get? Y.S = some (lstObj acc c)) (gz : ∀ j ∈ Y.GO, j < s.gens.size) : BI X Y ip σ H s :=
  ⟨I.pinned fp fun a ha => by
    rcases List.mem_cons.mp ha with e | e
    · obtain ⟨acc, c, q⟩ := lst
      exact ⟨_, e ▸ q, fun v z => by cases z⟩
    · exact obj a e, fp, obj, lst, gz⟩
theorem BI.step (b : BI X Y ip σ H s) (I : Inv X (ip ++ pinsAt (Y.S :: Y.GA) s.heap) σ' H' s') (hg : s.gens.size ≤ s'.gens.size) : BI X Y ip σ' H' s' ∧ Still Y s s' := by
  have same : ∀ a ∈ Y.S :: Y.GA, s'.heap.get? a = s.heap.get? a := fun a ha => by
    obtain ⟨o, ho, _⟩ := b.obj' a ha
    exact ((I.pin (a, o) (List.mem_append_right _ (List.mem_append_right _ (mem_pinsAt ha ho)))).1).trans ho.symm
  have fp' : ∀ a ∈ Y.S :: Y.GA, FpOk X ip H' a := fun a ha => by
    obtain ⟨o, ho, _⟩ := b.obj' a ha
    exact ⟨(I.pin (a, o) (List.mem_append_right _ (List.mem_append_right _ (mem_pinsAt ha ho)))).2.1, (b.fp a ha).2⟩
  refine ⟨.of I.unpinned fp' (fun a ha => ?_) ?_ fun j hj => Nat.lt_of_lt_of_le (b.gz j hj) hg, ⟨I.os.trans b.inv.os.symm, hg, same⟩⟩
  · obtain ⟨o, ho, q⟩ := b.obj a ha
    exact ⟨o, (same a (List.mem_cons_of_mem _ ha)).trans ho, q⟩
  · obtain ⟨acc, c, q⟩ := b.lst
    exact ⟨acc, c, (same _ List.mem_cons_self).trans q⟩
/-- resumed -/
theorem BI.wake (b : BI X Y ip σ H s) (z : Zz Y v s s') : BI X Y ip σ H s' := by
  have I := b.free
  have nH : ∀ a ∈ Y.S :: Y.GA, H a = none := fun a ha => (b.fp a ha).1
  have nt : ∀ a u, H a = some u → a ∉ Y.S :: Y.GA := fun a u q hm => by rw [nH a hm] at q; cases q
  have kp : ∀ a o, a ∉ Y.S :: Y.GA → s.heap.get? a = some o → s'.heap.get? a = some o := fun a o ha q => z.keep a o (fun e => ha (e ▸ List.mem_cons_self)) (fun e => ha (List.mem_cons_of_mem _ e)) q
  have lst' : ∃ acc c, s'.heap.get? Y.S = some (lstObj acc c) := by
    obtain ⟨acc, c, q⟩ := b.lst
    obtain ⟨c', q'⟩ := z.own acc c q
    exact ⟨_, _, q'⟩
  have bare : AllBare s'.gens := fun y hy => by
    obtain ⟨i, hi, e⟩ := Array.mem_iff_getElem.mp hy
    have e' : s'.gens[i]? = some y := by rw [Array.getElem?_eq_getElem hi, e]
    have hi' : i < s.gens.size := by rw [← z.size]; exact hi
    by_cases hm : i ∈ Y.GO
    · rw [z.run i hm hi'] at e'
      cases e'
      rfl
    · rw [z.gens i hm] at e'
      exact I.bare y (Array.mem_of_getElem? e')
  have obj' : ∀ a ∈ Y.GA, ∃ o, s'.heap.get? a = some o ∧ ∀ v, o.data ≠ .cell v := fun a ha => by
    obtain ⟨o, ho, hn⟩ := b.obj a ha
    obtain ⟨o', ho', e⟩ := z.there a ha o ho
    exact ⟨o', ho', fun v => by rw [e]; exact hn v⟩
  have I2 : Inv X ip σ H s' := by
    obtain ⟨hh, g, d, t, o⟩ := s'
    obtain rfl : o = s.os := z.os
    refine I.step (g' := g) (t' := t) (d' := d) (ch := Y.S :: Y.GA) (fun a ha => ?_) (fun a ob _ _ hc q _ => kp a ob hc q) (fun a ob _ _ hc q _ => ⟨ob.slots, kp a ob hc q⟩) (fun _ _ _ _ n => n) (fun a ob hc q => ⟨ob, kp a ob hc q⟩)
      (fun _ _ q => q) (fun _ _ _ q => q) (fun a ps q => ⟨#[], by rw [q]; simp⟩) (fun m hm => ?_) (fun a u q => ?_) bare
    · obtain ⟨_, f1, _, f3, f4, f5⟩ := b.fp a ha
      exact ⟨f3, f1, f4, f5⟩
    · obtain ⟨ob, es, ep, ho, r⟩ := hm
      exact ⟨ob, es, ep, kp _ ob (fun hm2 => (b.fp _ hm2).2.1 rfl) ho, r⟩
    · refine (I.hok a u q).stay (fun c w hc y => kp c w ?_ y) (fun _ y => y) fun _ _ y => y
      rcases hc with y | y
      · rw [y]; exact nt a u q
      · exact nt c _ y
  exact .of I2 b.fp obj' lst' fun j hj => by rw [z.size]; exact b.gz j hj
end

section
variable {δ : Type} {X : Cx} {Y : Gp} {ip : List (Addr × Obj)} {R : Hp → V → δ → Prop} {Fin : Shared → Hp → Prop} {ds : List δ} {Hb H : Hp} {s0 s : Shared} {c : Code} {p : Pos} {fs : List Frame} {σ : L2.St}
/-- where the body's code stands -/
structure At (X : Cx) (Y : Gp) (c : Code) (fs : List Frame) : Prop where
  prog : X.prog = Y.prog
  w : X.w = Y.w
  over : Y.A.over c fs = X.A
  split : splitAtGen fs = none
  guard : fs.any Frame.guarded = false
  xe : ∀ e s, ¬ X.xe e s
theorem Prod.quiet {α : Type} {m : Sem α} {K : α → Sem PySem.Fin} {J : Value → Sem PySem.Fin} {gd : Bool → Bool} {lv : List Value → List Value} (T : At X Y c fs) (b : BI X Y ip σ H s) (z : Still Y s0 s) {Qm : α → L2.St → Hp → Prop}
    (h : wpAny (model X.prog X.w) X.A m (fun a s' => ∃ σ' H', Inv X (ip ++ pinsAt (Y.S :: Y.GA) s.heap) σ' H' s' ∧ Qm a σ' H') X.xe s)
    (k : ∀ a σ' H' s' p', BI X Y ip σ' H' s' → Still Y s0 s' → Qm a σ' H' → Prod Y R Fin ds Hb s0 s' (K a) c p' fs) : Prod Y R Fin ds Hb s0 s (m.wrap K J gd lv) c p fs := by
  refine Prod.wrapE ?_
  rw [T.over, ← T.prog, ← T.w]
  refine wpE_of (wpAny_gsz (n := s.gens.size) (Nat.le_refl _) (wpAny_mono h (fun a s' ⟨σ', H', I, q⟩ hs p' => ?_) fun e s' q => (T.xe e s' q).elim))
  obtain ⟨b', z'⟩ := b.step I hs
  exact k a σ' H' s' p' b' (z.trans z') q
theorem Prod.quietB {α β : Type} {m : Sem α} {f : α → Sem β} {K : β → Sem PySem.Fin} {J : Value → Sem PySem.Fin} {gd : Bool → Bool} {lv : List Value → List Value} (T : At X Y c fs) (b : BI X Y ip σ H s) (z : Still Y s0 s) {Qm : α → L2.St → Hp → Prop}
    (h : wpAny (model X.prog X.w) X.A m (fun a s' => ∃ σ' H', Inv X (ip ++ pinsAt (Y.S :: Y.GA) s.heap) σ' H' s' ∧ Qm a σ' H') X.xe s)
    (k : ∀ a σ' H' s' p', BI X Y ip σ' H' s' → Still Y s0 s' → Qm a σ' H' → Prod Y R Fin ds Hb s0 s' ((f a).wrap K J gd lv) c p' fs) : Prod Y R Fin ds Hb s0 s ((m >>= f).wrap K J gd lv) c p fs := by
  rw [Sem.bind_eq_wrap', Sem.wrap_wrap]
  exact Prod.quiet T b z h k
/-! ### statements; K, J, gd, lv: what stands around -/
variable {K : Flow → Sem PySem.Fin} {J : Value → Sem PySem.Fin} {gd : Bool → Bool} {lv : List Value → List Value}
theorem Prod.execs_nil (h : Prod Y R Fin ds Hb s0 s (K .next) c p fs) : Prod Y R Fin ds Hb s0 s ((execs [] X.env).wrap K J gd lv) c p fs := h
theorem Prod.execs_cons {st : Stmt} {rest : List Stmt} (h : Prod Y R Fin ds Hb s0 s ((exec st X.env).wrap (fun f => match f with | .next => (execs rest X.env).wrap K J gd lv | f => K f) J gd lv) c p fs) : Prod Y R Fin ds Hb s0 s ((execs (st :: rest) X.env).wrap K J gd lv) c p fs := by
  rw [execs_cons_wrap]
  exact h
/-- a quiet statement that goes on -/
theorem Prod.stmt {st : Stmt} {t : TS} (T : At X Y c fs) (b : BI X Y ip σ H s) (z : Still Y s0 s) (hst : PS X st t) {Pn : L2.St → Hp → Prop} (ht : t { nx := Pn, rt := fun _ _ => False, bk := fun _ _ => False, ct := fun _ _ => False } σ H)
    (k : ∀ σ' H' s' p', BI X Y ip σ' H' s' → Still Y s0 s' → Pn σ' H' → Prod Y R Fin ds Hb s0 s' (K .next) c p' fs) : Prod Y R Fin ds Hb s0 s ((exec st X.env).wrap K J gd lv) c p fs := by
  refine Prod.quiet T b z (Qm := fun f σ' H' => f = .next ∧ Pn σ' H') (wpAny_mono (hst.run _ s σ H _ b.inv ht) (fun f s' q => ?_) fun _ _ q => q) fun a σ' H' s' p' b' z' ⟨e, q⟩ => by
    subst e
    exact k σ' H' s' p' b' z' q
  cases f with
  | next =>
    obtain ⟨σ', H', I, q⟩ := q
    exact ⟨σ', H', I, rfl, q⟩
  | ret u =>
    obtain ⟨_, _, _, _, _, q⟩ := q
    exact q.elim
  | brk =>
    obtain ⟨_, _, _, q⟩ := q
    exact q.elim
  | cont =>
    obtain ⟨_, _, _, q⟩ := q
    exact q.elim
theorem Prod.ifS {test : Expr} {body orelse : List Stmt} {pos : Pos} {tc : TT} (T : At X Y c fs) (b : BI X Y ip σ H s) (z : Still Y s0 s) (ht : PT X test tc) {Pb : Bool → Hp → Prop} (h : tc σ H Pb)
    (k1 : ∀ H' s' p', BI X Y ip σ H' s' → Still Y s0 s' → Pb true H' → Prod Y R Fin ds Hb s0 s' ((execs body X.env).wrap K J gd lv) c p' fs)
    (k2 : ∀ H' s' p', BI X Y ip σ H' s' → Still Y s0 s' → Pb false H' → Prod Y R Fin ds Hb s0 s' ((execs orelse X.env).wrap K J gd lv) c p' fs) : Prod Y R Fin ds Hb s0 s ((exec (.If test body orelse pos) X.env).wrap K J gd lv) c p fs := by
  rw [exec_If]
  refine Prod.quietB T b z (Qm := fun _ σ' H' => σ' = σ ∧ H' = H) (wpAny_standAt ⟨σ, H, b.inv, rfl, rfl⟩) fun _ σ1 H1 s1 p1 b1 z1 ⟨e1, e2⟩ => ?_
  subst e1 e2
  refine Prod.quietB T b1 z1 (Qm := fun a σ' H' => σ' = σ1 ∧ Pb a H') (wpAny_mono (ht.run _ s1 σ1 H1 _ b1.inv h) (fun a s' ⟨H', I, q⟩ => ⟨σ1, H', I, rfl, q⟩) fun _ _ q => q) fun a σ2 H2 s2 p2 b2 z2 ⟨e1, q⟩ => ?_
  subst e1
  cases a with
  | true => exact k1 H2 s2 p2 b2 z2 q
  | false => exact k2 H2 s2 p2 b2 z2 q
/-- yield e -/
theorem Prod.yieldS {e : Expr} {yp pos : Pos} {te : TE} {d : δ} (T : At X Y c fs) (hgd : gd false = false) (b : BI X Y ip σ H s) (z : Still Y s0 s) (he : PE X e te) (h : te σ H fun x H1 => Evl.Ex Hb H1 ∧ R H1 x d)
    (k : ∀ H' s' p', BI X Y ip σ H' s' → Evl.Ex Hb H' → Prod Y R Fin ds H' s' s' (K .next) c p' fs) (hco : X.env.scope.isCoroutine = false := by rfl) (hi : interactive X.env = false := by rfl) : Prod Y R Fin (d :: ds) Hb s0 s ((exec (.Expr (.Yield (some e) yp) pos) X.env).wrap K J gd lv) c p fs := by
  rw [exec_Expr X.env _ pos hi rfl]
  show Prod Y R Fin (d :: ds) Hb s0 s (.at pos fun _ => ((eval e X.env >>= fun v => (standAt yp >>= fun _ => yieldOut X.env v)) >>= fun x => dropValue (.Yield (some e) yp) pos x).wrap K J gd lv) c p fs
  have hy : ∀ v, yieldOut X.env v = yieldValue v := fun v => by simp only [yieldOut, hco, Bool.false_eq_true, if_false]
  simp only [hy]
  refine Prod.atPos ?_
  rw [Sem.bind_eq_wrap', Sem.bind_eq_wrap', Sem.wrap_wrap, Sem.wrap_wrap]
  refine Prod.quiet T b z (Qm := fun v σ' H' => σ' = σ ∧ ∃ x, RelV x v ∧ Evl.Ex Hb H' ∧ R H' x d) (wpAny_mono (he.run _ s σ H _ b.inv h) (fun v s' ⟨x, H', I, r, q⟩ => ⟨σ, H', I, rfl, x, r, q⟩) fun _ _ q => q) fun v σ1 H1 s1 p1 b1 z1 ⟨e1, x, r, ex, q⟩ => ?_
  subst e1
  refine Prod.atPos ?_
  refine Prod.rebase ex z1 ?_
  show Prod Y R Fin (d :: ds) H1 s1 s1 (.yield v (gd false) (lv []) _) c yp fs
  rw [hgd]
  refine Prod.yields (x := x) T.split T.guard r q (Still.refl Y s1) b1.free.nolimit fun s2 zz => ?_
  exact k H1 s2 yp (b1.wake zz) ex
end
end Lo
set_option maxHeartbeats 4000000
/-! Lo8: a generator def's promise; its call; yield from such a call; a for loop in a generator's body. -/
namespace Lo
open PySem PySem.Spec PyProof.Rows L2 GenW

theorem over_under {A : Around} {c c' : Code} {fs : List Frame} {k : Result → Sem PySem.Fin} {g : Bool} {l kp : List Value} {p : Pos} : A.over c' (.ret k none g l c p kp :: fs) = (A.over c fs).under c' := by
  have e2 : A.depth + frameCount ((Frame.ret k none g l c p kp :: fs).map Frame.where_) + c'.weight = A.depth + frameCount (fs.map Frame.where_) + c.weight + c'.weight := by
    show A.depth + frameCount ((c, p) :: fs.map Frame.where_) + c'.weight = _
    rw [frameCount_cons]; omega
  have e3 : pushEnvs c'.envs (pushEnvs (envsOf ((Frame.ret k none g l c p kp :: fs).map Frame.where_)) A.frames) = pushEnvs c'.envs (pushEnvs c.envs (pushEnvs (envsOf (fs.map Frame.where_)) A.frames)) := by
    show pushEnvs c'.envs (pushEnvs (envsOf ((c, p) :: fs.map Frame.where_)) A.frames) = _
    rw [envsOf_cons]
    simp only [pushEnvs_eq]
    cases A.frames <;> simp [List.append_assoc]
  have e4 : pushGuards c'.guards (pushGuards (guardsOf ((Frame.ret k none g l c p kp :: fs).map Frame.where_)) A.guards) = pushGuards c'.guards (pushGuards c.guards (pushGuards (guardsOf (fs.map Frame.where_)) A.guards)) := by
    show pushGuards c'.guards (pushGuards (guardsOf ((c, p) :: fs.map Frame.where_)) A.guards) = _
    rw [guardsOf_cons]
    simp only [pushGuards_eq]
    cases A.guards <;> simp [List.append_assoc]
  have e5 : A.units + unitsOf ((Frame.ret k none g l c p kp :: fs).map Frame.where_) + c'.cUnits = A.units + unitsOf (fs.map Frame.where_) + c.cUnits + c'.cUnits := by
    show A.units + unitsOf ((c, p) :: fs.map Frame.where_) + c'.cUnits = _
    have : unitsOf ((c, p) :: fs.map Frame.where_) = c.cUnits + unitsOf (fs.map Frame.where_) := by first | rfl | simp [unitsOf]
    rw [this]; omega
  show (⟨_, _, _, _, _⟩ : Around) = ⟨_, _, _, _, _⟩
  rw [e2, e3, e4, e5]
  rfl

/-- at the end of a generator's run -/
def FinE (P : Program) (w : World) (outer : List Env) (H : Hp) (s : Shared) (ex : List Addr) : Shared → Hp → Prop := fun s1 H1 =>
  s1.os = s.os ∧ AllBare s1.gens ∧ Un (frs outer) ex H H1 s.heap s1.heap ∧ HOk P w H1 s1.heap ∧ Evl.Ex H H1 ∧ ∀ b ∈ ex, H1 b = none ∧ ∃ o, s1.heap.get? b = some o ∧ ∀ v, o.data ≠ .cell v
/-- a generator that has not begun -/
def GMadeE {δ : Type} (P : Program) (w : World) (k : Nat) (outer : List Env) (base : Heap) (H : Hp) (s : Shared) (R : Hp → V → δ → Prop) (ds : List δ) (u : Value) (s' : Shared) : Prop :=
  ∃ (a : Addr) (g : Nat) (c : Code), u = .ref a ∧ s.heap.objs.size ≤ a ∧ a < s'.heap.objs.size ∧ s'.heap.IsGen a g ∧ s'.gens[g]? = some (.fresh c) ∧ s.gens.size ≤ g ∧ s'.os = s.os ∧ AllBare s'.gens ∧ s'.heap.NoLimit ∧ (∀ b o, s.heap.get? b = some o → s'.heap.get? b = some o) ∧
    ∀ (Y : Gp) (s2 : Shared), Y.prog = P → Y.w = w → Y.g = g → Room k Y.A → Y.A.frames = some outer → (∀ b o, s'.heap.get? b = some o → s2.heap.get? b = some o) → s2.os = s.os → AllBare s2.gens →
      (∀ b ∈ Y.S :: Y.GA, a ≤ b ∨ (b < s.heap.objs.size ∧ H b = none ∧ b ∉ frs outer ∧ base.get? b = none)) → (∀ b ∈ Y.GA, ∃ o, s2.heap.get? b = some o ∧ ∀ v, o.data ≠ .cell v) → (∃ acc c, s2.heap.get? Y.S = some (lstObj acc c)) → (∀ j ∈ Y.GO, j < s2.gens.size) →
      ProdG Y R (FinE P w outer H s (Y.S :: Y.GA)) ds H s2 (.fresh c)
abbrev SpE (δ : Type) := List V → Hp → List δ → Prop
structure GFnE {δ : Type} (P : Program) (w : World) (K : PySem.W.Frag) (mg : Str → Option Value) (base : Heap) (k : Nat) (f : Addr) (fd : FuncData) (ps : List Str) (sp : SpE δ) (R : Hp → V → δ → Prop) : Prop where
  len : ∀ vs H ds, sp vs H ds → vs.length = ps.length
  run : ∀ (A : Around) (outer : List Env) (s : Shared) (H : Hp) (args : Args) (us : List Value) (vs : List V) (ds : List δ), Room k A → Env0 P w K mg base A outer s H → BindsTo s fd args (ps.zip us) → Vals vs us → sp vs H ds →
    codeAny (model P w) A (.call (.ref f) args) (fun r s' => match r with | .ok (.ret u) => GMadeE P w k outer base H s R ds u s' | _ => False) s

/-- the context of its body -/
def bCx (P : Program) (w : World) (K : PySem.W.Frag) (mg : Str → Option Value) (base : Heap) (N : List Str) (qual : Str) (scope : Scope) (f : Addr) (cd : Value) (A : Around) (outer : List Env) (s : Shared) (H : Hp) (ex : List Addr) : Cx :=
  { cxOf CX0 P w K mg base N qual scope f cd A outer s H (fun _ _ _ => False) with pn := [], ex := ex, xe := fun _ _ => False }
theorem no_get {h : Heap} {b : Addr} {o : Obj} (a : h.get? b = none) (e : h.get? b = some o) : False := by
  rw [e] at a; cases a
theorem Inv.toB {P : Program} {w : World} {K : PySem.W.Frag} {mg : Str → Option Value} {base : Heap} {N : List Str} {qual : Str} {scope : Scope} {f : Addr} {cd : Value} {A : Around} {outer : List Env} {s s1 : Shared} {H H' : Hp} {E : XK} {ex : List Addr} {σ : L2.St}
    (I : Inv (gcxOf P w K mg base N qual scope f cd A outer s H E []) [] σ H' s1) (h : ∀ b ∈ ex, b ≠ (envOfC qual scope s.heap.objs.size f cd).locals ∧ (∀ x c, (envOfC qual scope s.heap.objs.size f cd).cells.lookup x = some c → c ≠ b) ∧ base.get? b = none ∧ b ∉ frs outer) :
    Inv (bCx P w K mg base N qual scope f cd A outer s H ex) [] σ H' s1 :=
  ⟨⟨I.ok.mod, I.ok.kind, I.ok.glob, I.ok.blt, I.ok.above, I.ok.inj, I.ok.has, I.ok.cab, I.ok.hd, I.ok.frames, I.ok.stk, fun b hb => ⟨(h b hb).1, (h b hb).2.1⟩, I.ok.bs, I.ok.bsz, fun b o e hb => (no_get (h b hb).2.2.1 e).elim, fun b hb => (h b hb).2.2.2, I.ok.funs, I.ok.frf⟩,
    I.os, I.bare, I.base.mono (fun _ z => z) (fun b z => absurd (show b ∈ ([] : List Addr) from z) (by simp)), I.loc, I.cell, I.free, I.freeC, fun p hp => absurd (show p ∈ ([] : List (Addr × Obj)) from hp) (by simp), I.hok, I.len⟩

/-- THE RULE: a generator def, by its body -/
theorem gfnE_of {δ : Type} {P : Program} {w : World} {K : PySem.W.Frag} {mg : Str → Option Value} {base : Heap} {k : Nat} {f : Addr} {name qual : Str} {params : Arguments} {body : List Stmt} {scope : Scope} {dV kV doc pm cdv ct oc : Value} {an od : Option Addr}
    {osl : Array (Option Value)} {N ps : List Str} {sp : SpE δ} {R : Hp → V → δ → Prop} (lk : K.lookup f = some ⟨oc, od, .func (PySem.W.fnOf name qual params body scope dV kV doc pm an cdv ct), osl⟩) (hcd : PySem.W.codeIn K cdv qual = true) (S : GScope N ps scope)
    (len : ∀ vs H ds, sp vs H ds → vs.length = ps.length)
    (hbody : ∀ (A : Around) (outer : List Env) (s : Shared) (H : Hp) (vs : List V) (ds : List δ) (ex : List Addr), Room k (A.deeper (envOfC qual scope s.heap.objs.size f cdv)) → sp vs H ds →
      ∀ (Y : Gp) (Fin : Shared → Hp → Prop) (s2 : Shared), At (bCx P w K mg base N qual scope f cdv A outer s H ex) Y (.func body (envOfC qual scope s.heap.objs.size f cdv)) [] → BI (bCx P w K mg base N qual scope f cdv A outer s H ex) Y [] (start N vs) H s2 →
      ∀ (KK : Flow → Sem PySem.Fin) (J : Value → Sem PySem.Fin) (gd : Bool → Bool) (lv : List Value → List Value) (p : Pos), gd false = false →
        (∀ σ' H' s' p', BI (bCx P w K mg base N qual scope f cdv A outer s H ex) Y [] σ' H' s' → Evl.Ex H H' → Prod Y R Fin [] H' s' s' (KK .next) (.func body (envOfC qual scope s.heap.objs.size f cdv)) p' []) →
        Prod Y R Fin ds H s2 s2 ((execs body (envOfC qual scope s.heap.objs.size f cdv)).wrap KK J gd lv) (.func body (envOfC qual scope s.heap.objs.size f cdv)) p []) :
    GFnE P w K mg base (k + 1) f (PySem.W.fnOf name qual params body scope dV kV doc pm an cdv ct) ps sp R := by
  refine ⟨len, fun A outer s H args us vs ds hr e0 hb r hsp => ?_⟩
  have hl := len _ _ _ hsp
  have KX : K.In s.heap := e0.mod.kin.keeps fun b o e => (e0.bs b o e).1
  have lim : s.heap.NoLimit := e0.mod.nolimit.keeps fun b o e => (e0.bs b o e).1
  have hkind : ∀ y ∈ ps.zip us, scope.names.lookup y.1 = some .local ∨ (scope.names.lookup y.1 = some .cell ∧ ((cellsFrom (s.heap.objs.size + 1) scope.names []).lookup y.1).isSome = true) := fun ⟨n, v⟩ hy => by
    rcases S.par n (List.of_mem_zip hy).1 with q | q
    · exact .inl q
    · exact .inr ⟨q, PySem.W.cellsFrom_some _ _ _ (.inl q)⟩
  refine codeAny_call_generator hr.depth (KX _ _ lk) rfl S.co S.gen rfl (PySem.W.codeRec_of KX hcd) (hb _ _ _ _ ?_)
  refine wpAny_newFunctionEnv_cells S.kind hkind fun env he s1 x => ?_
  subst he
  have lim1 : s1.heap.NoLimit := lim.keeps x.toInCall.keep
  refine ⟨lim1, ?_⟩
  obtain ⟨h1, tk, es1, hk1⟩ := x.done
  have os1 : s1.os = s.os := by rw [es1]
  have gen1 : s1.gens = s.gens := by rw [es1]
  have lt1 : s.heap.objs.size < s1.heap.objs.size := x.toInCall.ns.lt
  have sz1 : s.heap.objs.size ≤ s1.heap.objs.size := Nat.le_of_lt lt1
  have kp1 : ∀ b o, s.heap.get? b = some o → s1.heap.get? b = some o := x.toInCall.keep
  have main : ∀ (go : Obj) (nm qn : Value) (tk2 : Nat), go.cls = .type "generator" → go.data = .fields #[.int s1.gens.size 0, nm, qn] → go.slots = #[] → (∀ h : Heap, (h.push go).get? h.objs.size = some go) →
      GMadeE P w (k + 1) outer base H s R ds (.ref s1.heap.objs.size) { s1 with gens := s1.gens.push (.fresh (.func body (envOfC qual scope s.heap.objs.size f cdv))), toks := tk2, heap := s1.heap.push go } := by
    intro go nm qn tk2 hgc hgd0 hgs hgp
    have hgen : ∀ h : Heap, h.get? s1.heap.objs.size = some go → h.IsGen s1.heap.objs.size s1.gens.size := fun h e => ⟨go, nm, qn, e, hgc, hgd0, hgs⟩
    have hpushed : (s1.heap.push go).get? s1.heap.objs.size = some go := hgp _
    refine ⟨s1.heap.objs.size, s1.gens.size, _, rfl, sz1, ?_, hgen _ hpushed, Array.getElem?_push_size .., by rw [gen1]; exact Nat.le_refl _, os1, ?_, lim1.keeps fun b o e => Heap.get?_push_of_some _ e, fun b o e => Heap.get?_push_of_some _ (kp1 b o e), ?_⟩
    · show _ < (s1.heap.push _).objs.size
      rw [Heap.size_push]; exact Nat.lt_succ_self _
    · exact AllBare.push (by rw [gen1]; exact e0.bare) rfl
    intro Y s2 hYp hYw hYg hrw hfr hk2 hos hba hex hobj hlst hgz
    subst hYp hYw
    have e0w : Env0 Y.prog Y.w K mg base Y.A outer s H := ⟨hfr, e0.mod, e0.bs, e0.bsz, e0.funs, e0.frf, e0.hok, e0.bare⟩
    have I1 : Inv (gcxOf Y.prog Y.w K mg base N qual scope f cdv Y.A outer s H (fun _ _ _ => False) []) [] (start N vs) H s1 := inv_startG S hrw.hd e0w hl r x
    have kp2 : ∀ b o, s1.heap.get? b = some o → s2.heap.get? b = some o := fun b o e => hk2 b o (Heap.get?_push_of_some _ e)
    have I2 : Inv (gcxOf Y.prog Y.w K mg base N qual scope f cdv Y.A outer s H (fun _ _ _ => False) []) [] (start N vs) H s2 :=
      I1.call' (ch := []) (hos.trans os1.symm) (Un.kept kp2) (I1.hok.kept kp2) hba fun b z => by simp at z
    have young : ∀ b, s1.heap.objs.size ≤ b → H b = none ∧ b ≠ s.heap.objs.size ∧ b ∉ frs outer ∧ s.heap.objs.size ≤ b ∧ ∀ y c, (cellsFrom (s.heap.objs.size + 1) scope.names []).lookup y = some c → c ≠ b := fun b hb => by
      refine ⟨I1.hok.fresh hb, Nat.ne_of_gt (Nat.lt_of_lt_of_le lt1 hb), I1.nofs hb, Nat.le_trans sz1 hb, fun y c e z => ?_⟩
      obtain ⟨v, ob, ho, _⟩ := I1.cell y c e
      have := Heap.lt_size ho
      rw [z] at this
      exact absurd (Nat.lt_of_lt_of_le this hb) (Nat.lt_irrefl _)
    have facts : ∀ b ∈ Y.S :: Y.GA, H b = none ∧ b ≠ s.heap.objs.size ∧ b ∉ frs outer ∧ base.get? b = none ∧ ∀ y c, (cellsFrom (s.heap.objs.size + 1) scope.names []).lookup y = some c → c ≠ b := fun b hb => by
      rcases hex b hb with z | ⟨z1, z2, z3, z4⟩
      · obtain ⟨y1, y2, y3, y4, y5⟩ := young b z
        exact ⟨y1, y2, y3, Heap.get?_none_of_le (Nat.le_trans e0.bsz y4), y5⟩
      · refine ⟨z2, Nat.ne_of_lt z1, z3, z4, fun y c e q => ?_⟩
        have above : s.heap.objs.size ≤ c := Nat.le_of_lt (x.above y c (PySem.mem_of_lookup e))
        rw [q] at above
        exact absurd (Nat.lt_of_lt_of_le z1 above) (Nat.lt_irrefl _)
    have IB : Inv (bCx Y.prog Y.w K mg base N qual scope f cdv Y.A outer s H (Y.S :: Y.GA)) [] (start N vs) H s2 := Inv.toB I2 fun b hb => by
      obtain ⟨_, y2, y3, y4, y5⟩ := facts b hb
      exact ⟨y2, y5, y4, y3⟩
    have B : BI (bCx Y.prog Y.w K mg base N qual scope f cdv Y.A outer s H (Y.S :: Y.GA)) Y [] (start N vs) H s2 := BI.of IB (fun b hb => by
      obtain ⟨y1, y2, y3, y4, y5⟩ := facts b hb
      exact ⟨y1, y2, y3, .inl hb, y5, fun p hp => absurd (show p ∈ ([] : List (Addr × Obj)) from hp) (by simp)⟩) hobj hlst hgz
    have T : At (bCx Y.prog Y.w K mg base N qual scope f cdv Y.A outer s H (Y.S :: Y.GA)) Y (.func body (envOfC qual scope s.heap.objs.size f cdv)) [] := ⟨rfl, rfl, over_func, rfl, rfl, fun _ _ z => z⟩
    have hfin : ∀ {σ' : L2.St} {H' : Hp} {s' : Shared}, BI (bCx Y.prog Y.w K mg base N qual scope f cdv Y.A outer s H (Y.S :: Y.GA)) Y [] σ' H' s' → Evl.Ex H H' → FinE Y.prog Y.w outer H s (Y.S :: Y.GA) s' H' := fun {σ' H' s'} b e =>
      ⟨b.inv.os, b.inv.bare, b.inv.base, b.inv.hok, e, fun a ha => ⟨(b.fp a ha).1, b.obj' a ha⟩⟩
    intro p
    show Prod Y R _ ds H s2 s2 (do point; match ← (execs body (envOfC qual scope s.heap.objs.size f cdv)).onRaise (leaving (envOfC qual scope s.heap.objs.size f cdv)) with | .ret v => ret v | _ => ret .none) _ p []
    refine Prod.bindE (wpE_of (wpAny_point fun p' => ?_))
    rw [Sem.bind_eq_wrap', Sem.onRaise_eq_wrap, Sem.wrap_wrap]
    refine hbody Y.A outer s H vs ds (Y.S :: Y.GA) (hrw.deeper _) hsp Y _ s2 T B _ _ _ _ p' rfl fun σ' H' s' p2 b' e' => ?_
    exact Prod.ends (r := .ok (.ret .none)) (.inl rfl) (Still.refl Y s') (hfin b' e')
  exact main _ _ _ _ rfl rfl rfl fun h => Heap.get?_push_size _ rfl
end Lo
set_option maxHeartbeats 4000000
/-! Lo9: yield from a call of a generator def; a for loop over a range in a generator's body. -/
namespace Lo
open PySem PySem.Spec PyProof.Rows L2 GenW

section
variable {δ : Type} {X : Cx} {k : Nat} {f : Addr} {fd : FuncData} {ps : List Str} {sp : SpE δ} {R : Hp → V → δ → Prop} {dvs : List V} {dfs : List Value} {x : Str} {p pos : Pos} {e : Expr} {es : List Expr} {t : TA} {ds : List δ}
theorem run_gfnE {pins : List (Addr × Obj)} {σ : L2.St} {H : Hp} {s : Shared} {us : List Value} {vs : List V} {E1 : Value → Shared → Prop} (F : GFnE X.prog X.w X.K X.mg X.base k f fd ps sp R) (hr : Room k X.A) (hb : Binds X.K fd ps dfs) (hd : Vals dvs dfs)
    (I : Inv X pins σ H s) (r : Vals vs us) (h : sp (vs ++ dvs) H ds) : wpAny (model X.prog X.w) X.A (call (.ref f) us) (fun u s' => GMadeE X.prog X.w k X.stack X.base H s R ds u s') E1 s := by
  have r2 : Vals (vs ++ dvs) (us ++ dfs) := r.append hd
  have hl2 : (us ++ dfs).length = ps.length := by rw [← r2.length]; exact F.len _ _ _ h
  refine wpAny_call (codeAny_mono (F.run X.A X.stack s H ⟨us, []⟩ (us ++ dfs) (vs ++ dvs) ds hr I.env0 (hb s us I.kIn hl2) r2 h) fun r s' hq => ?_)
  cases r with
  | error e => exact False.elim hq
  | ok fl => cases fl <;> first | exact hq | exact False.elim hq
/-- what a generator call's expression gives -/
def GEv (X : Cx) (k : Nat) (e : Expr) (pins : List (Addr × Obj)) (σ : L2.St) (H : Hp) (R : Hp → V → δ → Prop) (ds : List δ) (s : Shared) : Prop :=
  wpAny (model X.prog X.w) X.A (eval e X.env) (fun u s' => ∃ H1 sc, Inv X pins σ H1 sc ∧ s.gens.size ≤ sc.gens.size ∧ Evl.Ex H H1 ∧ GMadeE X.prog X.w k X.stack X.base H1 sc R ds u s') X.xe s
theorem gev_call {pins : List (Addr × Obj)} {σ : L2.St} {H : Hp} {s : Shared} (F : GFnE X.prog X.w X.K X.mg X.base k f fd ps sp R) (hr : Room k X.A) (hg : Gl X x) (hm : X.mg x = some (.ref f)) (hk : PySem.W.keepIn X.K (.ref f) = true) (hb : Binds X.K fd ps dfs) (hd : Vals dvs dfs)
    (ha : PA X (e :: es) t) (I : Inv X pins σ H s) (h : t σ H fun vs H1 => Evl.Ex H H1 ∧ sp (vs ++ dvs) H1 ds) (hdb : (x == ("__debug__" : Str)) = false := by decide) (he : starEach (e :: es) X.env = (false, eval e X.env) :: starEach es X.env := by rfl) (hpl : (backTo pos (starEach es X.env)).any (·.1) = false := by rfl) :
    GEv X k (.Call (.Name x p) (e :: es) [] pos) pins σ H R ds s := by
  refine wpAny_Call_Name_kw (ld_glob I hg hm ?_ hdb)
  refine PySem.W.callWith_K (h₀ := X.base) I.ok.mod.kin hk (wpAny_gsz (n := s.gens.size) (Nat.le_refl _) (wpAny_mono (ha.run pos pins s σ H _ I h) (fun us s1 ⟨vs, H1, I1, r, q⟩ hsz => ⟨I1.kIn, ?_⟩) fun _ _ z _ => z)) he hpl
  exact thn (run_gfnE F hr hb hd I1 r q.2) fun u s' g => ⟨H1, s1, I1, hsz, q.1, g⟩
end

section
variable {δ : Type} {X : Cx} {Y : Gp} {ip : List (Addr × Obj)} {R : Hp → V → δ → Prop} {Fin : Shared → Hp → Prop} {ds : List δ} {Hb H : Hp} {s0 s : Shared} {c : Code} {p : Pos} {fs : List Frame} {σ : L2.St}
variable {K : Flow → Sem PySem.Fin} {J : Value → Sem PySem.Fin} {gd : Bool → Bool} {lv : List Value → List Value}
theorem Prod.yieldFromS {k : Nat} {e : Expr} {yp pos : Pos} {ds1 rest : List δ} (T : At X Y c fs) (hgd : gd false = false) (b : BI X Y ip σ H s) (hr : Room (k + 2) X.A)
    (hev : ∀ s, Inv X (ip ++ pinsAt (Y.S :: Y.GA) s.heap) σ H s → GEv X k e (ip ++ pinsAt (Y.S :: Y.GA) s.heap) σ H R ds1 s)
    (kk : ∀ H' s' p', BI X Y ip σ H' s' → Evl.Ex H H' → Prod Y R Fin rest H' s' s' (K .next) c p' fs) (hi : interactive X.env = false := by rfl) :
    Prod Y R Fin (ds1 ++ rest) H s s ((exec (.Expr (.YieldFrom e yp) pos) X.env).wrap K J gd lv) c p fs := by
  rw [exec_Expr X.env _ pos hi rfl]
  show Prod Y R Fin (ds1 ++ rest) H s s (.at pos fun _ => ((eval e X.env >>= fun v => (standAt yp >>= fun _ => yieldFrom X.env v)) >>= fun x => dropValue (.YieldFrom e yp) pos x).wrap K J gd lv) c p fs
  refine Prod.atPos ?_
  rw [Sem.bind_eq_wrap', Sem.bind_eq_wrap', Sem.wrap_wrap, Sem.wrap_wrap]
  refine Prod.wrapE ?_
  rw [T.over, ← T.prog, ← T.w]
  refine wpE_of (wpAny_mono (hev s b.inv) (fun v s1 ⟨H1, sc, I1, hgz, ex1, G⟩ p1 => ?_) fun e s' q => (T.xe e s' q).elim)
  obtain ⟨a, g, cg, rfl, ha1, ha2, hgen, hgs, hg0, hos, hbare, hlim, hkeep, run⟩ := G
  refine Prod.atPos ?_
  show Prod Y R Fin (ds1 ++ rest) H s s1 ((yieldFrom X.env (.ref a)).wrap _ J _ _) c yp fs
  unfold yieldFrom
  refine Prod.bindW (wpE_of (wpAny_typeOf hgen.typeIs ?_))
  intro p2
  rw [if_neg (show ¬ ((Value.type "generator" == Value.type "coroutine") = true) by decide)]
  refine Prod.bindW (wpE_holding (wpE_of ?_))
  rw [← T.prog, ← T.w]
  refine wpAny_pyIter_gen hgen ?_
  intro p3
  -- what stands at s1
  have at1 : ∀ a' ∈ Y.S :: Y.GA, ∃ o, s.heap.get? a' = some o ∧ sc.heap.get? a' = some o ∧ s1.heap.get? a' = some o ∧ ∀ v, o.data ≠ .cell v := fun a' ha' => by
    obtain ⟨o, ho, hn⟩ := b.obj' a' ha'
    have q := (I1.pin (a', o) (List.mem_append_right _ (List.mem_append_right _ (mem_pinsAt ha' ho)))).1
    exact ⟨o, ho, q, hkeep _ _ q, hn⟩
  have fp1 : ∀ a' ∈ Y.S :: Y.GA, FpOk X ip H1 a' := fun a' ha' => by
    obtain ⟨o, ho, _⟩ := b.obj' a' ha'
    exact ⟨(I1.pin (a', o) (List.mem_append_right _ (List.mem_append_right _ (mem_pinsAt ha' ho)))).2.1, (b.fp a' ha').2⟩
  have lt1 : ∀ a' ∈ Y.S :: Y.GA, a' < sc.heap.objs.size := fun a' ha' => let ⟨o, _, q, _⟩ := at1 a' ha'; Heap.lt_size q
  have neA : ∀ a' ∈ Y.S :: Y.GA, a' ≠ a := fun a' ha' => Nat.ne_of_lt (Nat.lt_of_lt_of_le (lt1 a' ha') ha1)
  have I1u : Inv X ip σ H1 sc := I1.unpinned
  have fpa : FpOk X ip H1 a := I1u.fpOk ha1 (I1u.hok.fresh ha1)
  have szs : ∀ j ∈ Y.GO, j < sc.gens.size := fun j hj => Nat.lt_of_lt_of_le (b.gz j hj) hgz
  have glt : g < s1.gens.size := (Array.getElem?_eq_some_iff.mp hgs).1
  have szs1 : ∀ j ∈ Y.GO, j < s1.gens.size := fun j hj => Nat.lt_trans (Nat.lt_of_lt_of_le (szs j hj) hg0) glt
  have st1 : Still Y s s1 := ⟨hos.trans (I1.os.trans b.inv.os.symm), by omega, fun a' ha' => let ⟨o, q1, _, q2, _⟩ := at1 a' ha'; q2.trans q1.symm⟩
  have hbase : ∀ b', b' ∈ X.ex ∨ X.s_0.heap.objs.size ≤ b' → X.base.get? b' = none := fun b' hb' => by
    rcases hb' with z | z
    · cases q : X.base.get? b' with
      | none => rfl
      | some o => exact absurd z (I1.ok.noex b' o q)
    · exact Heap.get?_none_of_le (Nat.le_trans I1.ok.bsz z)
  refine Prod.rebase ex1 st1 ?_
  show Prod Y R Fin (ds1 ++ rest) H1 s1 s1 (.call (yfCode a) none (gd false) (lv []) _) c p3 fs
  refine Prod.call ?_
  have hov : ∀ kr, Y.A.over (yfCode a) (.ret kr none (gd false) (lv []) c p3 [] :: fs) = X.A.in1 := fun kr => by
    rw [over_under, T.over, Around.under_plainId L2.plain_yf]
  have hcalm : X.A.handled = none := hr.hd
  have hnC : cStatics < X.base.objs.size := let ⟨_, hn, _⟩ := I1.ok.mod.nolimit; hn.lt
  have hCb : ∀ a', X.base.get? a' = none → cStatics ≠ a' := fun a' q z => by
    obtain ⟨_, ⟨o, _, _, ho, _⟩, _⟩ := I1.ok.mod.nolimit
    rw [← z, ho] at q
    cases q
  refine prod_yf (FinI := FinE X.prog X.w X.stack H1 sc (Y.S :: a :: Y.GA)) ?_ ?_ ?_ ?_ (fun z => absurd (szs g z) (Nat.not_lt.mpr hg0)) (fun z => neA a (List.mem_cons_of_mem _ z) rfl) (fun z => neA Y.S List.mem_cons_self z.symm)
    ⟨hCb a (hbase a fpa.2.2.2.1), hCb _ (hbase _ (fp1 Y.S List.mem_cons_self).2.2.2.1), fun z => hCb _ (hbase _ (fp1 _ (List.mem_cons_of_mem _ z)).2.2.2.1) rfl⟩ (fun s' H' p' hF h' hk2 hgz2 hlst hobj => ?_)
    ds1 H1 s1 (.fresh cg) p3 (GObj.of hgen) ?_ (fun a' ha' => let ⟨o, _, _, q, _⟩ := at1 a' (List.mem_cons_of_mem _ ha'); ⟨o, q⟩) hgs szs1 hlim ?_
  · exact (congrArg Around.handled (hov _)).trans hcalm
  · rw [show (Y.A.over (yfCode a) _) = X.A.in1 from hov _]
    exact hr.depth
  · show (splitAtGen fs).map _ = none
    rw [T.split]; rfl
  · show (gd false || fs.any Frame.guarded) = false
    rw [hgd, T.guard]; rfl
  · -- the inner one has ended
    obtain ⟨f1, f2, f3, f4, ex2, f5⟩ := hF
    have un2 : Un (frs X.stack) (Y.S :: a :: Y.GA) H1 H' sc.heap h' := f3.trans (Un.kept hk2)
    have memI : ∀ a' ∈ Y.S :: Y.GA, a' ∈ Y.S :: a :: Y.GA := fun a' ha' => (List.mem_cons.mp ha').elim (fun z => z ▸ List.mem_cons_self) fun z => List.mem_cons_of_mem _ (List.mem_cons_of_mem _ z)
    have I2 : Inv X ip σ H' { s'.setGen g .finished with heap := h' } := I1u.call' (s' := { s'.setGen g .finished with heap := h' }) (ch := Y.S :: a :: Y.GA) f1 un2 (f4.kept hk2) (allBare_setGen (s := s') f2 rfl) fun b' hb' => by
      have fpb : FpOk X ip H1 b' := by
        rcases List.mem_cons.mp hb' with z | z
        · exact z ▸ fp1 _ List.mem_cons_self
        · rcases List.mem_cons.mp z with z | z
          · exact z ▸ fpa
          · exact fp1 _ (List.mem_cons_of_mem _ z)
      exact ⟨fpb.2.2.2.1, fpb.2.1, fpb.2.2.2.2.1, fpb.2.2.2.2.2⟩
    have B2 : BI X Y ip σ H' { s'.setGen g .finished with heap := h' } := BI.of I2 (fun a' ha' => ⟨(f5 a' (memI a' ha')).1, (fp1 a' ha').2⟩) (fun a' ha' => by
      obtain ⟨o, q1, q2⟩ := (f5 a' (memI a' (List.mem_cons_of_mem _ ha'))).2
      exact ⟨o, hk2 _ _ q1, q2⟩) hlst fun j hj => by
        show j < (s'.setGen g .finished).gens.size
        rw [GenW.setGen_size]
        exact hgz2 j hj
    refine Prod.leaf (r := .ok (.ret .none)) ?_
    exact kk H' _ p3 B2 (ex1.trans ex2)
  · obtain ⟨acc, cc, q⟩ := b.lst
    exact ⟨acc, cc, (st1.at_ _ List.mem_cons_self).trans q⟩
  · show ProdG (Y.inner _ a g) R _ ds1 H1 (s1.setGen g .running) (.fresh cg)
    refine run (Y.inner _ a g) (s1.setGen g .running) T.prog.symm T.w.symm rfl ?_ ?_ (fun _ _ z => z) hos (allBare_setGen hbare rfl) (fun b' hb' => ?_) (fun b' hb' => ?_) ?_ fun j hj => ?_
    · show Room k (Y.A.over (yfCode a) _).in1
      rw [hov]
      exact hr.in1.in1
    · show (Y.A.over (yfCode a) _).in1.frames = _
      rw [hov]
      exact I1.ok.frames
    · rcases List.mem_cons.mp hb' with z | z
      · right
        have m0 : b' ∈ Y.S :: Y.GA := z ▸ List.mem_cons_self
        have q := fp1 b' m0
        refine ⟨lt1 b' m0, q.1, fun hm => ?_, hbase b' q.2.2.2.1⟩
        rcases List.mem_cons.mp (I1u.stkSub b' hm) with y | y
        · exact q.2.1 y
        · exact q.2.2.1 y
      · rcases List.mem_cons.mp z with z | z
        · exact .inl (Nat.le_of_eq z.symm)
        · right
          have m0 : b' ∈ Y.S :: Y.GA := List.mem_cons_of_mem _ z
          have q := fp1 b' m0
          refine ⟨lt1 b' m0, q.1, fun hm => ?_, hbase b' q.2.2.2.1⟩
          rcases List.mem_cons.mp (I1u.stkSub b' hm) with y | y
          · exact q.2.1 y
          · exact q.2.2.1 y
    · rcases List.mem_cons.mp hb' with z | z
      · subst z
        obtain ⟨o, nm, qn, ho, hc, hd, _⟩ := hgen
        exact ⟨o, ho, fun v q => by rw [hd] at q; cases q⟩
      · obtain ⟨o, _, _, q, hn⟩ := at1 b' (List.mem_cons_of_mem _ z)
        exact ⟨o, q, hn⟩
    · obtain ⟨acc, cc, q⟩ := b.lst
      exact ⟨acc, cc, (st1.at_ _ List.mem_cons_self).trans q⟩
    · show j < (s1.setGen g .running).gens.size
      rw [GenW.setGen_size]
      rcases List.mem_cons.mp hj with z | z
      · exact z ▸ glt
      · exact szs1 j z
end
end Lo
set_option maxHeartbeats 4000000
/-! Lo10: a for loop over a range in a generator's body. -/
namespace Lo
open PySem PySem.Spec PyProof.Rows L2 GenW

section
variable {δ : Type} {X : Cx} {Y : Gp} {ip : List (Addr × Obj)} {R : Hp → V → δ → Prop} {Fin : Shared → Hp → Prop} {H : Hp} {s : Shared} {c : Code} {p : Pos} {fs : List Frame} {σ : L2.St}
variable {K : Flow → Sem PySem.Fin} {J : Value → Sem PySem.Fin} {gd : Bool → Bool} {lv : List Value → List Value}
theorem fpOk_more {pins : List (Addr × Obj)} {b : Addr} {l : List Addr} {h : Heap} (x : FpOk X pins H b) (hn : b ∉ l) : FpOk X (pins ++ pinsAt l h) H b :=
  ⟨x.1, x.2.1, x.2.2.1, x.2.2.2.1, x.2.2.2.2.1, fun p hp z => by
    rcases List.mem_append.mp hp with q | q
    · exact x.2.2.2.2.2 p (List.mem_append_left _ q) z
    · rcases List.mem_append.mp q with q | q
      · exact x.2.2.2.2.2 p (List.mem_append_right _ q) z
      · exact hn (z ▸ (of_pinsAt q).1)⟩
theorem fpOk_less {pins pl : List (Addr × Obj)} {b : Addr} (x : FpOk X (pins ++ pl) H b) : FpOk X pins H b :=
  ⟨x.1, x.2.1, x.2.2.1, x.2.2.2.1, x.2.2.2.2.1, fun p hp z => by
    rcases List.mem_append.mp hp with q | q
    · exact x.2.2.2.2.2 p (List.mem_append_left _ q) z
    · exact x.2.2.2.2.2 p (List.mem_append_right _ (List.mem_append_left _ q)) z⟩
theorem fpOk_at {pins pl : List (Addr × Obj)} {b : Addr} {l : List Addr} {h : Heap} {o : Obj} (x : FpOk X (pins ++ pinsAt l h) H b) (hl : ∀ a ∈ l, ∃ o, h.get? a = some o) : b ∉ l := fun z => by
  obtain ⟨o, ho⟩ := hl b z
  exact x.2.2.2.2.2 (b, o) (List.mem_append_right _ (List.mem_append_right _ (mem_pinsAt z ho))) rfl
/-- more pins of one's own -/
theorem BI.pin (b : BI X Y ip σ H s) {fp : List Addr} (hf : ∀ a ∈ fp, FpOk X ip H a ∧ a ∉ Y.S :: Y.GA) (ho : ∀ a ∈ fp, ∃ o, s.heap.get? a = some o ∧ ∀ v, o.data ≠ .cell v) : BI X Y (ip ++ pinsAt fp s.heap) σ H s :=
  BI.of (b.free.pinned (fun a ha => (hf a ha).1) ho) (fun a ha => fpOk_more (b.fp a ha) fun z => (hf a z).2 ha) b.obj b.lst b.gz
theorem BI.unpin {pl : List (Addr × Obj)} (b : BI X Y (ip ++ pl) σ H s) : BI X Y ip σ H s :=
  BI.of b.free.unpinned (fun a ha => fpOk_less (b.fp a ha)) b.obj b.lst b.gz

/-- the loop's code over the frame that it came from -/
theorem At.loop {c' : Code} {k : Result → Sem PySem.Fin} {l kp : List Value} (T : At X Y c fs) (hgd : gd false = false) (hw : c'.weight = 0) (hu : c'.cUnits = 0) : At X Y c' (.ret k none (gd false) l c p kp :: fs) where
  prog := T.prog
  w := T.w
  over := (over_loop hw hu).trans T.over
  split := by
    show (splitAtGen fs).map _ = none
    rw [T.split]; rfl
  guard := by
    show (gd false || fs.any Frame.guarded) = false
    rw [hgd, T.guard]; rfl
  xe := T.xe

/-- for x in range(n): .. ; outs i: what the i-th turn hands out -/
theorem Prod.forRange {tg iter : Expr} {body : List Stmt} {pos : Pos} {wi : TI} {g : TG} {n : Nat} {lo : Int} {outs : Nat → List δ} {rest : List δ} {Sg : L2.St → Prop} {Sb : Nat → L2.St → Prop} (T : At X Y c fs) (hgd : gd false = false) (hc : X.calm = true) (b : BI X Y ip σ H s)
    (hi : PI X tg iter wi) (hg : PG X tg g) (hwi : wi σ H fun J H1 => J = Itr lo n ∧ Evl.Ex H H1) (hσ : Sg σ)
    (hset : ∀ i σ H Q, i < n → Sg σ → (∀ σ', Sb i σ' → Q σ' H) → g (.int (lo + (i : Int))) σ H Q)
    (turn : ∀ (i : Nat), i < n → ∀ (ip' : List (Addr × Obj)) (c' : Code) (fs' : List Frame) (K' : Flow → Sem PySem.Fin) (J' : Value → Sem PySem.Fin) (gd' : Bool → Bool) (lv' : List Value → List Value) (rest' : List δ) (σ1 : L2.St) (H1 : Hp) (s1 : Shared) (p1 : Pos),
      At X Y c' fs' → gd' false = false → BI X Y ip' σ1 H1 s1 → Sb i σ1 → Evl.Ex H H1 →
      (∀ σ2 H2 s2 p2, BI X Y ip' σ2 H2 s2 → Sg σ2 → Evl.Ex H1 H2 → Prod Y R Fin rest' H2 s2 s2 (K' .next) c' p2 fs') → Prod Y R Fin (outs i ++ rest') H1 s1 s1 ((execs body X.env).wrap K' J' gd' lv') c' p1 fs')
    (kk : ∀ σ2 H2 s2 p2, BI X Y ip σ2 H2 s2 → Sg σ2 → Evl.Ex H H2 → Prod Y R Fin rest H2 s2 s2 (K .next) c p2 fs) (hs : ∀ x, foldedSetIterable iter X.env x = pure x := by intro _; rfl) :
    Prod Y R Fin ((List.range n).flatMap outs ++ rest) H s s ((exec (.For tg iter body [] pos) X.env).wrap K J gd lv) c p fs := by
  rw [exec_For]
  refine Prod.bindW (wpE_standAt fun p1 => ?_)
  refine Prod.bindW ?_
  rw [T.over, ← T.prog, ← T.w]
  refine wpE_of (wpAny_gsz (n := s.gens.size) (Nat.le_refl _) (wpAny_mono (hi.run _ s σ H _ b.inv hwi) (fun v s1 hv hsz1 p2 => ?_) fun e s' q _ => (T.xe e s' q).elim))
  refine Prod.bindW (wpE_of_eq (hs v) fun p2' => ?_)
  refine Prod.bindW (wpE_standAt fun p3 => ?_)
  refine Prod.bindW (wpE_holding ?_)
  rw [T.over, ← T.prog, ← T.w]
  refine wpE_of (wpAny_gsz (n := s1.gens.size) (Nat.le_refl _) (wpAny_mono hv (fun itv s2 h2 hsz2 p4 => ?_) fun e s' q _ => (T.xe e s' q).elim))
  obtain ⟨it, fp, tn, J1, H2, e, I2, TT, st2, f2, eJ, ex2⟩ := h2
  subst e eJ
  obtain ⟨b2, z2⟩ := b.step I2 (Nat.le_trans hsz1 hsz2)
  have f2' : ∀ a ∈ fp, FpOk X ip H2 a ∧ a ∉ Y.S :: Y.GA := fun a ha => ⟨fpOk_less (f2 a ha), fpOk_at (o := default) (pl := []) (f2 a ha) fun x hx => let ⟨o, q, _⟩ := b.obj' x hx; ⟨o, q⟩⟩
  refine Prod.rebase ex2 z2 ?_
  unfold runOwn
  rw [Sem.onRaise_eq_wrap, Sem.wrap_wrap]
  show Prod Y R Fin _ H2 s2 s2 (.call (.forLoop tg (.ref it) body [] X.env) none (gd false) (lv []) _) c p4 fs
  refine Prod.call ?_
  have loop : ∀ (kr : Result → Sem PySem.Fin), kr (.ok .next) = K .next → ∀ (m i : Nat), i + m = n → ∀ (σ3 : L2.St) (H3 : Hp) (s3 : Shared) (p5 : Pos), BI X Y ip σ3 H3 s3 → Sg σ3 → Evl.Ex H H3 → (∀ a ∈ fp, H3 a = none) → tn i s3.heap →
      Prod Y R Fin ((List.range' i m).flatMap outs ++ rest) H3 s3 s3 (denote table (.forLoop tg (.ref it) body [] X.env)) (.forLoop tg (.ref it) body [] X.env) p5 (.ret kr none (gd false) (lv []) c p4 [] :: fs) := by
    intro kr hkr m
    have TA := At.loop (gd := gd) (c' := .forLoop tg (.ref it) body [] X.env) (k := kr) (l := lv []) (kp := []) (p := p4) T hgd rfl rfl
    induction m with
    | zero =>
      intro i hin σ3 H3 s3 p5 b3 hS3 ex3 fr3 st3
      have fp3 : ∀ a ∈ fp, FpOk X ip H3 a ∧ a ∉ Y.S :: Y.GA := fun a ha => ⟨⟨fr3 a ha, (f2' a ha).1.2⟩, (f2' a ha).2⟩
      show Prod Y R Fin rest H3 s3 s3 ((forTurn tg (.ref it) body [] X.env).onRaise (fun x => do noteFrame x X.env; theTreesLotGoes x)) _ p5 _
      rw [Sem.onRaise_eq_wrap]
      simp only [forTurn]
      refine Prod.bindW (wpE_standAt fun p6 => ?_)
      rw [Sem.bind_eq_wrap', Sem.onRaise_eq_wrap, Sem.wrap_wrap, Sem.wrap_wrap]
      refine Prod.quiet TA b3 (Still.refl Y s3) (Qm := fun r σ' H' => r = none ∧ σ' = σ3 ∧ H' = H3) (wpAny_mono (TT.done X rfl rfl rfl hc i _ s3 σ3 H3 X.xe b3.inv (fun a ha => fpOk_more (fp3 a ha).1 (fp3 a ha).2) st3 (show n ≤ i by omega)) (fun r s4 ⟨hr, I4⟩ => ⟨σ3, H3, I4, hr, rfl, rfl⟩) fun _ _ q => q) fun r σ4 H4 s4 p7 b4 z4 ⟨e1, e2, e3⟩ => ?_
      subst e1 e2 e3
      refine Prod.rebase (Evl.Ex.refl _) z4 ?_
      refine Prod.again (c' := .block [] X.env) rfl ?_
      show Prod Y R Fin rest H4 s4 s4 (do return PySem.Fin.done (← (execs [] X.env).onRaise (fun x => do noteFrame x X.env; theTreesLotGoes x))) _ p7 _
      refine Prod.leaf (r := .ok .next) ?_
      rw [hkr]
      exact kk σ4 H4 s4 p4 b4 hS3 ex3
    | succ m ih =>
      intro i hin σ3 H3 s3 p5 b3 hS3 ex3 fr3 st3
      have fp3 : ∀ a ∈ fp, FpOk X ip H3 a ∧ a ∉ Y.S :: Y.GA := fun a ha => ⟨⟨fr3 a ha, (f2' a ha).1.2⟩, (f2' a ha).2⟩
      have hlt : i < n := by omega
      rw [List.range'_succ, List.flatMap_cons, List.append_assoc]
      show Prod Y R Fin _ H3 s3 s3 ((forTurn tg (.ref it) body [] X.env).onRaise (fun x => do noteFrame x X.env; theTreesLotGoes x)) _ p5 _
      rw [Sem.onRaise_eq_wrap]
      simp only [forTurn]
      refine Prod.bindW (wpE_standAt fun p6 => ?_)
      rw [Sem.bind_eq_wrap', Sem.onRaise_eq_wrap, Sem.wrap_wrap, Sem.wrap_wrap]
      refine Prod.wrapE ?_
      rw [TA.over, ← T.prog, ← T.w]
      refine wpE_of (wpAny_gsz (n := s3.gens.size) (Nat.le_refl _) (wpAny_mono (TT.item X rfl rfl rfl hc i _ s3 σ3 H3 X.xe b3.inv (fun a ha => fpOk_more (fp3 a ha).1 (fp3 a ha).2) st3 hlt) (fun r s4 ⟨u, hr, h4⟩ hsz4 p7 => ?_) fun e s' q _ => (T.xe e s' q).elim))
      subst hr
      refine Prod.bindW ?_
      rw [TA.over, ← T.prog, ← T.w]
      refine wpE_of (wpAny_gsz (n := s4.gens.size) (Nat.le_refl _) (wpAny_mono h4 (fun _ s5 ⟨x, H5, I5, r5, y5, st5, fr5⟩ hsz5 p8 => ?_) fun e s' q _ => (T.xe e s' q).elim))
      obtain ⟨e5, ex⟩ := y5
      subst e5 ex
      obtain ⟨b5, z5⟩ := b3.step I5 (Nat.le_trans hsz4 hsz5)
      refine Prod.rebase (Evl.Ex.refl _) z5 ?_
      have fp5 : ∀ a ∈ fp, FpOk X ip H5 a ∧ a ∉ Y.S :: Y.GA := fp3
      have b5' := b5.pin fp5 (TT.obj _ _ st5)
      refine Prod.quietB TA b5' (Still.refl Y s5) (Qm := fun _ σ' H' => Sb i σ' ∧ H' = H5) (wpAny_mono (hg.run _ s5 σ3 H5 _ u (fun σ' H' => Sb i σ' ∧ H' = H5) b5'.inv r5 (hset i σ3 H5 _ hlt hS3 fun σ' q => ⟨q, rfl⟩)) (fun _ s6 ⟨σ6, H6, I6, q6⟩ => ⟨σ6, H6, I6, q6⟩) fun _ _ q => q) fun _ σ6 H6 s6 p9 b6 z6 ⟨q6, e6⟩ => ?_
      subst e6
      refine Prod.rebase (Evl.Ex.refl _) z6 ?_
      rw [Sem.bind_eq_wrap', Sem.wrap_wrap]
      refine turn i hlt _ _ _ _ _ _ _ _ σ6 H6 s6 p9 TA rfl b6 q6 ex3 fun σ7 H7 s7 p10 b7 hS7 ex7 => ?_
      have pins7 : ∀ a ∈ fp, ∀ o, s5.heap.get? a = some o → s7.heap.get? a = some o ∧ H7 a = none := fun a ha o e => by
        have q := b7.free.pin (a, o) (List.mem_append_right _ (List.mem_append_right _ (mem_pinsAt ha e)))
        exact ⟨q.1, q.2.1⟩
      exact Prod.again (c' := .forLoop tg (.ref it) body [] X.env) rfl (ih (i + 1) (by omega) σ7 H7 s7 p10 b7.unpin hS7 (ex3.trans ex7) (fun a ha => by
        obtain ⟨o, e, _⟩ := TT.obj _ _ st5 a ha
        exact (pins7 a ha o e).2) (TT.keep _ _ _ st5 fun a ha o e => (pins7 a ha o e).1))
  rw [List.range_eq_range']
  refine loop _ ?_ n 0 (Nat.zero_add n) σ H2 s2 p4 b2 hσ ex2 (fun a ha => (f2 a ha).1) st2
  rfl
end
end Lo
/-! Ma1: lists, plainly. -/
namespace Ma
theorem nodup_len {α : Type} [DecidableEq α] : ∀ {xs us : List α}, xs.Nodup → (∀ x ∈ xs, x ∈ us) → xs.length ≤ us.length
  | [], us, _, _ => Nat.zero_le _
  | x :: xs, us, hn, hs => by
    obtain ⟨h1, h2⟩ := List.nodup_cons.mp hn
    have hx := hs x List.mem_cons_self
    have h3 : xs.length ≤ (us.erase x).length := nodup_len h2 fun y hy => by
      have hne : y ≠ x := fun e => h1 (e ▸ hy)
      exact (List.mem_erase_of_ne hne).mpr (hs y (List.mem_cons_of_mem _ hy))
    rw [List.length_erase_of_mem hx] at h3
    have := List.length_pos_of_mem hx
    rw [List.length_cons]
    omega
/-- all sublists -/
def subs {α : Type} : List α → List (List α)
  | [] => [[]]
  | x :: xs => subs xs ++ (subs xs).map (x :: ·)
theorem subs_length {α : Type} : ∀ xs : List α, (subs xs).length = 2 ^ xs.length
  | [] => rfl
  | x :: xs => by
    unfold subs
    rw [List.length_append, List.length_map, subs_length xs, List.length_cons, Nat.pow_succ]
    omega
theorem mem_subs {α : Type} {l xs : List α} (h : l.Sublist xs) : l ∈ subs xs := by
  induction h with
  | slnil => simp [subs]
  | cons a _ ih => unfold subs; exact List.mem_append_left _ ih
  | cons_cons a _ ih => unfold subs; exact List.mem_append_right _ (List.mem_map_of_mem ih)
end Ma
/-! Ma2: sums over colourings; by hues. -/
namespace Ma
/-! ### sums -/
theorem sum_add {α : Type} (f g : α → Nat) : ∀ l : List α, (l.map fun x => f x + g x).sum = (l.map f).sum + (l.map g).sum
  | [] => rfl
  | x :: l => by simp only [List.map_cons, List.sum_cons, sum_add f g l]; omega
theorem sum_cg {α : Type} {f g : α → Nat} : ∀ {l : List α}, (∀ x ∈ l, f x = g x) → (l.map f).sum = (l.map g).sum
  | [], _ => rfl
  | x :: l, h => by simp only [List.map_cons, List.sum_cons]; rw [h x List.mem_cons_self, sum_cg fun y hy => h y (List.mem_cons_of_mem _ hy)]
theorem sum_zero {α : Type} {f : α → Nat} {l : List α} (h : ∀ x ∈ l, f x = 0) : (l.map f).sum = 0 := by
  rw [sum_cg (g := fun _ => 0) h]
  induction l with
  | nil => rfl
  | cons a l ih => simp only [List.map_cons, List.sum_cons]; rw [ih fun x hx => h x (List.mem_cons_of_mem _ hx)]
theorem sum_app {α : Type} (f : α → Nat) (l m : List α) : ((l ++ m).map f).sum = (l.map f).sum + (m.map f).sum := by rw [List.map_append, List.sum_append]
theorem sum_fil {α : Type} (p : α → Bool) (f : α → Nat) : ∀ l : List α, ((l.filter p).map f).sum = (l.map fun x => if p x then f x else 0).sum
  | [] => rfl
  | x :: l => by
    rw [List.filter_cons]
    cases h : p x with
    | true => simp only [if_true, List.map_cons, List.sum_cons, h, sum_fil p f l]
    | false => simp [h, sum_fil p f l]
/-! ### all that may be laid -/
def set1 (g : Nat → Nat) (v c : Nat) : Nat → Nat := fun x => if x = v then c else g x
theorem set1_same (g : Nat → Nat) (v c : Nat) : set1 g v c v = c := if_pos rfl
theorem set1_ne (g : Nat → Nat) {v x : Nat} (c : Nat) (h : x ≠ v) : set1 g v c x = g x := if_neg h
theorem set1_comm (g : Nat → Nat) {v x : Nat} (c d : Nat) (h : x ≠ v) : set1 (set1 g x d) v c = set1 (set1 g v c) x d := by
  funext y
  unfold set1
  by_cases h1 : y = v
  · subst h1
    rw [if_pos rfl, if_neg (fun e => h e.symm), if_pos rfl]
  · rw [if_neg h1]
    by_cases h2 : y = x
    · rw [if_pos h2, if_pos h2]
    · rw [if_neg h2, if_neg h2, if_neg h1]
def SF (pal : List Nat) : List Nat → ((Nat → Nat) → Nat) → (Nat → Nat) → Nat
  | [], F, g => F g
  | v :: vs, F, g => (pal.map fun c => SF pal vs F (set1 g v c)).sum
theorem SF_congr2 {pal : List Nat} : ∀ {vs : List Nat} {F F' : (Nat → Nat) → Nat} {g g' : Nat → Nat}, (∀ h h' : Nat → Nat, (∀ x ∈ vs, h x = h' x ∧ h x ∈ pal) → (∀ x, x ∉ vs → h x = g x ∧ h' x = g' x) → F h = F' h') → SF pal vs F g = SF pal vs F' g'
  | [], F, F', g, g', hh => hh g g' (fun x hx => nomatch hx) fun x _ => ⟨rfl, rfl⟩
  | v :: vs, F, F', g, g', hh => by
    unfold SF
    refine sum_cg fun c hc => SF_congr2 fun h h' h1 h2 => hh h h' (fun x hx => ?_) fun x hx => ?_
    · by_cases hv : x ∈ vs
      · exact h1 x hv
      · have hxv : x = v := by
          rcases List.mem_cons.mp hx with e | e
          · exact e
          · exact (hv e).elim
        subst hxv
        obtain ⟨e1, e2⟩ := h2 x hv
        rw [set1_same] at e1 e2
        rw [e1, e2]
        exact ⟨rfl, hc⟩
    · obtain ⟨e1, e2⟩ := h2 x fun h => hx (List.mem_cons_of_mem _ h)
      rw [set1_ne _ _ fun e => hx (by rw [e]; exact List.mem_cons_self)] at e1 e2
      exact ⟨e1, e2⟩
theorem SF_congr {pal vs : List Nat} {F F' : (Nat → Nat) → Nat} {g : Nat → Nat} (h : ∀ g', (∀ x ∈ vs, g' x ∈ pal) → (∀ x, x ∉ vs → g' x = g x) → F g' = F' g') : SF pal vs F g = SF pal vs F' g :=
  SF_congr2 fun a b h1 h2 => by
    have : a = b := by
      funext x
      by_cases hx : x ∈ vs
      · exact (h1 x hx).1
      · rw [(h2 x hx).1, (h2 x hx).2]
    rw [← this]
    exact h a (fun x hx => (h1 x hx).2) fun x hx => (h2 x hx).1
theorem SF_zero {pal : List Nat} : ∀ {vs : List Nat} {g : Nat → Nat}, SF pal vs (fun _ => 0) g = 0
  | [], _ => rfl
  | v :: vs, g => by unfold SF; exact sum_zero fun c _ => SF_zero
theorem SF_add {pal : List Nat} {F F' : (Nat → Nat) → Nat} : ∀ {vs : List Nat} {g : Nat → Nat}, SF pal vs (fun g => F g + F' g) g = SF pal vs F g + SF pal vs F' g
  | [], _ => rfl
  | v :: vs, g => by unfold SF; rw [← sum_add]; exact sum_cg fun c _ => SF_add
theorem SF_sum {pal : List Nat} {α : Type} (F : α → (Nat → Nat) → Nat) {vs : List Nat} {g : Nat → Nat} : ∀ l : List α, SF pal vs (fun g => (l.map fun a => F a g).sum) g = (l.map fun a => SF pal vs (F a) g).sum
  | [] => SF_zero
  | a :: l => by
    simp only [List.map_cons, List.sum_cons]
    rw [SF_add, SF_sum F l]
theorem SF_app {pal : List Nat} {F : (Nat → Nat) → Nat} {r : List Nat} : ∀ {q : List Nat} {g : Nat → Nat}, SF pal (q ++ r) F g = SF pal q (fun g' => SF pal r F g') g
  | [], _ => rfl
  | v :: vs, g => by rw [List.cons_append]; unfold SF; exact sum_cg fun c _ => SF_app
theorem SF_set {pal : List Nat} {F : (Nat → Nat) → Nat} {v c : Nat} : ∀ {q : List Nat} {g : Nat → Nat}, v ∉ q → SF pal q (fun g' => F (set1 g' v c)) g = SF pal q F (set1 g v c)
  | [], _, _ => rfl
  | x :: q, g, h => by
    unfold SF
    refine sum_cg fun d _ => ?_
    rw [SF_set fun hq => h (List.mem_cons_of_mem _ hq), set1_comm g c d fun e : x = v => h (by rw [e]; exact List.mem_cons_self)]
theorem SF_ite {pal vs : List Nat} {F : (Nat → Nat) → Nat} {g : Nat → Nat} (b : Bool) : SF pal vs (fun g => if b then F g else 0) g = if b then SF pal vs F g else 0 := by
  cases b
  · exact SF_zero
  · rfl
/-! ### one hue: those that have it, those that haven't -/
def setAll (g : Nat → Nat) (p : List Nat) (c : Nat) : Nat → Nat := p.foldl (fun g v => set1 g v c) g
theorem setAll_snoc (g : Nat → Nat) (p : List Nat) (v c : Nat) : setAll g (p ++ [v]) c = set1 (setAll g p c) v c := by unfold setAll; rw [List.foldl_append]; rfl
theorem setAll_in {c : Nat} : ∀ {p : List Nat} {g : Nat → Nat} {x : Nat}, (x ∈ p ∨ g x = c) → setAll g p c x = c
  | [], g, x, h => by rcases h with h | h; cases h; exact h
  | v :: p, g, x, h => by
    show setAll (set1 g v c) p c x = c
    refine setAll_in ?_
    by_cases e : x = v
    · subst e; exact Or.inr (set1_same _ _ _)
    · rcases h with h | h
      · rcases List.mem_cons.mp h with h | h
        · exact (e h).elim
        · exact Or.inl h
      · exact Or.inr (by rw [set1_ne _ _ e]; exact h)
def SS : List Nat → (List Nat → List Nat → Nat) → List Nat → List Nat → Nat
  | [], G, p, q => G p q
  | v :: vs, G, p, q => SS vs G (p ++ [v]) q + SS vs G p (q ++ [v])
theorem SF_split {c : Nat} {pal : List Nat} {F : (Nat → Nat) → Nat} {g : Nat → Nat} : ∀ {left p q : List Nat}, (q ++ left).Nodup → SF pal q (fun g' => SF (c :: pal) left F g') (setAll g p c) = SS left (fun p q => SF pal q F (setAll g p c)) p q
  | [], p, q, _ => rfl
  | v :: vs, p, q, hn => by
    have e : (fun g' => SF (c :: pal) (v :: vs) F g') = fun g' => SF (c :: pal) vs F (set1 g' v c) + SF pal [v] (fun g' => SF (c :: pal) vs F g') g' := by
      funext g'
      rfl
    have hv : v ∉ q := fun h => (List.nodup_append.mp hn).2.2 v h v List.mem_cons_self rfl
    have hn1 : (q ++ vs).Nodup := hn.sublist (List.Sublist.append_left (List.sublist_cons_self v vs) q)
    rw [e, SF_add, SF_set (F := fun g' => SF (c :: pal) vs F g') hv, ← setAll_snoc, ← SF_app, SF_split hn1, SF_split (q := q ++ [v]) (by rw [List.append_assoc]; exact hn)]
    rfl
theorem SS_congr {G G' : List Nat → List Nat → Nat} : ∀ {left seen p q : List Nat}, (seen ++ left).Nodup → p = seen.filter (fun x => decide (x ∈ p)) → q = seen.filter (fun x => !decide (x ∈ p)) →
    (∀ p q, p = (seen ++ left).filter (fun x => decide (x ∈ p)) → q = (seen ++ left).filter (fun x => !decide (x ∈ p)) → G p q = G' p q) → SS left G p q = SS left G' p q
  | [], seen, p, q, hn, hp, hq, h => by
    rw [List.append_nil] at h
    exact h p q hp hq
  | v :: vs, seen, p, q, hn, hp, hq, h => by
    have e : seen ++ v :: vs = (seen ++ [v]) ++ vs := by rw [List.append_assoc]; rfl
    have hv : v ∉ seen := fun h => (List.nodup_append.mp hn).2.2 v h v List.mem_cons_self rfl
    have hvp : v ∉ p := fun h => hv (by rw [hp] at h; exact (List.mem_filter.mp h).1)
    rw [e] at hn h
    have mp : ∀ x ∈ seen, decide (x ∈ p ++ [v]) = decide (x ∈ p) := fun x hx => by
      have : x ≠ v := fun e => hv (e ▸ hx)
      simp [this]
    unfold SS
    rw [SS_congr (seen := seen ++ [v]) (p := p ++ [v]) (q := q) hn ?_ ?_ h, SS_congr (seen := seen ++ [v]) (p := p) (q := q ++ [v]) hn ?_ ?_ h]
    · rw [List.filter_append, ← hp]; simp [hvp]
    · rw [List.filter_append, ← hq]; simp [hvp]
    · rw [List.filter_append, List.filter_congr mp, ← hp]; simp
    · rw [List.filter_append, List.filter_congr fun x hx => by rw [mp x hx], ← hq]; simp
def S1 : List Nat → (List Nat → Nat) → List Nat → Nat
  | [], G, p => G p
  | v :: vs, G, p => S1 vs G (p ++ [v]) + S1 vs G p
theorem SS_one {G : List Nat → Nat} : ∀ {left p q : List Nat}, SS left (fun p _ => G p) p q = S1 left G p
  | [], _, _ => rfl
  | v :: vs, p, q => by unfold SS S1; rw [SS_one, SS_one]
/-! ### sets of places that lie apart -/
def indep (adj : Nat → Nat → Bool) (p : List Nat) : Bool := p.all fun x => p.all fun y => !adj x y
def freeA (adj : Nat → Nat → Bool) (p : Nat) (row : List Nat) : Bool := !(row.any fun o => adj p o)
def stepA (adj : Nat → Nat → Bool) (found : List (List Nat)) (p : Nat) : List (List Nat) := found ++ (found.filter (freeA adj p)).map fun row => row ++ [p]
def aptA (adj : Nat → Nat → Bool) (places : List Nat) : List (List Nat) := places.foldl (stepA adj) [[]]
structure Adj (adj : Nat → Nat → Bool) : Prop where
  symm : ∀ x y, adj x y = adj y x
  irr : ∀ x, adj x x = false
theorem indep_snoc {adj : Nat → Nat → Bool} (A : Adj adj) (p : List Nat) (v : Nat) : indep adj (p ++ [v]) = (indep adj p && freeA adj v p) := by
  rw [Bool.eq_iff_iff]
  simp only [indep, freeA, List.all_append, List.all_cons, List.all_nil, Bool.and_true, Bool.and_eq_true, List.all_eq_true, Bool.not_eq_true', A.irr, Bool.not_false, and_true, List.any_eq_false, Bool.not_eq_true]
  constructor
  · intro ⟨h1, h2⟩
    exact ⟨fun x hx y hy => (h1 x hx).1 y hy, fun y hy => h2 y hy⟩
  · intro ⟨h1, h2⟩
    exact ⟨fun x hx => ⟨fun y hy => h1 x hx y hy, by rw [A.symm]; exact h2 x hx⟩, fun y hy => h2 y hy⟩
theorem S1_dead {adj : Nat → Nat → Bool} (A : Adj adj) {G : List Nat → Nat} : ∀ {left p : List Nat}, indep adj p = false → S1 left (fun p => if indep adj p then G p else 0) p = 0
  | [], p, h => by unfold S1; simp only [h]; rfl
  | v :: vs, p, h => by
    unfold S1
    rw [S1_dead A h, S1_dead A (by rw [indep_snoc A, h]; rfl)]
theorem apt_fold {adj : Nat → Nat → Bool} (A : Adj adj) {G : List Nat → Nat} : ∀ {left : List Nat} {found : List (List Nat)}, (∀ p ∈ found, indep adj p = true) → ((left.foldl (stepA adj) found).map G).sum = (found.map (S1 left fun p => if indep adj p then G p else 0)).sum
  | [], found, h => sum_cg fun p hp => by unfold S1; simp only [h p hp]; rfl
  | v :: vs, found, h => by
    rw [List.foldl_cons, apt_fold A (found := stepA adj found v)]
    · unfold stepA
      rw [sum_app, List.map_map, sum_fil, ← sum_add]
      refine sum_cg fun p hp => ?_
      show _ = S1 vs _ (p ++ [v]) + S1 vs _ p
      rw [Nat.add_comm]
      congr 1
      cases e : freeA adj v p with
      | true => rfl
      | false => rw [S1_dead A (by rw [indep_snoc A, e, Bool.and_false])]; rfl
    · intro p hp
      unfold stepA at hp
      rcases List.mem_append.mp hp with hp | hp
      · exact h p hp
      · obtain ⟨r, hr, rfl⟩ := List.mem_map.mp hp
        rw [indep_snoc A, h r (List.mem_filter.mp hr).1, (List.mem_filter.mp hr).2]
        rfl
theorem apt_sum {adj : Nat → Nat → Bool} (A : Adj adj) {G : List Nat → Nat} (left : List Nat) : ((aptA adj left).map G).sum = SS left (fun p _ => if indep adj p then G p else 0) [] [] := by
  unfold aptA
  rw [apt_fold A (found := [[]]) (fun p hp => by simp at hp; subst hp; rfl), SS_one]
  simp
/-! ### colourings whose classes are as asked -/
def okP (adj : Nat → Nat → Bool) (L : List Nat) (h : Nat → Nat) : Bool := L.all fun x => L.all fun y => !(adj x y && h x == h y)
def clsP (cs : Nat → Bool) (pal L : List Nat) (h : Nat → Nat) : Bool := pal.all fun c => cs (L.filter fun x => h x == c).length
def lessA (left p : List Nat) : List Nat := left.filter fun x => !decide (x ∈ p)
def NF (adj : Nat → Nat → Bool) (cs : Nat → Bool) (pal L : List Nat) (g : Nat → Nat) : Nat := SF pal L (fun h => if okP adj L h && clsP cs pal L h then 1 else 0) g
theorem all_cg {α : Type} {p q : α → Bool} : ∀ {l : List α}, (∀ x ∈ l, p x = q x) → l.all p = l.all q
  | [], _ => rfl
  | x :: l, h => by rw [List.all_cons, List.all_cons, h x List.mem_cons_self, all_cg fun y hy => h y (List.mem_cons_of_mem _ hy)]
theorem NF_base {adj : Nat → Nat → Bool} {cs : Nat → Bool} {pal L : List Nat} {g g' : Nat → Nat} : NF adj cs pal L g = NF adj cs pal L g' := by
  refine SF_congr2 fun h h' h1 _ => ?_
  have e1 : okP adj L h = okP adj L h' := all_cg fun x hx => all_cg fun y hy => by rw [(h1 x hx).1, (h1 y hy).1]
  have e2 : clsP cs pal L h = clsP cs pal L h' := all_cg fun c _ => by
    rw [List.filter_congr fun x hx => by rw [(h1 x hx).1]]
  rw [e1, e2]
theorem okP_split {adj : Nat → Nat → Bool} (A : Adj adj) {c : Nat} {pal L p q : List Nat} {h : Nat → Nat} (hc : c ∉ pal) (hp : p = L.filter fun x => decide (x ∈ p)) (hq : q = L.filter fun x => !decide (x ∈ p)) (h1 : ∀ x ∈ p, h x = c) (h2 : ∀ x ∈ q, h x ∈ pal) :
    okP adj L h = (indep adj p && okP adj q h) := by
  have mp : ∀ x, x ∈ p ↔ x ∈ L ∧ x ∈ p := fun x => ⟨fun hx => ⟨by rw [hp] at hx; exact (List.mem_filter.mp hx).1, hx⟩, fun hx => hx.2⟩
  have mq : ∀ x, x ∈ q ↔ x ∈ L ∧ x ∉ p := fun x => by rw [hq, List.mem_filter]; simp
  rw [Bool.eq_iff_iff]
  simp only [okP, indep, Bool.and_eq_true, List.all_eq_true, Bool.not_eq_true', Bool.and_eq_false_iff, beq_eq_false_iff_ne]
  constructor
  · intro H
    refine ⟨fun x hx y hy => ?_, fun x hx y hy => H x ((mq x).mp hx).1 y ((mq y).mp hy).1⟩
    rcases H x ((mp x).mp hx).1 y ((mp y).mp hy).1 with e | e
    · exact e
    · exact (e ((h1 x hx).trans (h1 y hy).symm)).elim
  · intro ⟨H1, H2⟩ x hx y hy
    by_cases px : x ∈ p <;> by_cases py : y ∈ p
    · exact Or.inl (H1 x px y py)
    · exact Or.inr fun e => hc (by rw [← h1 x px, e]; exact h2 y ((mq y).mpr ⟨hy, py⟩))
    · exact Or.inr fun e => hc (by rw [← h1 y py, ← e]; exact h2 x ((mq x).mpr ⟨hx, px⟩))
    · exact H2 x ((mq x).mpr ⟨hx, px⟩) y ((mq y).mpr ⟨hy, py⟩)
theorem clsP_split {cs : Nat → Bool} {c : Nat} {pal L p q : List Nat} {h : Nat → Nat} (hc : c ∉ pal) (hp : p = L.filter fun x => decide (x ∈ p)) (hq : q = L.filter fun x => !decide (x ∈ p)) (h1 : ∀ x ∈ p, h x = c) (h2 : ∀ x ∈ q, h x ∈ pal) :
    clsP cs (c :: pal) L h = (cs p.length && clsP cs pal q h) := by
  have mp : ∀ x, x ∈ p ↔ x ∈ L ∧ x ∈ p := fun x => ⟨fun hx => ⟨by rw [hp] at hx; exact (List.mem_filter.mp hx).1, hx⟩, fun hx => hx.2⟩
  have mq : ∀ x, x ∈ q ↔ x ∈ L ∧ x ∉ p := fun x => by rw [hq, List.mem_filter]; simp
  unfold clsP
  rw [List.all_cons]
  congr 1
  · have : (L.filter fun x => h x == c) = p := by
      refine Eq.trans (List.filter_congr fun x hx => ?_) hp.symm
      rw [Bool.eq_iff_iff]
      simp only [beq_iff_eq, decide_eq_true_eq]
      refine ⟨fun he => Classical.byContradiction fun hx' => ?_, h1 x⟩
      exact hc (he ▸ h2 x ((mq x).mpr ⟨hx, hx'⟩))
    rw [this]
  · refine all_cg fun d hd => ?_
    have : (L.filter fun x => h x == d) = q.filter fun x => h x == d := by
      rw [hq, List.filter_filter]
      refine List.filter_congr fun x hx => ?_
      by_cases px : x ∈ p
      · have : h x ≠ d := fun e => hc (by rw [← h1 x px, e]; exact hd)
        simp [px, this]
      · simp [px]
    rw [this]
theorem NF_step {adj : Nat → Nat → Bool} (A : Adj adj) {cs : Nat → Bool} {c : Nat} {pal L : List Nat} {g : Nat → Nat} (hc : c ∉ pal) (hn : L.Nodup) :
    NF adj cs (c :: pal) L g = ((aptA adj L).map fun p => if cs p.length then NF adj cs pal (lessA L p) g else 0).sum := by
  rw [apt_sum A]
  unfold NF
  have h0 := SF_split (c := c) (pal := pal) (F := fun h => if okP adj L h && clsP cs (c :: pal) L h then 1 else 0) (g := g) (left := L) (p := []) (q := []) hn
  rw [show SF (c :: pal) L _ g = _ from h0]
  refine SS_congr (seen := []) hn rfl rfl fun p q hp hq => ?_
  rw [List.nil_append] at hp hq
  have e1 : SF pal q (fun h => if okP adj L h && clsP cs (c :: pal) L h then 1 else 0) (setAll g p c) = SF pal q (fun h => if indep adj p && cs p.length then (if okP adj q h && clsP cs pal q h then 1 else 0) else 0) (setAll g p c) := by
    refine SF_congr fun h h1 h2 => ?_
    have hpq : ∀ x ∈ p, h x = c := fun x hx => by
      rw [h2 x fun hq' => by rw [hq, List.mem_filter] at hq'; simp [hx] at hq']
      exact setAll_in (Or.inl hx)
    rw [okP_split A hc hp hq hpq h1, clsP_split hc hp hq hpq h1]
    cases indep adj p <;> cases cs p.length <;> simp
  rw [e1, SF_ite]
  have e2 := NF_base (adj := adj) (cs := cs) (pal := pal) (L := q) (g := setAll g p c) (g' := g)
  unfold NF at e2
  rw [e2, show lessA L p = q from hq.symm]
  cases indep adj p <;> cases cs p.length <;> rfl
theorem NF_nil {adj : Nat → Nat → Bool} {cs : Nat → Bool} {L : List Nat} {g : Nat → Nat} : NF adj cs [] L g = if L = [] then 1 else 0 := by
  cases L with
  | nil => rfl
  | cons v vs => rfl
end Ma
/-! Ma3: rows of hues; deletion and contraction. -/
namespace Ma
def SL (pal : List Nat) : Nat → (List Nat → Nat) → Nat
  | 0, F => F []
  | k + 1, F => (pal.map fun c => SL pal k fun r => F (c :: r)).sum
theorem SL_congr {pal : List Nat} : ∀ {k : Nat} {F F' : List Nat → Nat}, (∀ row : List Nat, row.length = k → (∀ c ∈ row, c ∈ pal) → F row = F' row) → SL pal k F = SL pal k F'
  | 0, F, F', h => h [] rfl fun _ h => nomatch h
  | k + 1, F, F', h => by
    unfold SL
    exact sum_cg fun c hc => SL_congr fun r hr hp => h (c :: r) (by rw [List.length_cons, hr]) fun d hd => by
      rcases List.mem_cons.mp hd with e | e
      · rw [e]; exact hc
      · exact hp d e
theorem SL_zero {pal : List Nat} : ∀ {k : Nat}, SL pal k (fun _ => 0) = 0
  | 0 => rfl
  | k + 1 => by unfold SL; exact sum_zero fun c _ => SL_zero
theorem SL_add {pal : List Nat} : ∀ {k : Nat} {F F' : List Nat → Nat}, SL pal k (fun r => F r + F' r) = SL pal k F + SL pal k F'
  | 0, _, _ => rfl
  | k + 1, F, F' => by unfold SL; rw [← sum_add]; exact sum_cg fun c _ => SL_add
theorem SL_sum {pal : List Nat} {α : Type} (F : α → List Nat → Nat) {k : Nat} : ∀ l : List α, SL pal k (fun r => (l.map fun a => F a r).sum) = (l.map fun a => SL pal k (F a)).sum
  | [] => SL_zero
  | a :: l => by
    simp only [List.map_cons, List.sum_cons]
    rw [SL_add, SL_sum F l]
theorem SL_one {h : Nat} : ∀ {k : Nat}, SL (List.range h) k (fun _ => 1) = h ^ k
  | 0 => rfl
  | k + 1 => by
    show ((List.range h).map fun _ => SL (List.range h) k fun _ => 1).sum = _
    rw [SL_one, List.map_const', List.sum_replicate_nat, List.length_range, Nat.pow_succ, Nat.mul_comm]
abbrev at0 (row : List Nat) (i : Nat) : Nat := row.getD i 0
def upds : List Nat → List Nat → (Nat → Nat) → Nat → Nat
  | v :: vs, c :: cs, g => upds vs cs (set1 g v c)
  | _, _, g => g
theorem SF_SL {pal : List Nat} {F : (Nat → Nat) → Nat} : ∀ {vs : List Nat} {g : Nat → Nat}, SF pal vs F g = SL pal vs.length fun row => F (upds vs row g)
  | [], g => rfl
  | v :: vs, g => by
    unfold SF
    rw [List.length_cons]
    unfold SL
    exact sum_cg fun c _ => SF_SL
theorem upds_out : ∀ {vs row : List Nat} {g : Nat → Nat} {x : Nat}, x ∉ vs → upds vs row g x = g x
  | [], _, g, x, _ => rfl
  | v :: vs, [], g, x, _ => rfl
  | v :: vs, c :: cs, g, x, h => by
    unfold upds
    rw [upds_out fun e => h (List.mem_cons_of_mem _ e), set1_ne _ _ fun e => h (by rw [e]; exact List.mem_cons_self)]
theorem upds_at : ∀ {row : List Nat} {s : Nat} {g : Nat → Nat} {i : Nat}, i < row.length → upds (List.range' s row.length) row g (s + i) = at0 row i
  | [], s, g, i, h => by simp at h
  | c :: cs, s, g, 0, h => by
    rw [List.length_cons, List.range'_succ]
    unfold upds
    rw [upds_out (by intro h; have := List.mem_range'_1.mp h; omega), Nat.add_zero, set1_same]
    rfl
  | c :: cs, s, g, i + 1, h => by
    rw [List.length_cons, List.range'_succ]
    unfold upds
    rw [show s + (i + 1) = (s + 1) + i by omega, upds_at (by simpa using h)]
    rfl
def okR (adj : Nat → Nat → Bool) (row : List Nat) : Bool := (List.range row.length).all fun i => (List.range row.length).all fun j => !(adj i j && at0 row i == at0 row j)
def clsR (cs : Nat → Bool) (pal row : List Nat) : Bool := pal.all fun c => cs (row.filter fun x => x == c).length
theorem map_at0 (row : List Nat) : (List.range row.length).map (at0 row) = row := by
  refine List.ext_getElem (by simp) fun i h1 h2 => ?_
  rw [List.getElem_map, List.getElem_range, at0, List.getD_eq_getElem?_getD, List.getElem?_eq_getElem h2]
  rfl
theorem NF_rows {adj : Nat → Nat → Bool} {cs : Nat → Bool} {pal : List Nat} {n : Nat} {g : Nat → Nat} : NF adj cs pal (List.range n) g = SL pal n fun row => if okR adj row && clsR cs pal row then 1 else 0 := by
  unfold NF
  rw [SF_SL, List.length_range]
  refine SL_congr fun row hr hp => ?_
  have ha : ∀ i, i ∈ List.range n → upds (List.range n) row g i = at0 row i := fun i hi => by
    have := upds_at (row := row) (s := 0) (g := g) (i := i) (by rw [hr]; exact List.mem_range.mp hi)
    rw [hr, Nat.zero_add, ← List.range_eq_range'] at this
    exact this
  have e1 : okP adj (List.range n) (upds (List.range n) row g) = okR adj row := by
    unfold okP okR
    rw [hr]
    exact all_cg fun x hx => all_cg fun y hy => by rw [ha x hx, ha y hy]
  have e2 : clsP cs pal (List.range n) (upds (List.range n) row g) = clsR cs pal row := by
    refine all_cg fun c _ => ?_
    rw [List.filter_congr fun x hx => by rw [ha x hx]]
    have : row.filter (fun x => x == c) = ((List.range n).filter fun x => at0 row x == c).map (at0 row) := by
      conv => lhs; rw [← map_at0 row, hr, List.filter_map]
      rfl
    rw [this, List.length_map]
  rw [e1, e2]
/-! ### the rows, one after the other -/
def freeR (adj : Nat → Nat → Bool) (row : List Nat) (c : Nat) : Bool := (List.range row.length).all fun o => !(adj row.length o && at0 row o == c)
def rowsR (adj : Nat → Nat → Bool) (pal : List Nat) : Nat → List Nat → List (List Nat)
  | 0, row => [row]
  | k + 1, row => (pal.filter (freeR adj row)).flatMap fun c => rowsR adj pal k (row ++ [c])
theorem at0_app {row r : List Nat} {i : Nat} (h : i < row.length) : at0 (row ++ r) i = at0 row i := by
  unfold at0
  rw [List.getD_eq_getElem?_getD, List.getD_eq_getElem?_getD, List.getElem?_append_left h]
theorem at0_snoc {row : List Nat} {c : Nat} : at0 (row ++ [c]) row.length = c := by
  unfold at0
  rw [List.getD_eq_getElem?_getD, List.getElem?_append_right (Nat.le_refl _), Nat.sub_self]
  rfl
theorem okR_iff {adj : Nat → Nat → Bool} {row : List Nat} : okR adj row = true ↔ ∀ i < row.length, ∀ j < row.length, adj i j = true → at0 row i ≠ at0 row j := by
  simp only [okR, List.all_eq_true, List.mem_range, Bool.not_eq_true', Bool.and_eq_false_iff, beq_eq_false_iff_ne]
  exact ⟨fun H i hi j hj e => (H i hi j hj).resolve_left (by rw [e]; exact Bool.noConfusion), fun H i hi j hj => by
    cases e : adj i j
    · exact Or.inl rfl
    · exact Or.inr (H i hi j hj e)⟩
theorem freeR_iff {adj : Nat → Nat → Bool} {row : List Nat} {c : Nat} : freeR adj row c = true ↔ ∀ o < row.length, adj row.length o = true → at0 row o ≠ c := by
  simp only [freeR, List.all_eq_true, List.mem_range, Bool.not_eq_true', Bool.and_eq_false_iff, beq_eq_false_iff_ne]
  exact ⟨fun H i hi e => (H i hi).resolve_left (by rw [e]; exact Bool.noConfusion), fun H i hi => by
    cases e : adj row.length i
    · exact Or.inl rfl
    · exact Or.inr (H i hi e)⟩
theorem okR_app {adj : Nat → Nat → Bool} {row r : List Nat} (h : okR adj (row ++ r) = true) : okR adj row = true := by
  rw [okR_iff] at h ⊢
  intro i hi j hj e
  have := h i (by rw [List.length_append]; omega) j (by rw [List.length_append]; omega) e
  rwa [at0_app hi, at0_app hj] at this
theorem okR_snoc {adj : Nat → Nat → Bool} (A : Adj adj) {row : List Nat} {c : Nat} : okR adj (row ++ [c]) = (okR adj row && freeR adj row c) := by
  rw [Bool.eq_iff_iff, Bool.and_eq_true]
  constructor
  · intro h
    refine ⟨okR_app h, ?_⟩
    rw [okR_iff] at h
    rw [freeR_iff]
    intro o ho e
    have := h row.length (by simp) o (by rw [List.length_append]; omega) e
    rw [at0_snoc, at0_app ho] at this
    exact fun e => this e.symm
  · intro ⟨h1, h2⟩
    rw [okR_iff] at h1 ⊢
    rw [freeR_iff] at h2
    have hl : (row ++ [c]).length = row.length + 1 := by simp
    intro i hi j hj e
    rw [hl] at hi hj
    by_cases ei : i = row.length <;> by_cases ej : j = row.length
    · rw [ei, ej, A.irr] at e; cases e
    · have hj' : j < row.length := by omega
      rw [ei] at e ⊢
      rw [at0_snoc, at0_app hj']
      exact fun e' => h2 j hj' e e'.symm
    · have hi' : i < row.length := by omega
      rw [ej] at e ⊢
      rw [at0_snoc, at0_app hi']
      exact h2 i hi' (by rw [A.symm]; exact e)
    · have hi' : i < row.length := by omega
      have hj' : j < row.length := by omega
      rw [at0_app hi', at0_app hj']
      exact h1 i hi' j hj' e
theorem rowsR_sum {adj : Nat → Nat → Bool} (A : Adj adj) {pal : List Nat} {G : List Nat → Nat} : ∀ {k : Nat} {row : List Nat}, okR adj row = true → ((rowsR adj pal k row).map G).sum = SL pal k fun r => if okR adj (row ++ r) then G (row ++ r) else 0
  | 0, row, h => by
    show ([row].map G).sum = if okR adj (row ++ []) = true then G (row ++ []) else 0
    rw [List.append_nil, h]
    simp
  | k + 1, row, h => by
    unfold rowsR SL
    have e : ∀ l : List Nat, ((l.flatMap fun c => rowsR adj pal k (row ++ [c])).map G).sum = (l.map fun c => ((rowsR adj pal k (row ++ [c])).map G).sum).sum := fun l => by
      induction l with
      | nil => rfl
      | cons a l ih => rw [List.flatMap_cons, sum_app, ih]; rfl
    rw [e, sum_fil]
    refine sum_cg fun c _ => ?_
    have e2 : (fun r => if okR adj (row ++ c :: r) = true then G (row ++ c :: r) else 0) = fun r => if okR adj ((row ++ [c]) ++ r) = true then G ((row ++ [c]) ++ r) else 0 := by
      funext r; rw [List.append_assoc]; rfl
    rw [e2]
    cases hf : freeR adj row c with
    | true => rw [if_pos rfl]; exact rowsR_sum A (by rw [okR_snoc A, h, hf]; rfl)
    | false =>
      rw [if_neg Bool.false_ne_true]
      refine Eq.trans SL_zero.symm (SL_congr fun r _ _ => ?_)
      rw [if_neg]
      intro h2
      have := okR_app h2
      rw [okR_snoc A, hf, Bool.and_false] at this
      cases this
theorem sum_ones {α : Type} : ∀ l : List α, (l.map fun _ => 1).sum = l.length
  | [] => rfl
  | x :: l => by rw [List.map_cons, List.sum_cons, sum_ones l, List.length_cons]; omega
theorem rowsR_length {adj : Nat → Nat → Bool} (A : Adj adj) {pal : List Nat} {n : Nat} {g : Nat → Nat} : (rowsR adj pal n []).length = NF adj (fun _ => true) pal (List.range n) g := by
  rw [← sum_ones, rowsR_sum A rfl, NF_rows]
  refine SL_congr fun r _ _ => ?_
  have : clsR (fun _ => true) pal r = true := List.all_eq_true.mpr fun _ _ => rfl
  rw [this, Bool.and_true]
  rfl
theorem rowsR_level {adj : Nat → Nat → Bool} (A : Adj adj) {cs : Nat → Bool} {pal : List Nat} {n : Nat} {g : Nat → Nat} : ((rowsR adj pal n []).filter fun row => clsR cs pal row).length = NF adj cs pal (List.range n) g := by
  rw [← sum_ones, sum_fil, rowsR_sum A rfl, NF_rows]
  refine SL_congr fun r _ _ => ?_
  rw [List.nil_append]
  cases okR adj r <;> simp
theorem rowsR_mem {adj : Nat → Nat → Bool} (A : Adj adj) {pal : List Nat} : ∀ {k : Nat} {row x : List Nat}, x ∈ rowsR adj pal k row → okR adj row = true → (∀ c ∈ row, c ∈ pal) → okR adj x = true ∧ x.length = row.length + k ∧ ∀ c ∈ x, c ∈ pal
  | 0, row, x, h, h1, h2 => by
    unfold rowsR at h
    rw [List.mem_singleton] at h
    subst h
    exact ⟨h1, rfl, h2⟩
  | k + 1, row, x, h, h1, h2 => by
    unfold rowsR at h
    obtain ⟨c, hc, hx⟩ := List.mem_flatMap.mp h
    obtain ⟨hc1, hc2⟩ := List.mem_filter.mp hc
    obtain ⟨q1, q2, q3⟩ := rowsR_mem A hx (by rw [okR_snoc A, h1, hc2]; rfl) fun d hd => by
      rcases List.mem_append.mp hd with e | e
      · exact h2 d e
      · rw [List.mem_singleton.mp e]; exact hc1
    exact ⟨q1, by rw [q2, List.length_append]; simp; omega, q3⟩
/-! ### deletion and contraction -/
def okT (ts : List (Nat × Nat)) (row : List Nat) : Bool := ts.all fun t => !(at0 row t.1 == at0 row t.2)
def countT (ts : List (Nat × Nat)) (h n : Nat) : Nat := SL (List.range h) n fun row => if okT ts row then 1 else 0
theorem countT_nil {h n : Nat} : countT [] h n = h ^ n := SL_one
theorem SL_ins {pal : List Nat} : ∀ {k b : Nat} {F : List Nat → Nat}, b ≤ k → SL pal (k + 1) F = SL pal k fun r => (pal.map fun c => F (r.insertIdx b c)).sum
  | k, 0, F, _ => by
    rw [SL_sum (fun c r => F (r.insertIdx 0 c))]
    rfl
  | 0, b + 1, F, h => by omega
  | k + 1, b + 1, F, h => by
    unfold SL
    refine sum_cg fun d _ => ?_
    rw [SL_ins (Nat.le_of_succ_le_succ h)]
    rfl
/-- where a place stands when b has been laid on a -/
def nmT (a b x : Nat) : Nat := let y := if x = b then a else x; if b < y then y - 1 else y
theorem at0_ins {r : List Nat} {b c x : Nat} (h : b ≤ r.length) : at0 (r.insertIdx b c) x = if x < b then at0 r x else if x = b then c else at0 r (x - 1) := by
  unfold at0
  rw [List.getD_eq_getElem?_getD, List.getElem?_insertIdx]
  split
  · rw [List.getD_eq_getElem?_getD]
  · split
    · rename_i e
      rw [if_pos (by omega)]; rfl
    · rw [List.getD_eq_getElem?_getD]
theorem at0_nm {r : List Nat} {a b x : Nat} (hb : b ≤ r.length) (hab : a < b) : at0 (r.insertIdx b (at0 r a)) x = at0 r (nmT a b x) := by
  rw [at0_ins hb]
  unfold nmT
  by_cases h1 : x < b
  · rw [if_pos h1]
    simp only [show x ≠ b by omega, if_false, show ¬ b < x by omega]
  · rw [if_neg h1]
    by_cases h2 : x = b
    · simp only [h2, if_true, show ¬ b < a by omega, if_false]
    · simp only [h2, if_false, show b < x by omega, if_true]
theorem sum_pick {F : Nat → Nat} : ∀ {pal : List Nat} {d : Nat}, pal.Nodup → d ∈ pal → (pal.map fun c => if c = d then F c else 0).sum = F d
  | [], d, _, h => by cases h
  | c :: pal, d, hn, h => by
    obtain ⟨h1, h2⟩ := List.nodup_cons.mp hn
    rw [List.map_cons, List.sum_cons]
    by_cases e : c = d
    · subst e
      rw [if_pos rfl, sum_zero fun x hx => if_neg fun e : x = c => h1 (e ▸ hx)]
      rfl
    · rw [if_neg e, sum_pick h2 ((List.mem_cons.mp h).resolve_left fun e' => e e'.symm)]
      omega
theorem at0_mem {r : List Nat} {i : Nat} (h : i < r.length) : at0 r i ∈ r := by
  unfold at0
  rw [List.getD_eq_getElem?_getD, List.getElem?_eq_getElem h]
  exact List.getElem_mem h
theorem countT_dc {ts mt : List (Nat × Nat)} {h k a b : Nat} (hab : a < b) (hb : b ≤ k)
    (hm : ∀ r : List Nat, okT mt r = ts.all fun t => !(at0 r (nmT a b t.1) == at0 r (nmT a b t.2))) : countT (ts ++ [(a, b)]) h (k + 1) + countT mt h k = countT ts h (k + 1) := by
  unfold countT
  have e1 : SL (List.range h) k (fun r => if okT mt r then 1 else 0) = SL (List.range h) (k + 1) (fun row => if okT ts row && (at0 row a == at0 row b) then 1 else 0) := by
    rw [SL_ins hb]
    refine SL_congr fun r hr hp => ?_
    have hrb : b ≤ r.length := by omega
    have e : ((List.range h).map fun c => if okT ts (r.insertIdx b c) && (at0 (r.insertIdx b c) a == at0 (r.insertIdx b c) b) then 1 else 0).sum = ((List.range h).map fun c => if c = at0 r a then (if okT ts (r.insertIdx b c) then 1 else 0) else 0).sum := by
      refine sum_cg fun c _ => ?_
      rw [at0_ins hrb, at0_ins hrb, if_pos hab, if_neg (Nat.lt_irrefl b), if_pos rfl]
      by_cases ec : c = at0 r a
      · rw [if_pos ec, ← ec]; simp
      · rw [if_neg ec, if_neg]
        intro e
        rw [Bool.and_eq_true, beq_iff_eq] at e
        exact ec e.2.symm
    rw [e, sum_pick List.nodup_range (hp _ (at0_mem (by omega))), hm]
    have : okT ts (r.insertIdx b (at0 r a)) = ts.all fun t => !(at0 r (nmT a b t.1) == at0 r (nmT a b t.2)) := all_cg fun t _ => by rw [at0_nm hrb hab, at0_nm hrb hab]
    rw [this]
  rw [e1, ← SL_add]
  refine SL_congr fun row _ _ => ?_
  unfold okT
  rw [List.all_append]
  simp only [List.all_cons, List.all_nil, Bool.and_true]
  cases (ts.all fun t => !(at0 row t.1 == at0 row t.2)) <;> cases (at0 row a == at0 row b) <;> rfl
/-- the two ways of asking -/
def adjT (ts : List (Nat × Nat)) (x y : Nat) : Bool := ts.any fun t => t == (x, y) || t == (y, x)
theorem adjT_adj {ts : List (Nat × Nat)} (h : ∀ t ∈ ts, t.1 < t.2) : Adj (adjT ts) := by
  refine ⟨fun x y => ?_, fun x => ?_⟩
  · unfold adjT
    congr 1
    funext t
    exact Bool.or_comm _ _
  · unfold adjT
    refine List.any_eq_false.mpr fun t ht => ?_
    have := h t ht
    have e : (t == (x, x)) = false := beq_eq_false_iff_ne.mpr fun e => by rw [e] at this; exact Nat.lt_irrefl _ this
    rw [e]
    exact Bool.false_ne_true
theorem okR_okT {ts : List (Nat × Nat)} {row : List Nat} (h : ∀ t ∈ ts, t.1 < t.2 ∧ t.2 < row.length) : okR (adjT ts) row = okT ts row := by
  rw [Bool.eq_iff_iff, okR_iff]
  simp only [okT, List.all_eq_true, Bool.not_eq_true', beq_eq_false_iff_ne]
  constructor
  · intro H t ht
    have := h t ht
    exact H t.1 (by omega) t.2 (by omega) (List.any_eq_true.mpr ⟨t, ht, by simp⟩)
  · intro H i hi j hj e
    obtain ⟨t, ht, e⟩ := List.any_eq_true.mp e
    have := H t ht
    rw [Bool.or_eq_true, beq_iff_eq, beq_iff_eq] at e
    rcases e with e | e <;> rw [e] at this
    · exact this
    · exact fun e => this e.symm
theorem countT_NF {ts : List (Nat × Nat)} {h n : Nat} {g : Nat → Nat} (hts : ∀ t ∈ ts, t.1 < t.2 ∧ t.2 < n) : countT ts h n = NF (adjT ts) (fun _ => true) (List.range h) (List.range n) g := by
  rw [NF_rows]
  refine SL_congr fun r hr _ => ?_
  have : clsR (fun _ => true) (List.range h) r = true := List.all_eq_true.mpr fun _ _ => rfl
  rw [this, Bool.and_true, okR_okT (by rw [hr]; exact hts)]
end Ma
/-! Ma4: the searches' numbers; level rows; layers. -/
namespace Ma
theorem sum_fm {α β : Type} (f : α → Option β) (G : β → Nat) : ∀ l : List α, ((l.filterMap f).map G).sum = (l.map fun x => match f x with | some y => G y | none => 0).sum
  | [] => rfl
  | x :: l => by
    rw [List.filterMap_cons, List.map_cons, List.sum_cons, ← sum_fm f G l]
    cases f x with
    | none => exact (Nat.zero_add _).symm
    | some y => rfl
theorem aptA_sub {adj : Nat → Nat → Bool} {left : List Nat} : ∀ p ∈ aptA adj left, p.Sublist left := by
  have h : ∀ (vs seen : List Nat) (found : List (List Nat)), (∀ p ∈ found, p.Sublist seen) → ∀ p ∈ vs.foldl (stepA adj) found, p.Sublist (seen ++ vs) := by
    intro vs
    induction vs with
    | nil => intro seen found h p hp; rw [List.append_nil]; exact h p hp
    | cons v vs ih =>
      intro seen found h p hp
      rw [List.foldl_cons] at hp
      have := ih (seen ++ [v]) (stepA adj found v) (fun p hp => by
        rcases List.mem_append.mp hp with hp | hp
        · exact (h p hp).trans (List.sublist_append_left _ _)
        · obtain ⟨r, hr, rfl⟩ := List.mem_map.mp hp
          exact List.Sublist.append (h r (List.mem_filter.mp hr).1) (List.Sublist.refl _)) p hp
      rwa [List.append_assoc] at this
  intro p hp
  have := h left [] [[]] (fun p hp => by rw [List.mem_singleton.mp hp]; exact .refl _) p hp
  rwa [List.nil_append] at this
theorem lessA_sub (left p : List Nat) : (lessA left p).Sublist left := List.filter_sublist
theorem mem_sub_len {p : List Nat} : ∀ {left : List Nat}, left.Nodup → p.Sublist left → (left.filter fun x => !decide (x ∈ p)).length + p.length = left.length
  | left, hn, hs => by
    induction hs with
    | slnil => rfl
    | @cons l1 l2 a h ih =>
      obtain ⟨h1, h2⟩ := List.nodup_cons.mp hn
      have ha : a ∉ l1 := fun e => h1 (h.subset e)
      rw [List.filter_cons]
      simp only [ha, decide_false, Bool.not_false, if_true, List.length_cons]
      have := ih h2
      omega
    | @cons_cons l1 l2 a h ih =>
      obtain ⟨h1, h2⟩ := List.nodup_cons.mp hn
      rw [List.filter_cons]
      simp only [List.mem_cons, true_or, decide_true, Bool.not_true, Bool.false_eq_true, if_false, List.length_cons]
      have : (l2.filter fun x => !decide (x = a ∨ x ∈ l1)) = l2.filter fun x => !decide (x ∈ l1) := List.filter_congr fun x hx => by
        have : x ≠ a := fun e => h1 (e ▸ hx)
        simp [this]
      rw [this]
      have := ih h2
      omega
theorem lessA_len {left p : List Nat} (hn : left.Nodup) (hs : p.Sublist left) : (lessA left p).length + p.length = left.length := mem_sub_len hn hs
/-! ### all of them -/
theorem cnt_all {adj : Nat → Nat → Bool} (A : Adj adj) {cnt : Nat → List Nat → Nat → Nat} (h0 : ∀ left m, cnt 0 left m = if left = [] then 1 else 0) (hs : ∀ r left m, cnt (r + 1) left m = ((aptA adj left).map fun p => cnt r (lessA left p) m).sum) :
    ∀ {pal left : List Nat} {m : Nat} {g : Nat → Nat}, pal.Nodup → left.Nodup → cnt pal.length left m = NF adj (fun _ => true) pal left g
  | [], left, m, g, _, _ => by rw [NF_nil]; exact h0 left m
  | c :: pal, left, m, g, hp, hl => by
    obtain ⟨h1, h2⟩ := List.nodup_cons.mp hp
    rw [NF_step A h1 hl, List.length_cons, hs]
    exact sum_cg fun p _ => by rw [if_pos rfl, cnt_all A h0 hs h2 (hl.sublist (lessA_sub _ _))]
/-! ### the level ones -/
def lvC (l s : Nat) : Bool := decide (l ≤ s) && decide (s ≤ l + 1)
theorem lvC_iff {l s : Nat} : lvC l s = true ↔ l ≤ s ∧ s ≤ l + 1 := by unfold lvC; simp
theorem NF_few {adj : Nat → Nat → Bool} (A : Adj adj) {l : Nat} : ∀ {pal L : List Nat} {g : Nat → Nat}, pal.Nodup → L.Nodup → L.length < pal.length * l → NF adj (lvC l) pal L g = 0
  | [], L, g, _, _, h => by simp at h
  | c :: pal, L, g, hp, hl, h => by
    obtain ⟨h1, h2⟩ := List.nodup_cons.mp hp
    rw [NF_step A h1 hl]
    refine sum_zero fun p hpm => ?_
    cases e : lvC l p.length with
    | false => rfl
    | true =>
      rw [if_pos rfl]
      have e1 := lvC_iff.mp e
      have e2 := lessA_len hl (aptA_sub p hpm)
      rw [List.length_cons, Nat.succ_mul] at h
      exact NF_few A h2 (hl.sublist (lessA_sub _ _)) (by omega)
def lvS (l m : Nat) (p : List Nat) : Option (List Nat × Nat) := if l ≤ p.length ∧ p.length ≤ l + 1 ∧ p.length ≤ m + l then some (p, m + l - p.length) else none
theorem cnt_level {adj : Nat → Nat → Bool} (A : Adj adj) {l : Nat} {cnt : Nat → List Nat → Nat → Nat} (h0 : ∀ left m, cnt 0 left m = if left = [] then 1 else 0) (hs : ∀ r left m, cnt (r + 1) left m = (((aptA adj left).filterMap (lvS l m)).map fun q => cnt r (lessA left q.1) q.2).sum) :
    ∀ {pal left : List Nat} {m : Nat} {g : Nat → Nat}, pal.Nodup → left.Nodup → m + pal.length * l = left.length → cnt pal.length left m = NF adj (lvC l) pal left g
  | [], left, m, g, _, _, _ => by rw [NF_nil]; exact h0 left m
  | c :: pal, left, m, g, hp, hl, hm => by
    obtain ⟨h1, h2⟩ := List.nodup_cons.mp hp
    rw [NF_step A h1 hl, List.length_cons, hs, sum_fm]
    rw [List.length_cons, Nat.succ_mul] at hm
    refine sum_cg fun p hpm => ?_
    have e2 := lessA_len hl (aptA_sub p hpm)
    have hl2 := hl.sublist (lessA_sub left p)
    unfold lvS
    by_cases e : lvC l p.length = true
    · rw [if_pos e]
      have e1 := lvC_iff.mp e
      by_cases e3 : p.length ≤ m + l
      · rw [if_pos ⟨e1.1, e1.2, e3⟩]
        exact cnt_level A h0 hs h2 hl2 (show m + l - p.length + pal.length * l = (lessA left p).length by omega)
      · rw [if_neg fun h => e3 h.2.2]
        exact (NF_few A h2 hl2 (by omega)).symm
    · rw [if_neg e, if_neg]
      exact fun h => e (lvC_iff.mpr ⟨h.1, h.2.1⟩)
/-! ### by layers -/
abbrev St := List Nat × Nat
abbrev Ly := List (St × Nat)
def getL (d : Ly) (k : St) : Nat := ((d.find? fun e => decide (e.1 = k)).map (·.2)).getD 0
def putL (d : Ly) (k : St) (v : Nat) : Ly := if k ∈ d.map (·.1) then d.map (fun e => if e.1 = k then (e.1, v) else e) else d ++ [(k, v)]
def bump (d : Ly) (k : St) (v : Nat) : Ly := putL d k (getL d k + v)
def ws (G : St → Nat) (d : Ly) : Nat := (d.map fun e => e.2 * G e.1).sum
theorem putL_keys {d : Ly} {k : St} {v : Nat} : (putL d k v).map (·.1) = if k ∈ d.map (·.1) then d.map (·.1) else d.map (·.1) ++ [k] := by
  unfold putL
  split
  · rw [List.map_map]
    refine List.map_congr_left fun e _ => ?_
    show (if e.1 = k then (e.1, v) else e).1 = e.1
    split <;> rfl
  · rw [List.map_append]; rfl
theorem putL_nodup {d : Ly} {k : St} {v : Nat} (h : (d.map (·.1)).Nodup) : ((putL d k v).map (·.1)).Nodup := by
  rw [putL_keys]
  split
  · exact h
  · rename_i hk
    exact List.nodup_append.mpr ⟨h, List.nodup_cons.mpr ⟨(fun h => nomatch h), List.nodup_nil⟩, fun a ha b hb => by
      rw [List.mem_singleton.mp hb]
      exact fun e => hk (e ▸ ha)⟩
theorem ws_put {G : St → Nat} {k : St} {v : Nat} : ∀ {d : Ly}, (d.map (·.1)).Nodup → ws G (putL d k v) + getL d k * G k = ws G d + v * G k
  | [], _ => by
    show ((([] : Ly) ++ [(k, v)]).map fun e => e.2 * G e.1).sum + 0 * G k = 0 + v * G k
    simp
  | e :: d, hn => by
    rw [List.map_cons] at hn
    obtain ⟨h1, h2⟩ := List.nodup_cons.mp hn
    by_cases ek : e.1 = k
    · have hg : getL (e :: d) k = e.2 := by unfold getL; rw [List.find?_cons_of_pos (by simp [ek])]; rfl
      have hp : putL (e :: d) k v = (k, v) :: d := by
        unfold putL
        rw [if_pos (by rw [List.map_cons, ek]; exact List.mem_cons_self), List.map_cons, if_pos ek, ek]
        congr 1
        conv => rhs; rw [← List.map_id d]
        refine List.map_congr_left fun x hx => if_neg fun ex => h1 ?_
        rw [ek, ← ex]
        exact List.mem_map_of_mem hx
      rw [hg, hp]
      unfold ws
      rw [List.map_cons, List.map_cons, List.sum_cons, List.sum_cons, ek]
      show v * G k + _ + e.2 * G k = _
      omega
    · have hg : getL (e :: d) k = getL d k := by unfold getL; rw [List.find?_cons_of_neg (by simp [ek])]
      have hp : putL (e :: d) k v = e :: putL d k v := by
        have hm : k ∈ (e :: d).map (·.1) ↔ k ∈ d.map (·.1) := by
          rw [List.map_cons, List.mem_cons]
          exact ⟨fun h => h.resolve_left fun h => ek h.symm, Or.inr⟩
        unfold putL
        by_cases hk : k ∈ d.map (·.1)
        · rw [if_pos (hm.mpr hk), if_pos hk, List.map_cons, if_neg ek]
        · rw [if_neg fun h => hk (hm.mp h), if_neg hk]; rfl
      have ih := ws_put (G := G) (k := k) (v := v) h2
      rw [hg, hp]
      unfold ws at ih ⊢
      rw [List.map_cons, List.map_cons, List.sum_cons, List.sum_cons]
      omega
theorem ws_bump {G : St → Nat} {k : St} {v : Nat} {d : Ly} (hn : (d.map (·.1)).Nodup) : ws G (bump d k v) = ws G d + v * G k := by
  have h : ws G (bump d k v) + getL d k * G k = ws G d + (getL d k + v) * G k := ws_put hn
  rw [Nat.add_mul] at h
  omega
def kOf (l : Nat) (s : St) (row : List Nat) : St := (lessA s.1 row, s.2 + l - row.length)
def bumps (l : Nat) (rows : List (List Nat)) (s : St) (v : Nat) (d : Ly) : Ly := rows.foldl (fun d row => bump d (kOf l s row) v) d
def layS (R : St → List (List Nat)) (l : Nat) (lay : Ly) : Ly := lay.foldl (fun d e => bumps l (R e.1) e.1 e.2 d) []
theorem bump_nodup {d : Ly} {k : St} {v : Nat} (h : (d.map (·.1)).Nodup) : ((bump d k v).map (·.1)).Nodup := putL_nodup h
theorem ws_bumps {G : St → Nat} {l : Nat} {s : St} {v : Nat} : ∀ {rows : List (List Nat)} {d : Ly}, (d.map (·.1)).Nodup → ((bumps l rows s v d).map (·.1)).Nodup ∧ ws G (bumps l rows s v d) = ws G d + v * (rows.map fun row => G (kOf l s row)).sum
  | [], d, hn => ⟨hn, (Nat.add_zero _).symm.trans (by rw [List.map_nil, List.sum_nil, Nat.mul_zero]; rfl)⟩
  | r :: rows, d, hn => by
    obtain ⟨h1, h2⟩ := ws_bumps (G := G) (l := l) (s := s) (v := v) (rows := rows) (d := bump d (kOf l s r) v) (bump_nodup hn)
    refine ⟨h1, ?_⟩
    show ws G (bumps l rows s v (bump d (kOf l s r) v)) = _
    rw [h2, ws_bump hn, List.map_cons, List.sum_cons, Nat.mul_add]
    omega
theorem ws_lay {G : St → Nat} {R : St → List (List Nat)} {l : Nat} : ∀ {lay d : Ly}, (d.map (·.1)).Nodup → ((lay.foldl (fun d e => bumps l (R e.1) e.1 e.2 d) d).map (·.1)).Nodup ∧
    ws G (lay.foldl (fun d e => bumps l (R e.1) e.1 e.2 d) d) = ws G d + ws (fun s => ((R s).map fun row => G (kOf l s row)).sum) lay
  | [], d, hn => ⟨hn, rfl⟩
  | e :: lay, d, hn => by
    obtain ⟨h1, h2⟩ := ws_bumps (G := G) (l := l) (s := e.1) (v := e.2) (rows := R e.1) hn
    obtain ⟨h3, h4⟩ := ws_lay (G := G) (R := R) (l := l) (lay := lay) h1
    refine ⟨h3, ?_⟩
    rw [List.foldl_cons, h4, h2]
    have e2 : ws (fun s => ((R s).map fun row => G (kOf l s row)).sum) (e :: lay) = e.2 * ((R e.1).map fun row => G (kOf l e.1 row)).sum + ws (fun s => ((R s).map fun row => G (kOf l s row)).sum) lay := by
      unfold ws
      rw [List.map_cons, List.sum_cons]
    rw [e2]
    omega
theorem layS_ws {G : St → Nat} {R : St → List (List Nat)} {l : Nat} {lay : Ly} : ws G (layS R l lay) = ws (fun s => ((R s).map fun row => G (kOf l s row)).sum) lay := by
  have := (ws_lay (G := G) (R := R) (l := l) (lay := lay) (d := []) List.nodup_nil).2
  unfold layS
  rw [this]
  exact Nat.zero_add _
theorem layS_nodup {R : St → List (List Nat)} {l : Nat} {lay : Ly} : ((layS R l lay).map (·.1)).Nodup := (ws_lay (G := fun _ => 0) (R := R) (l := l) (lay := lay) (d := []) List.nodup_nil).1
/-- what rows a layer's state goes on by -/
def rowsL (adj : Nat → Nat → Bool) (l : Nat) (s : St) : List (List Nat) := (aptA adj s.1).filter fun p => decide (l ≤ p.length ∧ p.length ≤ l + 1 ∧ p.length ≤ s.2 + l)
theorem rowsL_sum {adj : Nat → Nat → Bool} {l : Nat} {s : St} {G : St → Nat} : ((rowsL adj l s).map fun row => G (kOf l s row)).sum = (((aptA adj s.1).filterMap (lvS l s.2)).map fun q => G (lessA s.1 q.1, q.2)).sum := by
  unfold rowsL
  rw [sum_fil, sum_fm]
  refine sum_cg fun p _ => ?_
  unfold lvS
  by_cases h : l ≤ p.length ∧ p.length ≤ l + 1 ∧ p.length ≤ s.2 + l
  · rw [if_pos h, decide_eq_true h, if_pos rfl]; rfl
  · rw [if_neg h, decide_eq_false h]; rfl
def layN (adj : Nat → Nat → Bool) (l : Nat) : Nat → Ly → Ly
  | 0, lay => lay
  | r + 1, lay => layS (rowsL adj l) l (layN adj l r lay)
theorem layN_ws {adj : Nat → Nat → Bool} {l : Nat} {cnt : Nat → List Nat → Nat → Nat} (hs : ∀ r left m, cnt (r + 1) left m = (((aptA adj left).filterMap (lvS l m)).map fun q => cnt r (lessA left q.1) q.2).sum) {lay : Ly} :
    ∀ {r k : Nat}, ws (fun s => cnt k s.1 s.2) (layN adj l r lay) = ws (fun s => cnt (k + r) s.1 s.2) lay
  | 0, k => rfl
  | r + 1, k => by
    show ws _ (layS _ l (layN adj l r lay)) = _
    rw [layS_ws]
    have : (fun s : St => ((rowsL adj l s).map fun row => cnt k (kOf l s row).1 (kOf l s row).2).sum) = fun s => cnt (k + 1) s.1 s.2 := by
      funext s
      rw [hs, ← rowsL_sum (G := fun s => cnt k s.1 s.2)]
    rw [show ws (fun s : St => ((rowsL adj l s).map fun row => cnt k (kOf l s row).1 (kOf l s row).2).sum) _ = _ from by rw [this], layN_ws hs, show k + 1 + r = k + (r + 1) by omega]
end Ma
/-! Ma5: level rows; the last layer. -/
namespace Ma
theorem sum_one {c : Nat} {pal : List Nat} (hn : pal.Nodup) (h : c ∈ pal) : (pal.map fun d => if c = d then 1 else 0).sum = 1 := by
  refine Eq.trans (sum_cg fun d _ => ?_) (sum_pick (F := fun _ => 1) hn h)
  by_cases e : c = d
  · rw [if_pos e, if_pos e.symm]
  · rw [if_neg e, if_neg fun e' => e e'.symm]
theorem sum_count {pal : List Nat} (hn : pal.Nodup) : ∀ {row : List Nat}, (∀ c ∈ row, c ∈ pal) → (pal.map fun c => row.count c).sum = row.length
  | [], _ => sum_zero fun _ _ => rfl
  | c :: row, h => by
    rw [List.length_cons, ← sum_count hn fun d hd => h d (List.mem_cons_of_mem _ hd), ← sum_one hn (h c List.mem_cons_self), Nat.add_comm, ← sum_add]
    refine sum_cg fun d _ => ?_
    rw [List.count_cons]
    by_cases e : c = d
    · subst e; simp; omega
    · simp [e]
theorem sum_le {α : Type} {f : α → Nat} {k : Nat} : ∀ {l : List α}, (∀ x ∈ l, f x ≤ k) → (l.map f).sum ≤ l.length * k
  | [], _ => Nat.zero_le _
  | x :: l, h => by
    rw [List.map_cons, List.sum_cons, List.length_cons, Nat.succ_mul]
    have := h x List.mem_cons_self
    have := sum_le fun y hy => h y (List.mem_cons_of_mem x hy)
    omega
theorem sum_ge {α : Type} {f : α → Nat} {k : Nat} : ∀ {l : List α}, (∀ x ∈ l, k ≤ f x) → l.length * k ≤ (l.map f).sum
  | [], _ => by simp
  | x :: l, h => by
    rw [List.map_cons, List.sum_cons, List.length_cons, Nat.succ_mul]
    have := h x List.mem_cons_self
    have := sum_ge fun y hy => h y (List.mem_cons_of_mem x hy)
    omega
theorem sum_lt {α : Type} {f : α → Nat} {k : Nat} : ∀ {l : List α} {z : α}, (∀ x ∈ l, f x ≤ k) → z ∈ l → f z < k → (l.map f).sum < l.length * k
  | [], z, _, h, _ => by cases h
  | x :: l, z, h, hz, hk => by
    rw [List.map_cons, List.sum_cons, List.length_cons, Nat.succ_mul]
    have h1 := h x List.mem_cons_self
    rcases List.mem_cons.mp hz with e | e
    · subst e
      have := sum_le fun y hy => h y (List.mem_cons_of_mem z hy)
      omega
    · have := sum_lt (fun y hy => h y (List.mem_cons_of_mem x hy)) e hk
      omega
/-- all classes are as large as they are to be: the largest is at most one larger than the smallest -/
theorem level_iff {h : Nat} {row : List Nat} {M m : Nat} (hp : 0 < h) (hr : ∀ c ∈ row, c < h) (hM : M ∈ (List.range h).map fun c => row.count c) (hMm : ∀ y ∈ (List.range h).map fun c => row.count c, y ≤ M) (hm : m ∈ (List.range h).map fun c => row.count c) (hmm : ∀ y ∈ (List.range h).map fun c => row.count c, m ≤ y) :
    decide (M < m + 2) = clsR (lvC (row.length / h)) (List.range h) row := by
  obtain ⟨cM, gM, rfl⟩ := List.mem_map.mp hM
  obtain ⟨cm, gm, rfl⟩ := List.mem_map.mp hm
  have hs : ((List.range h).map fun c => row.count c).sum = row.length := sum_count List.nodup_range fun c hc => List.mem_range.mpr (hr c hc)
  have up : ∀ c ∈ List.range h, row.count c ≤ row.count cM := fun c hc => hMm _ (List.mem_map_of_mem hc)
  have lo : ∀ c ∈ List.range h, row.count cm ≤ row.count c := fun c hc => hmm _ (List.mem_map_of_mem hc)
  have hcl : clsR (lvC (row.length / h)) (List.range h) row = true ↔ ∀ c ∈ List.range h, row.length / h ≤ row.count c ∧ row.count c ≤ row.length / h + 1 := by
    unfold clsR
    rw [List.all_eq_true]
    constructor
    · intro H c hc
      have := lvC_iff.mp (H c hc)
      rwa [← List.countP_eq_length_filter] at this
    · intro H c hc
      refine lvC_iff.mpr ?_
      rw [← List.countP_eq_length_filter]
      exact H c hc
  have hd := Nat.div_add_mod row.length h
  have hm' := Nat.mod_lt row.length hp
  generalize row.length / h = q at hd hcl ⊢
  rw [Bool.eq_iff_iff, decide_eq_true_eq, hcl]
  constructor
  · intro H c hc
    refine ⟨Classical.byContradiction fun hlt => ?_, Classical.byContradiction fun hgt => ?_⟩
    · have := sum_lt (f := fun c => row.count c) (k := q) (fun d hd => by have := up d hd; have := lo c hc; omega) hc (by omega)
      rw [hs, List.length_range] at this
      omega
    · have := sum_ge (f := fun c => row.count c) (k := q + 1) (l := List.range h) (fun d hd => by have := lo d hd; have := up c hc; omega)
      rw [hs, List.length_range, Nat.mul_add] at this
      omega
  · intro H
    have := (H cM gM).2
    have := (H cm gm).1
    omega
/-! ### the last layer -/
structure LyOk (n l r : Nat) (lay : Ly) : Prop where
  nd : (lay.map (·.1)).Nodup
  ok : ∀ e ∈ lay, e.1.1.Sublist (List.range n) ∧ e.1.2 + r * l = e.1.1.length
theorem put_mem {d : Ly} {k : St} {v : Nat} {e : St × Nat} (h : e ∈ putL d k v) : e.1 = k ∨ e ∈ d := by
  unfold putL at h
  split at h
  · obtain ⟨x, hx, rfl⟩ := List.mem_map.mp h
    by_cases ex : x.1 = k
    · rw [if_pos ex]; exact Or.inl ex
    · rw [if_neg ex]; exact Or.inr hx
  · rcases List.mem_append.mp h with h | h
    · exact Or.inr h
    · rw [List.mem_singleton.mp h]; exact Or.inl rfl
theorem LyOk.bump {n l r : Nat} {d : Ly} {k : St} {v : Nat} (o : LyOk n l r d) (h : k.1.Sublist (List.range n) ∧ k.2 + r * l = k.1.length) : LyOk n l r (bump d k v) :=
  ⟨putL_nodup o.nd, fun e he => by
    rcases put_mem he with z | z
    · rw [z]; exact h
    · exact o.ok e z⟩
theorem rowsL_key {adj : Nat → Nat → Bool} {n l r : Nat} {s : St} {row : List Nat} (h : row ∈ rowsL adj l s) (hs : s.1.Sublist (List.range n)) (hl : s.2 + (r + 1) * l = s.1.length) : (kOf l s row).1.Sublist (List.range n) ∧ (kOf l s row).2 + r * l = (kOf l s row).1.length := by
  obtain ⟨h1, h2⟩ := List.mem_filter.mp h
  rw [decide_eq_true_eq] at h2
  refine ⟨(lessA_sub _ _).trans hs, ?_⟩
  have := lessA_len (List.nodup_range.sublist hs) (aptA_sub row h1)
  show s.2 + l - row.length + r * l = (lessA s.1 row).length
  rw [Nat.succ_mul] at hl
  omega
theorem LyOk.bumps {n l r : Nat} {s : St} {v : Nat} : ∀ {rows : List (List Nat)} {d : Ly}, LyOk n l r d → (∀ row ∈ rows, (kOf l s row).1.Sublist (List.range n) ∧ (kOf l s row).2 + r * l = (kOf l s row).1.length) → LyOk n l r (bumps l rows s v d)
  | [], d, o, _ => o
  | row :: rows, d, o, h => by
    show LyOk n l r (Ma.bumps l rows s v (Ma.bump d (kOf l s row) v))
    exact LyOk.bumps (o.bump (h row List.mem_cons_self)) fun x hx => h x (List.mem_cons_of_mem _ hx)
theorem LyOk.lay {adj : Nat → Nat → Bool} {n l r : Nat} : ∀ {lay d : Ly}, LyOk n l r d → (∀ e ∈ lay, e.1.1.Sublist (List.range n) ∧ e.1.2 + (r + 1) * l = e.1.1.length) → LyOk n l r (lay.foldl (fun d e => Ma.bumps l (rowsL adj l e.1) e.1 e.2 d) d)
  | [], d, o, _ => o
  | e :: lay, d, o, h => LyOk.lay (lay := lay) (o.bumps fun row hr => rowsL_key hr (h e List.mem_cons_self).1 (h e List.mem_cons_self).2) fun x hx => h x (List.mem_cons_of_mem _ hx)
theorem LyOk.step {adj : Nat → Nat → Bool} {n l r : Nat} {lay : Ly} (o : LyOk n l (r + 1) lay) : LyOk n l r (layS (rowsL adj l) l lay) := LyOk.lay ⟨List.nodup_nil, fun e h => nomatch h⟩ o.ok
theorem LyOk.N {adj : Nat → Nat → Bool} {n l : Nat} {lay : Ly} : ∀ {k r : Nat}, LyOk n l (r + k) lay → LyOk n l r (layN adj l k lay)
  | 0, r, o => o
  | k + 1, r, o => LyOk.step (LyOk.N (k := k) (r := r + 1) (by rw [show r + 1 + k = r + (k + 1) by omega]; exact o))
theorem LyOk.zero {n l : Nat} {lay : Ly} (o : LyOk n l 0 lay) : ws (fun s => if s.1 = [] then 1 else 0) lay = getL lay ([], 0) := by
  obtain ⟨h1, h2⟩ := o
  induction lay with
  | nil => rfl
  | cons e lay ih =>
    rw [List.map_cons] at h1
    obtain ⟨a1, a2⟩ := List.nodup_cons.mp h1
    have ih := ih a2 fun x hx => h2 x (List.mem_cons_of_mem _ hx)
    have he := (h2 e List.mem_cons_self).2
    unfold ws at ih ⊢
    rw [List.map_cons, List.sum_cons, ih]
    by_cases z : e.1.1 = []
    · have e0 : e.1 = ([], 0) := Prod.ext z (by rw [z] at he; simpa using he)
      have g1 : getL (e :: lay) ([], 0) = e.2 := by unfold getL; rw [List.find?_cons_of_pos (by simp [e0])]; rfl
      have g2 : getL lay ([], 0) = 0 := by
        unfold getL
        rw [List.find?_eq_none.mpr fun x hx hd => a1 ?_]
        · rfl
        · rw [e0, ← of_decide_eq_true hd]; exact List.mem_map_of_mem hx
      show e.2 * (if e.1.1 = [] then 1 else 0) + _ = _
      rw [if_pos z, g1, g2]; omega
    · have g1 : getL (e :: lay) ([], 0) = getL lay ([], 0) := by
        unfold getL
        rw [List.find?_cons_of_neg]
        intro hd
        exact z (by rw [of_decide_eq_true hd])
      show e.2 * (if e.1.1 = [] then 1 else 0) + _ = _
      rw [if_neg z, g1]; omega
/-- layer by layer the same number -/
theorem layers_cnt {adj : Nat → Nat → Bool} {n h : Nat} {cnt : Nat → List Nat → Nat → Nat} (hp : 0 < h) (h0 : ∀ left m, cnt 0 left m = if left = [] then 1 else 0) (hs : ∀ r left m, cnt (r + 1) left m = (((aptA adj left).filterMap (lvS (n / h) m)).map fun q => cnt r (lessA left q.1) q.2).sum) :
    getL (layN adj (n / h) h [((List.range n, n % h), 1)]) ([], 0) = cnt h (List.range n) (n % h) := by
  have o : LyOk n (n / h) (0 + h) [((List.range n, n % h), 1)] := ⟨by simp, fun e he => by
    rw [List.mem_singleton.mp he]
    refine ⟨List.Sublist.refl _, ?_⟩
    have := Nat.div_add_mod n h
    show n % h + (0 + h) * (n / h) = (List.range n).length
    rw [List.length_range, Nat.zero_add]
    omega⟩
  rw [← (LyOk.N (adj := adj) o).zero]
  have e : (fun s : St => if s.1 = [] then 1 else 0) = fun s : St => cnt 0 s.1 s.2 := by
    funext s; rw [h0]
  rw [e, layN_ws hs]
  unfold ws
  simp
/-! ### the rows of a layer's state, one place after the other -/
def stepL (adj : Nat → Nat → Bool) (l : Nat) (found : List (List Nat)) (p : Nat) : List (List Nat) := found ++ (found.filter fun row => decide (row.length ≤ l) && freeA adj p row).map fun row => row ++ [p]
theorem stepL_fil (adj : Nat → Nat → Bool) (l p : Nat) (found : List (List Nat)) : stepL adj l (found.filter fun row => decide (row.length ≤ l + 1)) p = (stepA adj found p).filter fun row => decide (row.length ≤ l + 1) := by
  unfold stepL stepA
  rw [List.filter_append, List.filter_map, List.filter_filter, List.filter_filter]
  congr 2
  refine List.filter_congr fun row _ => ?_
  show (decide (row.length ≤ l) && freeA adj p row && decide (row.length ≤ l + 1)) = (decide ((row ++ [p]).length ≤ l + 1) && freeA adj p row)
  rw [List.length_append]
  by_cases h : row.length ≤ l
  · have h2 : row.length ≤ l + 1 := by omega
    simp [h, h2]
  · simp [h]
theorem foldL_fil (adj : Nat → Nat → Bool) (l : Nat) : ∀ (left : List Nat) (found : List (List Nat)), left.foldl (stepL adj l) (found.filter fun row => decide (row.length ≤ l + 1)) = (left.foldl (stepA adj) found).filter fun row => decide (row.length ≤ l + 1)
  | [], found => rfl
  | p :: left, found => by rw [List.foldl_cons, List.foldl_cons, stepL_fil, foldL_fil adj l left]
theorem rowsL_eq (adj : Nat → Nat → Bool) (l : Nat) (s : St) : (s.1.foldl (stepL adj l) [[]]).filter (fun row => decide (l ≤ row.length) && decide (row.length ≤ s.2 + l)) = rowsL adj l s := by
  have h := foldL_fil adj l s.1 [[]]
  have e : ([[]] : List (List Nat)).filter (fun row => decide (row.length ≤ l + 1)) = [[]] := by simp
  rw [e] at h
  rw [h]
  unfold rowsL aptA
  rw [List.filter_filter]
  refine List.filter_congr fun row _ => ?_
  by_cases h1 : l ≤ row.length <;> by_cases h2 : row.length ≤ l + 1 <;> by_cases h3 : row.length ≤ s.2 + l <;> simp [h1, h2, h3]
end Ma
set_option maxHeartbeats 4000000
/-! Sm1: data read off the abstract heap; expressions that give data and leave all else. -/
namespace Sm
open PySem PySem.Spec PyProof.Rows L2

inductive D where
  | non | bl (b : Bool) | int (i : Int) | str (x : Str)
  | tup (ds : List D) | lst (ds : List D) | dct (kvs : List (Key × D)) | obj (C : Addr) (fs : List (Str × D)) | adr (a : Addr) | ty (n : String) | slt (C : Addr) (ds : List D) | scr (ds : List D)
mutual
def Is (K : PySem.W.Frag) (H : Hp) : D → V → Prop
  | .non, v => v = .non
  | .bl b, v => v = .bl b
  | .int i, v => v = .int i
  | .str x, v => v = .str x
  | .tup ds, v => ∃ a vs, v = .ref a ∧ SqT K H a vs ∧ IsL K H ds vs
  | .lst ds, v => ∃ a vs, v = .ref a ∧ H a = some (.lst vs) ∧ IsL K H ds vs
  | .dct kvs, v => ∃ a ws, v = .ref a ∧ H a = some (.dK ws) ∧ IsK K H kvs ws
  | .obj C fs, v => ∃ a dx ws, v = .ref a ∧ H a = some (.ins C dx ws) ∧ IsF K H fs ws
  | .adr a, v => v = .ref a
  | .ty n, v => v = .ty n
  | .slt C ds, v => ∃ a dx vs, v = .ref a ∧ H dx = some (.own a) ∧ dx ≠ a ∧ H a = some (L2.SlO C dx a (vs.map some)) ∧ IsL K H ds vs
  | .scr ds, v => ∃ a o vs, v = .ref a ∧ H a = some (.frz o (.lst vs)) ∧ IsL K H ds vs
def IsL (K : PySem.W.Frag) (H : Hp) : List D → List V → Prop
  | [], vs => vs = []
  | d :: ds, vs => ∃ v r, vs = v :: r ∧ Is K H d v ∧ IsL K H ds r
def IsK (K : PySem.W.Frag) (H : Hp) : List (Key × D) → List (Key × V) → Prop
  | [], vs => vs = []
  | (k, d) :: ds, vs => ∃ v r, vs = (k, v) :: r ∧ Is K H d v ∧ IsK K H ds r
def IsF (K : PySem.W.Frag) (H : Hp) : List (Str × D) → List (Str × V) → Prop
  | [], vs => vs = []
  | (k, d) :: ds, vs => ∃ v r, vs = (k, v) :: r ∧ Is K H d v ∧ IsF K H ds r
end
section
variable {K : PySem.W.Frag} {H H' : Hp}
mutual
theorem Is.mono (e : Evl.Ex H H') : ∀ {d : D} {v : V}, Is K H d v → Is K H' d v
  | .non, v, h => by unfold Is at *; exact h
  | .bl b, v, h => by unfold Is at *; exact h
  | .int b, v, h => by unfold Is at *; exact h
  | .str b, v, h => by unfold Is at *; exact h
  | .adr b, v, h => by unfold Is at *; exact h
  | .ty b, v, h => by unfold Is at *; exact h
  | .slt C ds, v, h => by
    unfold Is at *
    obtain ⟨a, dx, vs, h1, h2, h3, h4, h5⟩ := h
    exact ⟨a, dx, vs, h1, e _ _ h2, h3, e _ _ h4, IsL.mono e h5⟩
  | .scr ds, v, h => by
    unfold Is at *
    obtain ⟨a, o, vs, h1, h2, h3⟩ := h
    exact ⟨a, o, vs, h1, e _ _ h2, IsL.mono e h3⟩
  | .tup ds, v, h => by
    unfold Is at *
    obtain ⟨a, vs, h1, h2, h3⟩ := h
    exact ⟨a, vs, h1, Evl.ex_t e h2, IsL.mono e h3⟩
  | .lst ds, v, h => by
    unfold Is at *
    obtain ⟨a, vs, h1, h2, h3⟩ := h
    exact ⟨a, vs, h1, e _ _ h2, IsL.mono e h3⟩
  | .dct ds, v, h => by
    unfold Is at *
    obtain ⟨a, vs, h1, h2, h3⟩ := h
    exact ⟨a, vs, h1, e _ _ h2, IsK.mono e h3⟩
  | .obj C ds, v, h => by
    unfold Is at *
    obtain ⟨a, dx, vs, h1, h2, h3⟩ := h
    exact ⟨a, dx, vs, h1, e _ _ h2, IsF.mono e h3⟩
theorem IsL.mono (e : Evl.Ex H H') : ∀ {ds : List D} {vs : List V}, IsL K H ds vs → IsL K H' ds vs
  | [], vs, h => by unfold IsL at *; exact h
  | d :: ds, vs, h => by
    unfold IsL at *
    obtain ⟨v, r, h1, h2, h3⟩ := h
    exact ⟨v, r, h1, Is.mono e h2, IsL.mono e h3⟩
theorem IsK.mono (e : Evl.Ex H H') : ∀ {ds : List (Key × D)} {vs : List (Key × V)}, IsK K H ds vs → IsK K H' ds vs
  | [], vs, h => by unfold IsK at *; exact h
  | (k, d) :: ds, vs, h => by
    unfold IsK at *
    obtain ⟨v, r, h1, h2, h3⟩ := h
    exact ⟨v, r, h1, Is.mono e h2, IsK.mono e h3⟩
theorem IsF.mono (e : Evl.Ex H H') : ∀ {ds : List (Str × D)} {vs : List (Str × V)}, IsF K H ds vs → IsF K H' ds vs
  | [], vs, h => by unfold IsF at *; exact h
  | (k, d) :: ds, vs, h => by
    unfold IsF at *
    obtain ⟨v, r, h1, h2, h3⟩ := h
    exact ⟨v, r, h1, Is.mono e h2, IsF.mono e h3⟩
end
theorem is_int {i : Int} {v : V} : Is K H (.int i) v ↔ v = .int i := by unfold Is; exact Iff.rfl
theorem is_bl {i : Bool} {v : V} : Is K H (.bl i) v ↔ v = .bl i := by unfold Is; exact Iff.rfl
theorem is_non {v : V} : Is K H .non v ↔ v = .non := by unfold Is; exact Iff.rfl
theorem is_str {i : Str} {v : V} : Is K H (.str i) v ↔ v = .str i := by unfold Is; exact Iff.rfl
theorem is_adr {a : Addr} {v : V} : Is K H (.adr a) v ↔ v = .ref a := by unfold Is; exact Iff.rfl
theorem is_ty {n : String} {v : V} : Is K H (.ty n) v ↔ v = .ty n := by unfold Is; exact Iff.rfl
theorem is_slt {C : Addr} {ds : List D} {v : V} : Is K H (.slt C ds) v ↔ ∃ a dx vs, v = .ref a ∧ H dx = some (.own a) ∧ dx ≠ a ∧ H a = some (L2.SlO C dx a (vs.map some)) ∧ IsL K H ds vs := by rw [Is]
theorem is_tup {ds : List D} {v : V} : Is K H (.tup ds) v ↔ ∃ a vs, v = .ref a ∧ SqT K H a vs ∧ IsL K H ds vs := by rw [Is]
theorem is_lst {ds : List D} {v : V} : Is K H (.lst ds) v ↔ ∃ a vs, v = .ref a ∧ H a = some (.lst vs) ∧ IsL K H ds vs := by rw [Is]
theorem is_scr {ds : List D} {v : V} : Is K H (.scr ds) v ↔ ∃ a o vs, v = .ref a ∧ H a = some (.frz o (.lst vs)) ∧ IsL K H ds vs := by rw [Is]
theorem is_dct {ds : List (Key × D)} {v : V} : Is K H (.dct ds) v ↔ ∃ a vs, v = .ref a ∧ H a = some (.dK vs) ∧ IsK K H ds vs := by rw [Is]
theorem is_obj {C : Addr} {ds : List (Str × D)} {v : V} : Is K H (.obj C ds) v ↔ ∃ a dx vs, v = .ref a ∧ H a = some (.ins C dx vs) ∧ IsF K H ds vs := by rw [Is]
theorem isL_nil {vs : List V} : IsL K H [] vs ↔ vs = [] := by unfold IsL; exact Iff.rfl
theorem isL_cons {d : D} {ds : List D} {vs : List V} : IsL K H (d :: ds) vs ↔ ∃ v r, vs = v :: r ∧ Is K H d v ∧ IsL K H ds r := by rw [IsL]
theorem isK_nil {vs : List (Key × V)} : IsK K H [] vs ↔ vs = [] := by unfold IsK; exact Iff.rfl
theorem isK_cons {k : Key} {d : D} {ds : List (Key × D)} {vs : List (Key × V)} : IsK K H ((k, d) :: ds) vs ↔ ∃ v r, vs = (k, v) :: r ∧ Is K H d v ∧ IsK K H ds r := by rw [IsK]
theorem isF_nil {vs : List (Str × V)} : IsF K H [] vs ↔ vs = [] := by unfold IsF; exact Iff.rfl
theorem isF_cons {k : Str} {d : D} {ds : List (Str × D)} {vs : List (Str × V)} : IsF K H ((k, d) :: ds) vs ↔ ∃ v r, vs = (k, v) :: r ∧ Is K H d v ∧ IsF K H ds r := by rw [IsF]
theorem IsL.length : ∀ {ds : List D} {vs : List V}, IsL K H ds vs → vs.length = ds.length
  | [], vs, h => by rw [isL_nil.mp h]; rfl
  | d :: ds, vs, h => by
    obtain ⟨v, r, rfl, _, h⟩ := isL_cons.mp h
    rw [List.length_cons, List.length_cons, IsL.length h]
theorem IsL.get : ∀ {ds : List D} {vs : List V} {i : Nat} {d : D}, IsL K H ds vs → ds[i]? = some d → ∃ v, vs[i]? = some v ∧ Is K H d v
  | [], vs, i, d, _, e => by simp at e
  | d :: ds, vs, 0, d', h, e => by
    obtain ⟨v, r, rfl, h1, _⟩ := isL_cons.mp h
    simp at e
    subst e
    exact ⟨v, rfl, h1⟩
  | d :: ds, vs, i + 1, d', h, e => by
    obtain ⟨v, r, rfl, _, h⟩ := isL_cons.mp h
    obtain ⟨w, h1, h2⟩ := IsL.get (i := i) h (by simpa using e)
    exact ⟨w, by simpa using h1, h2⟩
theorem IsL.getV {ds : List D} {vs : List V} {i : Nat} {v : V} (h : IsL K H ds vs) (e : vs[i]? = some v) : ∃ d, ds[i]? = some d ∧ Is K H d v := by
  obtain ⟨hi, _⟩ := List.getElem?_eq_some_iff.mp e
  rw [h.length] at hi
  obtain ⟨w, h1, h2⟩ := h.get (List.getElem?_eq_getElem hi)
  rw [e] at h1
  cases h1
  exact ⟨_, List.getElem?_eq_getElem hi, h2⟩
theorem IsL.append : ∀ {ds es : List D} {vs ws : List V}, IsL K H ds vs → IsL K H es ws → IsL K H (ds ++ es) (vs ++ ws)
  | [], es, vs, ws, h, g => by rw [isL_nil.mp h]; exact g
  | d :: ds, es, vs, ws, h, g => by
    obtain ⟨v, r, rfl, h1, h⟩ := isL_cons.mp h
    exact isL_cons.mpr ⟨v, r ++ ws, rfl, h1, IsL.append h g⟩
theorem IsL.one {d : D} {v : V} (h : Is K H d v) : IsL K H [d] [v] := isL_cons.mpr ⟨v, [], rfl, h, isL_nil.mpr rfl⟩
theorem IsL.snoc {ds : List D} {vs : List V} {d : D} {v : V} (h : IsL K H ds vs) (g : Is K H d v) : IsL K H (ds ++ [d]) (vs ++ [v]) := h.append (.one g)
theorem IsL.set : ∀ {ds : List D} {vs : List V} {d : D} {v : V} (i : Nat), IsL K H ds vs → Is K H d v → IsL K H (ds.set i d) (vs.set i v)
  | [], vs, d, v, i, h, g => by rw [isL_nil.mp h]; exact isL_nil.mpr rfl
  | e :: ds, vs, d, v, 0, h, g => by
    obtain ⟨w, r, rfl, h1, h⟩ := isL_cons.mp h
    exact isL_cons.mpr ⟨v, r, rfl, g, h⟩
  | e :: ds, vs, d, v, i + 1, h, g => by
    obtain ⟨w, r, rfl, h1, h⟩ := isL_cons.mp h
    exact isL_cons.mpr ⟨w, r.set i v, rfl, h1, IsL.set i h g⟩
theorem IsL.take : ∀ {ds : List D} {vs : List V} (n : Nat), IsL K H ds vs → IsL K H (ds.take n) (vs.take n)
  | ds, vs, 0, h => by rw [List.take_zero, List.take_zero]; exact isL_nil.mpr rfl
  | [], vs, n + 1, h => by rw [isL_nil.mp h]; exact isL_nil.mpr rfl
  | d :: ds, vs, n + 1, h => by
    obtain ⟨w, r, rfl, h1, h⟩ := isL_cons.mp h
    exact isL_cons.mpr ⟨w, r.take n, rfl, h1, IsL.take n h⟩
theorem IsL.drop : ∀ {ds : List D} {vs : List V} (n : Nat), IsL K H ds vs → IsL K H (ds.drop n) (vs.drop n)
  | ds, vs, 0, h => h
  | [], vs, n + 1, h => by rw [isL_nil.mp h]; exact isL_nil.mpr rfl
  | d :: ds, vs, n + 1, h => by
    obtain ⟨w, r, rfl, h1, h⟩ := isL_cons.mp h
    exact IsL.drop n h
theorem isL_ints : ∀ {ns : List Int} {vs : List V}, IsL K H (ns.map .int) vs ↔ vs = ns.map .int
  | [], vs => by rw [List.map_nil, List.map_nil]; exact isL_nil
  | n :: ns, vs => by
    rw [List.map_cons, List.map_cons, isL_cons]
    constructor
    · rintro ⟨v, r, rfl, h1, h2⟩
      rw [is_int.mp h1, isL_ints.mp h2]
    · rintro rfl
      exact ⟨_, _, rfl, is_int.mpr rfl, isL_ints.mpr rfl⟩
theorem isL_bls : ∀ {ns : List Bool} {vs : List V}, IsL K H (ns.map .bl) vs ↔ vs = ns.map .bl
  | [], vs => by rw [List.map_nil, List.map_nil]; exact isL_nil
  | n :: ns, vs => by
    rw [List.map_cons, List.map_cons, isL_cons]
    constructor
    · rintro ⟨v, r, rfl, h1, h2⟩
      rw [is_bl.mp h1, isL_bls.mp h2]
    · rintro rfl
      exact ⟨_, _, rfl, is_bl.mpr rfl, isL_bls.mpr rfl⟩
theorem IsF.lookup : ∀ {ds : List (Str × D)} {vs : List (Str × V)} {f : Str} {d : D}, IsF K H ds vs → ds.lookup f = some d → ∃ v, vs.lookup f = some v ∧ Is K H d v
  | [], vs, f, d, h, e => by simp at e
  | (k, x) :: ds, vs, f, d, h, e => by
    obtain ⟨v, r, rfl, h1, h⟩ := isF_cons.mp h
    rw [List.lookup_cons] at e ⊢
    cases q : f == k with
    | true =>
      rw [q] at e
      cases e
      exact ⟨v, rfl, h1⟩
    | false =>
      rw [q] at e
      exact IsF.lookup h e
theorem IsF.lookup_none : ∀ {ds : List (Str × D)} {vs : List (Str × V)} {f : Str}, IsF K H ds vs → ds.lookup f = none → vs.lookup f = none
  | [], vs, f, h, e => by rw [isF_nil.mp h]; rfl
  | (k, x) :: ds, vs, f, h, e => by
    obtain ⟨v, r, rfl, h1, h⟩ := isF_cons.mp h
    rw [List.lookup_cons] at e ⊢
    cases q : f == k with
    | true =>
      rw [q] at e
      cases e
    | false =>
      rw [q] at e
      exact IsF.lookup_none h e
theorem IsF.length : ∀ {ds : List (Str × D)} {vs : List (Str × V)}, IsF K H ds vs → vs.length = ds.length
  | [], vs, h => by rw [isF_nil.mp h]; rfl
  | (k, d) :: ds, vs, h => by
    obtain ⟨v, r, rfl, _, h⟩ := isF_cons.mp h
    rw [List.length_cons, List.length_cons, IsF.length h]
end

/-! ### a step that leaves all else: Hb, Hb': what is known for good; H, H': what stands -/
structure Xt (Hb H Hb' H' : Hp) : Prop where
  h : Evl.Ex H H'
  b : Evl.Ex Hb Hb'
  in_ : Evl.Ex Hb' H'
  new : ∀ a, H a ≠ none → Hb a = none → Hb' a = none
theorem Xt.refl {Hb H : Hp} (e : Evl.Ex Hb H) : Xt Hb H Hb H := ⟨Evl.Ex.refl _, Evl.Ex.refl _, e, fun _ _ h => h⟩
theorem Xt.trans {Hb H Hb1 H1 Hb2 H2 : Hp} (a : Xt Hb H Hb1 H1) (b : Xt Hb1 H1 Hb2 H2) : Xt Hb H Hb2 H2 :=
  ⟨a.h.trans b.h, a.b.trans b.b, b.in_, fun x h h0 => b.new x (fun z => h (Evl.fresh_back a.h z)) (a.new x h h0)⟩
/-- a new object -/
theorem Xt.made {Hb H : Hp} {p : Addr} {o : HO} (e : Evl.Ex Hb H) (h : H p = none) : Xt Hb H (upd Hb p o) (upd H p o) :=
  ⟨Evl.Ex.new h, Evl.Ex.new (Evl.fresh_back e h), fun a u q => by
    by_cases z : a = p
    · subst z
      rw [upd_same] at q ⊢
      exact q
    · rw [upd_ne z] at q ⊢
      exact e a u q, fun a h1 h2 => by
    rw [upd_ne]
    · exact h2
    · rintro rfl
      exact h1 h⟩
/-- the names' data -/
abbrev En := List (Option D)
structure IsE (K : PySem.W.Frag) (H : Hp) (σ : L2.St) (ρ : En) : Prop where
  len : ρ.length = σ.length
  at_ : ∀ (i : Nat) (d : D), ρ[i]? = some (some d) → ∃ v, σ[i]? = some (some v) ∧ Is K H d v
theorem IsE.mono {K : PySem.W.Frag} {H H' : Hp} {σ : L2.St} {ρ : En} (e : Evl.Ex H H') (h : IsE K H σ ρ) : IsE K H' σ ρ :=
  ⟨h.len, fun i d q => let ⟨v, h1, h2⟩ := h.at_ i d q; ⟨v, h1, h2.mono e⟩⟩
theorem IsE.set {K : PySem.W.Frag} {H : Hp} {σ : L2.St} {ρ : En} (h : IsE K H σ ρ) (i : Nat) {d : D} {v : V} (g : Is K H d v) : IsE K H (σ.set i (some v)) (ρ.set i (some d)) := by
  refine ⟨by rw [List.length_set, List.length_set]; exact h.len, fun j e q => ?_⟩
  by_cases z : i = j
  · subst z
    by_cases y : i < ρ.length
    · rw [List.getElem?_set_self y] at q
      cases q
      exact ⟨v, by rw [List.getElem?_set_self (by rw [← h.len]; exact y)], g⟩
    · rw [List.getElem?_eq_none (by simpa using y)] at q
      cases q
  · rw [List.getElem?_set_ne z] at q ⊢
    exact h.at_ j e q
theorem IsE.clear {K : PySem.W.Frag} {H : Hp} {σ : L2.St} {ρ : En} (h : IsE K H σ ρ) (i : Nat) : IsE K H (σ.set i none) (ρ.set i none) := by
  refine ⟨by rw [List.length_set, List.length_set]; exact h.len, fun j e q => ?_⟩
  by_cases z : i = j
  · subst z
    by_cases y : i < ρ.length
    · rw [List.getElem?_set_self y] at q
      cases q
    · rw [List.getElem?_eq_none (by simpa using y)] at q
      cases q
  · rw [List.getElem?_set_ne z] at q ⊢
    exact h.at_ j e q
/-- some of it forgotten -/
theorem IsE.weak {K : PySem.W.Frag} {H : Hp} {σ : L2.St} {ρ ρ' : En} (h : IsE K H σ ρ) (hl : ρ'.length = ρ.length) (hw : ∀ (i : Nat) (d : D), ρ'[i]? = some (some d) → ρ[i]? = some (some d)) : IsE K H σ ρ' :=
  ⟨hl.trans h.len, fun i d q => h.at_ i d (hw i d q)⟩
def wipeD (ρ : En) : List Nat → En
  | [] => ρ
  | v :: vs => (wipeD ρ vs).set v none
theorem IsE.wipe {K : PySem.W.Frag} {H : Hp} {σ : L2.St} {ρ : En} (h : IsE K H σ ρ) : ∀ vs : List Nat, IsE K H (L2.wipe σ vs) (wipeD ρ vs)
  | [] => h
  | v :: vs => (IsE.wipe h vs).clear v
theorem start_is {K : PySem.W.Frag} {H : Hp} {N : List Str} {ds : List D} {vs : List V} (h : IsL K H ds vs) : IsE K H (L2.start N vs) (ds.map some ++ List.replicate (N.length - ds.length) none) := by
  have hl := h.length
  unfold L2.start
  refine ⟨by simp [hl], fun i d q => ?_⟩
  by_cases hi : i < ds.length
  · rw [List.getElem?_append_left (by simpa using hi), List.getElem?_map] at q
    rw [List.getElem?_append_left (by simpa [hl] using hi), List.getElem?_map]
    obtain ⟨d', e1, e2⟩ := Option.map_eq_some_iff.mp q
    cases e2
    obtain ⟨v, h1, h2⟩ := h.get e1
    exact ⟨v, by rw [h1]; rfl, h2⟩
  · rw [List.getElem?_append_right (by simpa using hi), List.getElem?_replicate] at q
    split at q <;> cases q

/-! ### the meaning of an expression, of a test, of a block: what its run gives -/
def SmE (X : Cx) (e : Expr) : TE := fun σ H Q => ∀ pins s, Inv X pins σ H s → wpAny (model X.prog X.w) X.A (eval e X.env) (EP X pins σ Q) X.xe s
def SmT (X : Cx) (e : Expr) : TT := fun σ H Q => ∀ pins s, Inv X pins σ H s → wpAny (model X.prog X.w) X.A (isTrue e X.env (eval e X.env)) (TP X pins σ Q) X.xe s
def SmB (X : Cx) (st : List Stmt) : TS := fun D σ H => ∀ pins s, Inv X pins σ H s → wpAny (model X.prog X.w) X.A (execs st X.env) (SP X pins D) X.xe s
def SmS (X : Cx) (st : Stmt) : TS := fun D σ H => ∀ pins s, Inv X pins σ H s → wpAny (model X.prog X.w) X.A (exec st X.env) (SP X pins D) X.xe s
theorem pe_sm {X : Cx} {e : Expr} : PE X e (SmE X e) := ⟨fun pins s σ H Q I h => h pins s I⟩
theorem pt_sm {X : Cx} {e : Expr} : PT X e (SmT X e) := ⟨fun pins s σ H Q I h => h pins s I⟩
theorem pss_sm {X : Cx} {e : List Stmt} : PSs X e (SmB X e) := ⟨fun pins s σ H Q I h => h pins s I⟩
theorem ps_sm {X : Cx} {e : Stmt} : PS X e (SmS X e) := ⟨fun pins s σ H Q I h => h pins s I⟩
theorem SmE.of {X : Cx} {e : Expr} {t : TE} (h : PE X e t) {σ : L2.St} {H : Hp} {Q : VK} (q : t σ H Q) : SmE X e σ H Q := fun pins s I => h.run pins s σ H Q I q
theorem SmT.of {X : Cx} {e : Expr} {t : TT} (h : PT X e t) {σ : L2.St} {H : Hp} {Q : Bool → Hp → Prop} (q : t σ H Q) : SmT X e σ H Q := fun pins s I => h.run pins s σ H Q I q
theorem SmB.of {X : Cx} {e : List Stmt} {t : TS} (h : PSs X e t) {σ : L2.St} {H : Hp} {Q : Ends} (q : t Q σ H) : SmB X e Q σ H := fun pins s I => h.run pins s σ H Q I q
theorem SmS.of {X : Cx} {e : Stmt} {t : TS} (h : PS X e t) {σ : L2.St} {H : Hp} {Q : Ends} (q : t Q σ H) : SmS X e Q σ H := fun pins s I => h.run pins s σ H Q I q
theorem SmE.mono {X : Cx} {e : Expr} {σ : L2.St} {H : Hp} {Q Q' : VK} (h : SmE X e σ H Q) (k : ∀ v H', Q v H' → Q' v H') : SmE X e σ H Q' := fun pins s I => thn (h pins s I) fun u s' ⟨v, H', a, b, c⟩ => ⟨v, H', a, b, k _ _ c⟩
theorem SmT.mono {X : Cx} {e : Expr} {σ : L2.St} {H : Hp} {Q Q' : Bool → Hp → Prop} (h : SmT X e σ H Q) (k : ∀ v H', Q v H' → Q' v H') : SmT X e σ H Q' := fun pins s I => thn (h pins s I) fun u s' ⟨H', a, c⟩ => ⟨H', a, k _ _ c⟩
theorem SP.mono {X : Cx} {pins : List (Addr × Obj)} {D D' : Ends} {f : Flow} {s : Shared} (h : SP X pins D f s) (h1 : ∀ σ H, D.nx σ H → D'.nx σ H) (h2 : ∀ v H, D.rt v H → D'.rt v H) (h3 : ∀ σ H, D.bk σ H → D'.bk σ H) (h4 : ∀ σ H, D.ct σ H → D'.ct σ H) : SP X pins D' f s := by
  cases f with
  | next => obtain ⟨σ, H, I, q⟩ := h; exact ⟨σ, H, I, h1 _ _ q⟩
  | brk => obtain ⟨σ, H, I, q⟩ := h; exact ⟨σ, H, I, h3 _ _ q⟩
  | cont => obtain ⟨σ, H, I, q⟩ := h; exact ⟨σ, H, I, h4 _ _ q⟩
  | ret u => obtain ⟨v, σ, H, I, r, q⟩ := h; exact ⟨v, σ, H, I, r, h2 _ _ q⟩
theorem SmB.mono {X : Cx} {st : List Stmt} {σ : L2.St} {H : Hp} {D D' : Ends} (h : SmB X st D σ H) (h1 : ∀ σ H, D.nx σ H → D'.nx σ H) (h2 : ∀ v H, D.rt v H → D'.rt v H) (h3 : ∀ σ H, D.bk σ H → D'.bk σ H) (h4 : ∀ σ H, D.ct σ H → D'.ct σ H) : SmB X st D' σ H :=
  fun pins s I => thn (h pins s I) fun f s' q => SP.mono q h1 h2 h3 h4
theorem SmS.mono {X : Cx} {st : Stmt} {σ : L2.St} {H : Hp} {D D' : Ends} (h : SmS X st D σ H) (h1 : ∀ σ H, D.nx σ H → D'.nx σ H) (h2 : ∀ v H, D.rt v H → D'.rt v H) (h3 : ∀ σ H, D.bk σ H → D'.bk σ H) (h4 : ∀ σ H, D.ct σ H → D'.ct σ H) : SmS X st D' σ H :=
  fun pins s I => thn (h pins s I) fun f s' q => SP.mono q h1 h2 h3 h4

/-! ### an expression that gives d -/
def Gd (K : PySem.W.Frag) (Hb H : Hp) (d : D) : VK := fun v H' => ∃ Hb', Xt Hb H Hb' H' ∧ Is K Hb' d v
def ED (X : Cx) (ρ : En) (e : Expr) (d : D) : Prop := ∀ Hb H σ, Evl.Ex Hb H → IsE X.K Hb σ ρ → SmE X e σ H (Gd X.K Hb H d)
def ET (X : Cx) (ρ : En) (e : Expr) (b : Bool) : Prop := ∀ Hb H σ, Evl.Ex Hb H → IsE X.K Hb σ ρ → SmT X e σ H (fun c H' => c = b ∧ ∃ Hb', Xt Hb H Hb' H')
/-- several -/
def ES (X : Cx) (ρ : En) (es : List Expr) (ds : List D) : Prop := ∃ ta, PA X es ta ∧ ∀ Hb H σ, Evl.Ex Hb H → IsE X.K Hb σ ρ → ∀ Q : List V → Hp → Prop, (∀ vs H' Hb', Xt Hb H Hb' H' → IsL X.K Hb' ds vs → Q vs H') → ta σ H Q
/-- over one of them the rules of values are laid -/
def R2D (K : PySem.W.Frag) (r : R2) (a b d : D) : Prop := ∀ Hb H v w, Evl.Ex Hb H → Is K Hb a v → Is K Hb b w → ∀ Q : VK, (∀ v' H', Gd K Hb H d v' H' → Q v' H') → r v w H Q
def RCD (K : PySem.W.Frag) (r : List V → Hp → VK → Prop) (ds : List D) (d : D) : Prop := ∀ Hb H vs, Evl.Ex Hb H → IsL K Hb ds vs → ∀ Q : VK, (∀ v' H', Gd K Hb H d v' H' → Q v' H') → r vs H Q
section
variable {X : Cx} {ρ : En} {K : PySem.W.Frag} {Hb H : Hp} {e a b c : Expr} {es : List Expr} {d d1 d2 d3 : D} {ds : List D} {pos p : Pos} {t u : Bool}
theorem gd_same {v : V} (e : Evl.Ex Hb H) (h : Is K Hb d v) : Gd K Hb H d v H := ⟨Hb, .refl e, h⟩
theorem Gd.trans {Hb1 H1 H2 : Hp} {v : V} (x : Xt Hb H Hb1 H1) (h : Gd K Hb1 H1 d v H2) : Gd K Hb H d v H2 := let ⟨Hb2, y, q⟩ := h; ⟨Hb2, x.trans y, q⟩
theorem ed_name (i : Nat) {x : Str} (hρ : ρ[i]? = some (some d)) (h : PE X (.Name x pos) (tVar i)) : ED X ρ (.Name x pos) d := fun Hb H σ e I => by
  obtain ⟨v, h1, h2⟩ := I.at_ i d hρ
  exact .of h ⟨v, h1, gd_same e h2⟩
theorem ed_c {v : V} (h : PE X e (tC v)) (hd : ∀ Hb, Is X.K Hb d v) : ED X ρ e d := fun Hb H σ e I => .of h (gd_same e (hd Hb))
theorem ed_int {i : Int} {j : Nat} : ED X ρ (.Constant (.int i) j pos) (.int i) := ed_c pe_int fun _ => is_int.mpr rfl
theorem ed_bl {i : Bool} {j : Nat} : ED X ρ (.Constant (.bool i) j pos) (.bl i) := ed_c pe_bl fun _ => is_bl.mpr rfl
theorem ed_non {j : Nat} : ED X ρ (.Constant .none j pos) .non := ed_c pe_non fun _ => is_non.mpr rfl
theorem ed_str {x : Str} {j : Nat} : ED X ρ (.Constant (.str x) j pos) (.str x) := ed_c pe_str fun _ => is_str.mpr rfl
theorem ed_2 {r : R2} (h : PE X e (tOp r (SmE X a) (SmE X b))) (ha : ED X ρ a d1) (hb : ED X ρ b d2) (hr : R2D X.K r d1 d2 d) : ED X ρ e d := fun Hb H σ x I => .of h (by
  refine (ha Hb H σ x I).mono fun v H1 ⟨Hb1, x1, q1⟩ => ?_
  refine (hb Hb1 H1 σ x1.in_ (I.mono x1.b)).mono fun w H2 ⟨Hb2, x2, q2⟩ => ?_
  exact hr Hb2 H2 v w x2.in_ (q1.mono x2.b) q2 _ fun v' H' g => g.trans (x1.trans x2))
end
end Sm
set_option maxHeartbeats 4000000
/-! Sm2: rules of expressions that give data. -/
namespace Sm
open PySem PySem.Spec PyProof.Rows L2

section
variable {X : Cx} {ρ : En} {K : PySem.W.Frag} {Hb H : Hp} {e a b c : Expr} {es : List Expr} {d d1 d2 d3 : D} {ds : List D} {pos p : Pos} {t u : Bool} {x : Str}
/-! ### arguments, calls -/
theorem es_nil : ES X ρ [] [] := ⟨_, pa_nil, fun Hb H σ e I Q q => q [] H Hb (.refl e) (isL_nil.mpr rfl)⟩
theorem es_cons (h : ED X ρ e d) (hr : ES X ρ es ds) (hs : starEach (e :: es) X.env = (false, eval e X.env) :: starEach es X.env := by rfl) : ES X ρ (e :: es) (d :: ds) := by
  obtain ⟨ta, hp, q⟩ := hr
  refine ⟨_, pa_cons pe_sm hp hs, fun Hb H σ x I Q k => ?_⟩
  refine (h Hb H σ x I).mono fun v H1 ⟨Hb1, x1, q1⟩ => ?_
  exact q Hb1 H1 σ x1.in_ (I.mono x1.b) _ fun vs H2 Hb2 x2 q2 => k _ _ Hb2 (x1.trans x2) (isL_cons.mpr ⟨v, vs, rfl, q1.mono x2.b, q2⟩)
theorem ed_tcb {r : List V → Hp → VK → Prop} (hs : ES X ρ es ds) (h : ∀ ta, PA X es ta → PE X e (tCB r ta)) (hr : RCD X.K r ds d) : ED X ρ e d := fun Hb H σ x I => by
  obtain ⟨ta, hp, q⟩ := hs
  refine .of (h ta hp) (q Hb H σ x I _ fun vs H1 Hb1 x1 q1 => ?_)
  exact hr Hb1 H1 vs x1.in_ q1 _ fun v' H' g => g.trans x1
theorem ed_callB {id : String} {r : List V → Hp → VK → Prop} (hc : CallR X (.builtin id) r) (hm : X.mg x = none) (hv : bootBuiltins x = some (.builtin id)) (hs : ES X ρ (e :: es) ds) (hr : RCD X.K r ds d) (hg : Gl X x := by rfl) (hn : x ≠ "__name__" := by decide) (hdb : (x == ("__debug__" : Str)) = false := by decide)
    (he : starEach (e :: es) X.env = (false, eval e X.env) :: starEach es X.env := by rfl) (hpl : (backTo pos (starEach es X.env)).any (·.1) = false := by rfl) : ED X ρ (.Call (.Name x p) (e :: es) [] pos) d :=
  ed_tcb hs (fun _ hp => pe_callB hc hg hm hv hp hn hdb he hpl) hr
theorem ed_callTy {T : String} {r : List V → Hp → VK → Prop} (hc : CallR X (.type T) r) (hm : X.mg x = none) (hv : bootBuiltins x = some (.type T)) (hs : ES X ρ (e :: es) ds) (hr : RCD X.K r ds d) (hg : Gl X x := by rfl) (hn : x ≠ "__name__" := by decide) (hdb : (x == ("__debug__" : Str)) = false := by decide)
    (he : starEach (e :: es) X.env = (false, eval e X.env) :: starEach es X.env := by rfl) (hpl : (backTo pos (starEach es X.env)).any (·.1) = false := by rfl) : ED X ρ (.Call (.Name x p) (e :: es) [] pos) d :=
  ed_tcb hs (fun _ hp => pe_callTy hc hg hm hv hp hn hdb he hpl) hr
theorem es_one_int {i : Int} {vs : List V} (h : IsL K Hb [.int i] vs) : vs = [.int i] := by
  obtain ⟨v, r, rfl, h1, h2⟩ := isL_cons.mp h
  rw [is_int.mp h1, isL_nil.mp h2]
theorem es_two_int {i j : Int} {vs : List V} (h : IsL K Hb [.int i, .int j] vs) : vs = [.int i, .int j] := by
  obtain ⟨v, r, rfl, h1, h2⟩ := isL_cons.mp h
  rw [is_int.mp h1, es_one_int h2]
theorem es_one {vs : List V} (h : IsL K Hb [d] vs) : ∃ v, vs = [v] ∧ Is K Hb d v := by
  obtain ⟨v, r, rfl, h1, h2⟩ := isL_cons.mp h
  exact ⟨v, by rw [isL_nil.mp h2], h1⟩
theorem es_two {vs : List V} (h : IsL K Hb [d1, d2] vs) : ∃ v w, vs = [v, w] ∧ Is K Hb d1 v ∧ Is K Hb d2 w := by
  obtain ⟨v, r, rfl, h1, h2⟩ := isL_cons.mp h
  obtain ⟨w, rfl, h3⟩ := es_one h2
  exact ⟨v, w, rfl, h1, h3⟩
theorem gd_int {i : Int} (e : Evl.Ex Hb H) : Gd K Hb H (.int i) (.int i) H := gd_same e (is_int.mpr rfl)
theorem gd_bl {i : Bool} (e : Evl.Ex Hb H) : Gd K Hb H (.bl i) (.bl i) H := gd_same e (is_bl.mpr rfl)
theorem gd_non (e : Evl.Ex Hb H) : Gd K Hb H .non .non H := gd_same e (is_non.mpr rfl)
/-- a new list, a new tuple -/
theorem gd_lst {vs : List V} {l : Addr} (e : Evl.Ex Hb H) (hl : H l = none) (h : IsL K Hb ds vs) : Gd K Hb H (.lst ds) (.ref l) (upd H l (.lst vs)) :=
  ⟨_, .made e hl, is_lst.mpr ⟨l, vs, rfl, upd_same, h.mono (Xt.made e hl).b⟩⟩
theorem gd_tup {vs : List V} {l : Addr} (e : Evl.Ex Hb H) (hl : H l = none) (h : IsL K Hb ds vs) : Gd K Hb H (.tup ds) (.ref l) (upd H l (.tup vs)) :=
  ⟨_, .made e hl, is_tup.mpr ⟨l, vs, rfl, .inl (.inl upd_same), h.mono (Xt.made e hl).b⟩⟩
theorem gd_dct {kvs : List (Key × D)} {vs : List (Key × V)} {l : Addr} (e : Evl.Ex Hb H) (hl : H l = none) (h : IsK K Hb kvs vs) : Gd K Hb H (.dct kvs) (.ref l) (upd H l (.dK vs)) :=
  ⟨_, .made e hl, is_dct.mpr ⟨l, vs, rfl, upd_same, h.mono (Xt.made e hl).b⟩⟩

/-! ### whole numbers -/
theorem rd_I0 {g : Int → Int → V} {i j : Int} (h : ∀ Hb, Is K Hb d (g i j)) : R2D K (rI0 g) (.int i) (.int j) d := fun Hb H v w e h1 h2 Q q => by
  rw [is_int.mp h1, is_int.mp h2]
  exact ⟨i, j, rfl, rfl, q _ _ (gd_same e (h Hb))⟩
theorem rd_I {C : Int → Int → Prop} {g : Int → Int → V} {i j : Int} (hc : C i j) (h : ∀ Hb, Is K Hb d (g i j)) : R2D K (rI C g) (.int i) (.int j) d := fun Hb H v w e h1 h2 Q q => by
  rw [is_int.mp h1, is_int.mp h2]
  exact ⟨i, j, rfl, rfl, hc, q _ _ (gd_same e (h Hb))⟩
variable {i j k : Int}
theorem ed_add (ha : ED X ρ a (.int i)) (hb : ED X ρ b (.int j)) : ED X ρ (.BinOp a .Add b pos) (.int (i + j)) := ed_2 (pe_op op_add pe_sm pe_sm) ha hb (rd_I0 fun _ => is_int.mpr rfl)
theorem ed_sub (ha : ED X ρ a (.int i)) (hb : ED X ρ b (.int j)) : ED X ρ (.BinOp a .Sub b pos) (.int (i - j)) := ed_2 (pe_op op_sub pe_sm pe_sm) ha hb (rd_I0 fun _ => is_int.mpr rfl)
theorem ed_mul (ha : ED X ρ a (.int i)) (hb : ED X ρ b (.int j)) (hc : CMul i j) : ED X ρ (.BinOp a .Mult b pos) (.int (i * j)) := ed_2 (pe_op op_mul pe_sm pe_sm) ha hb (rd_I hc fun _ => is_int.mpr rfl)
theorem ed_mod (ha : ED X ρ a (.int i)) (hb : ED X ρ b (.int j)) (hc : 0 < j) : ED X ρ (.BinOp a .Mod b pos) (.int (i % j)) := ed_2 (pe_op op_mod pe_sm pe_sm) ha hb (rd_I hc fun _ => is_int.mpr rfl)
theorem ed_fdiv (ha : ED X ρ a (.int i)) (hb : ED X ρ b (.int j)) (hc : CDiv i j) : ED X ρ (.BinOp a .FloorDiv b pos) (.int (i / j)) := ed_2 (pe_op op_fdiv pe_sm pe_sm) ha hb (rd_I hc fun _ => is_int.mpr rfl)
/-! ### comparisons -/
theorem ed_cmp {op : CmpOp} {r : R2} (ho : OpR X (compareOp op) r) (ha : ED X ρ a d1) (hb : ED X ρ b d2) (hr : R2D X.K r d1 d2 d) (hm : behindInMarks op b = false) : ED X ρ (.Compare a [op] [b] pos) d := ed_2 (pe_cmpR ho pe_sm pe_sm hm) ha hb hr
theorem et_cmp {op : CmpOp} {r : R2} (ho : OpR X (compareOp op) r) (ha : ED X ρ a d1) (hb : ED X ρ b d2) (hr : R2D X.K r d1 d2 (.bl t)) (hm : behindInMarks op b = false) : ET X ρ (.Compare a [op] [b] pos) t := fun Hb H σ x I => by
  refine .of (pt_cmpR ho pe_sm pe_sm hm) ?_
  refine (ha Hb H σ x I).mono fun v H1 ⟨Hb1, x1, q1⟩ => ?_
  refine (hb Hb1 H1 σ x1.in_ (I.mono x1.b)).mono fun w H2 ⟨Hb2, x2, q2⟩ => ?_
  refine hr Hb2 H2 v w x2.in_ (q1.mono x2.b) q2 _ fun v' H' ⟨Hb3, x3, q3⟩ => ⟨t, is_bl.mp q3, rfl, Hb3, (x1.trans x2).trans x3⟩
theorem et_lt (ha : ED X ρ a (.int i)) (hb : ED X ρ b (.int j)) : ET X ρ (.Compare a [.Lt] [b] pos) (decide (i < j)) := et_cmp op_lt ha hb (rd_I0 fun _ => is_bl.mpr rfl) (nomark _)
theorem et_le (ha : ED X ρ a (.int i)) (hb : ED X ρ b (.int j)) : ET X ρ (.Compare a [.LtE] [b] pos) (decide (i ≤ j)) := et_cmp op_le ha hb (rd_I0 fun _ => is_bl.mpr rfl) (nomark _)
theorem et_gt (ha : ED X ρ a (.int i)) (hb : ED X ρ b (.int j)) : ET X ρ (.Compare a [.Gt] [b] pos) (decide (j < i)) := et_cmp op_gt ha hb (rd_I0 fun _ => is_bl.mpr rfl) (nomark _)
theorem et_ge (ha : ED X ρ a (.int i)) (hb : ED X ρ b (.int j)) : ET X ρ (.Compare a [.GtE] [b] pos) (decide (j ≤ i)) := et_cmp op_ge ha hb (rd_I0 fun _ => is_bl.mpr rfl) (nomark _)
theorem ed_lt (ha : ED X ρ a (.int i)) (hb : ED X ρ b (.int j)) : ED X ρ (.Compare a [.Lt] [b] pos) (.bl (decide (i < j))) := ed_cmp op_lt ha hb (rd_I0 fun _ => is_bl.mpr rfl) (nomark _)
theorem ed_le (ha : ED X ρ a (.int i)) (hb : ED X ρ b (.int j)) : ED X ρ (.Compare a [.LtE] [b] pos) (.bl (decide (i ≤ j))) := ed_cmp op_le ha hb (rd_I0 fun _ => is_bl.mpr rfl) (nomark _)
theorem ed_gt (ha : ED X ρ a (.int i)) (hb : ED X ρ b (.int j)) : ED X ρ (.Compare a [.Gt] [b] pos) (.bl (decide (j < i))) := ed_cmp op_gt ha hb (rd_I0 fun _ => is_bl.mpr rfl) (nomark _)
theorem rd_eqI : R2D K rEq (.int i) (.int j) (.bl (decide (i = j))) := fun Hb H v w e h1 h2 Q q => by
  rw [is_int.mp h1, is_int.mp h2]
  exact ⟨rfl, q _ _ (gd_same e (is_bl.mpr (by congr 1; simp)))⟩
theorem rd_neI : R2D K rNe (.int i) (.int j) (.bl (!decide (i = j))) := fun Hb H v w e h1 h2 Q q => by
  rw [is_int.mp h1, is_int.mp h2]
  exact ⟨rfl, q _ _ (gd_same e (is_bl.mpr (by congr 2; simp)))⟩
theorem rd_eqB {i j : Bool} : R2D K rEq (.bl i) (.bl j) (.bl (decide (i = j))) := fun Hb H v w e h1 h2 Q q => by
  rw [is_bl.mp h1, is_bl.mp h2]
  exact ⟨rfl, q _ _ (gd_same e (is_bl.mpr (by congr 1; simp)))⟩
theorem rd_eqN : R2D K rEq .non (.int j) (.bl false) := fun Hb H v w e h1 h2 Q q => by
  rw [is_non.mp h1, is_int.mp h2]
  exact ⟨rfl, q _ _ (gd_same e (is_bl.mpr rfl))⟩
theorem et_eq (ha : ED X ρ a (.int i)) (hb : ED X ρ b (.int j)) : ET X ρ (.Compare a [.Eq] [b] pos) (decide (i = j)) := et_cmp op_eq ha hb rd_eqI (nomark _)
theorem et_ne (ha : ED X ρ a (.int i)) (hb : ED X ρ b (.int j)) : ET X ρ (.Compare a [.NotEq] [b] pos) (!decide (i = j)) := et_cmp op_ne ha hb rd_neI (nomark _)
theorem ed_eq (ha : ED X ρ a (.int i)) (hb : ED X ρ b (.int j)) : ED X ρ (.Compare a [.Eq] [b] pos) (.bl (decide (i = j))) := ed_cmp op_eq ha hb rd_eqI (nomark _)
theorem et_is (h : ET X ρ e t) (q : t = u) : ET X ρ e u := q ▸ h
theorem ed_is (h : ED X ρ e d1) (q : d1 = d2) : ED X ρ e d2 := q ▸ h
/-! ### tests -/
theorem et_val (h : ED X ρ e (.bl t)) (he : ∀ whole, isTrue e X.env whole = (do let v ← whole; standAt e.pos; holding [v] (truthy v)) := by intro _; rfl) : ET X ρ e t := fun Hb H σ x I =>
  .of (pt_val pe_sm he) ((h Hb H σ x I).mono fun v H1 ⟨Hb1, x1, q1⟩ => ⟨t, is_bl.mp q1, rfl, Hb1, x1⟩)
theorem et_not (h : ET X ρ e t) : ET X ρ (.UnaryOp .Not e pos) (!t) := fun Hb H σ x I => .of (pt_not pt_sm) ((h Hb H σ x I).mono fun v H1 ⟨e1, q⟩ => ⟨by rw [e1], q⟩)
/-- and, or: the first that tells -/
def EO (X : Cx) (ρ : En) (e : Expr) (t : Bool) : Prop := ∃ tt, PW X e tt ∧ ∀ Hb H σ, Evl.Ex Hb H → IsE X.K Hb σ ρ → ∀ Q : Bool → Hp → Prop, (∀ H', (∃ Hb', Xt Hb H Hb' H') → Q t H') → tt σ H Q
theorem eo_et (h : EO X ρ e t) : ET X ρ e t := fun Hb H σ x I => by
  obtain ⟨tt, hp, q⟩ := h
  exact .of hp.pt (q Hb H σ x I _ fun H' r => ⟨rfl, r⟩)
theorem eo_and1 (h : ET X ρ a t) : EO X ρ (.BoolOp .And [a] pos) t := ⟨_, pw_and1 pt_sm, fun Hb H σ x I Q q => (h Hb H σ x I).mono fun v H' ⟨e1, r⟩ => e1 ▸ q H' r⟩
theorem eo_or1 (h : ET X ρ a t) : EO X ρ (.BoolOp .Or [a] pos) t := ⟨_, pw_or1 pt_sm, fun Hb H σ x I Q q => (h Hb H σ x I).mono fun v H' ⟨e1, r⟩ => e1 ▸ q H' r⟩
theorem eo_andT (h : ET X ρ a true) (hr : EO X ρ (.BoolOp .And (b :: es) pos) t) : EO X ρ (.BoolOp .And (a :: b :: es) pos) t := by
  obtain ⟨tt, hp, r⟩ := hr
  refine ⟨_, pw_and pt_sm hp, fun Hb H σ x I Q q => (h Hb H σ x I).mono fun v H' ⟨e1, Hb', x1⟩ => ?_⟩
  subst e1
  exact iteT (r Hb' H' σ x1.in_ (I.mono x1.b) Q fun H'' ⟨Hb'', x2⟩ => q H'' ⟨Hb'', x1.trans x2⟩)
theorem eo_andF (h : ET X ρ a false) {tt : TT} (hp : PW X (.BoolOp .And (b :: es) pos) tt) : EO X ρ (.BoolOp .And (a :: b :: es) pos) false :=
  ⟨_, pw_and pt_sm hp, fun Hb H σ x I Q q => (h Hb H σ x I).mono fun v H' ⟨e1, r⟩ => by subst e1; exact iteF (q H' r)⟩
theorem eo_orF (h : ET X ρ a false) (hr : EO X ρ (.BoolOp .Or (b :: es) pos) t) : EO X ρ (.BoolOp .Or (a :: b :: es) pos) t := by
  obtain ⟨tt, hp, r⟩ := hr
  refine ⟨_, pw_or pt_sm hp, fun Hb H σ x I Q q => (h Hb H σ x I).mono fun v H' ⟨e1, Hb', x1⟩ => ?_⟩
  subst e1
  exact iteF (r Hb' H' σ x1.in_ (I.mono x1.b) Q fun H'' ⟨Hb'', x2⟩ => q H'' ⟨Hb'', x1.trans x2⟩)
theorem eo_orT (h : ET X ρ a true) {tt : TT} (hp : PW X (.BoolOp .Or (b :: es) pos) tt) : EO X ρ (.BoolOp .Or (a :: b :: es) pos) true :=
  ⟨_, pw_or pt_sm hp, fun Hb H σ x I Q q => (h Hb H σ x I).mono fun v H' ⟨e1, r⟩ => by subst e1; exact iteT (q H' r)⟩
def SmW (X : Cx) (e : Expr) : TT := fun σ H Q => ∀ whole pins s, Inv X pins σ H s → wpAny (model X.prog X.w) X.A (isTrue e X.env whole) (TP X pins σ Q) X.xe s
theorem pw_sm : PW X e (SmW X e) := ⟨fun wh pins s σ H Q I h => h wh pins s I⟩
/-- and, or with what is to be shown only where it is asked -/
theorem eo_and {t2 : Bool} (h : ET X ρ a t) (hr : t = true → EO X ρ (.BoolOp .And (b :: es) pos) t2) : EO X ρ (.BoolOp .And (a :: b :: es) pos) (t && t2) := by
  cases t with
  | true => exact eo_andT h (hr rfl)
  | false => exact eo_andF h pw_sm
theorem eo_or {t2 : Bool} (h : ET X ρ a t) (hr : t = false → EO X ρ (.BoolOp .Or (b :: es) pos) t2) : EO X ρ (.BoolOp .Or (a :: b :: es) pos) (t || t2) := by
  cases t with
  | false => exact eo_orF h (hr rfl)
  | true => exact eo_orT h pw_sm
/-- .. as values -/
theorem ed_one {op : BoolOp} (h : ED X ρ a d) : ED X ρ (.BoolOp op [a] pos) d := fun Hb H σ x I => .of (pe_one pe_sm) (h Hb H σ x I)
theorem ed_and {t2 : Bool} (h : ED X ρ a (.bl t)) (hr : t = true → ED X ρ (.BoolOp .And (b :: es) pos) (.bl t2)) : ED X ρ (.BoolOp .And (a :: b :: es) pos) (.bl (t && t2)) := fun Hb H σ x I => by
  refine .of (pe_and pe_sm pe_sm) ((h Hb H σ x I).mono fun v H' ⟨Hb', x1, q1⟩ => ⟨t, is_bl.mp q1, ?_⟩)
  cases t with
  | true => exact iteT ((hr rfl Hb' H' σ x1.in_ (I.mono x1.b)).mono fun v' H'' g => g.trans x1)
  | false => exact iteF ⟨Hb', x1, is_bl.mpr rfl⟩
theorem ed_or {t2 : Bool} (h : ED X ρ a (.bl t)) (hr : t = false → ED X ρ (.BoolOp .Or (b :: es) pos) (.bl t2)) : ED X ρ (.BoolOp .Or (a :: b :: es) pos) (.bl (t || t2)) := fun Hb H σ x I => by
  refine .of (pe_or pe_sm pe_sm) ((h Hb H σ x I).mono fun v H' ⟨Hb', x1, q1⟩ => ⟨t, is_bl.mp q1, ?_⟩)
  cases t with
  | false => exact iteF ((hr rfl Hb' H' σ x1.in_ (I.mono x1.b)).mono fun v' H'' g => g.trans x1)
  | true => exact iteT ⟨Hb', x1, is_bl.mpr rfl⟩
theorem ed_not (h : ED X ρ e (.bl t)) : ED X ρ (.UnaryOp .Not e pos) (.bl (!t)) := fun Hb H σ x I =>
  .of (pe_not pe_sm) ((h Hb H σ x I).mono fun v H' ⟨Hb', x1, q1⟩ => ⟨t, is_bl.mp q1, Hb', x1, is_bl.mpr rfl⟩)
theorem ed_if (hc : ET X ρ c t) (ha : t = true → ED X ρ a d) (hb : t = false → ED X ρ b d) : ED X ρ (.IfExp c a b pos) d := fun Hb H σ x I =>
  .of (pe_ifExp pt_sm pe_sm pe_sm) ((hc Hb H σ x I).mono fun v H' ⟨e1, Hb', x1⟩ => by
    subst e1
    cases v with
    | true => exact iteT ((ha rfl Hb' H' σ x1.in_ (I.mono x1.b)).mono fun v' H'' g => g.trans x1)
    | false => exact iteF ((hb rfl Hb' H' σ x1.in_ (I.mono x1.b)).mono fun v' H'' g => g.trans x1))
/-! ### displays -/
theorem ed_tup {x1} (h : ES X ρ es ds) (hz : ds.length ≤ sizeLine) : ED X ρ (.Tuple es x1 pos) (.tup ds) := fun Hb H σ x I => by
  obtain ⟨ta, hp, q⟩ := h
  refine .of (pe_tup hp) (q Hb H σ x I _ fun vs H1 Hb1 x1 q1 => ⟨by rw [q1.length]; exact hz, fun p hp => ?_⟩)
  exact (gd_tup x1.in_ hp q1).trans x1
theorem ed_lst (h : ES X ρ es ds) (hz : ds.length ≤ sizeLine) : ED X ρ (.List es pos) (.lst ds) := fun Hb H σ x I => by
  obtain ⟨ta, hp, q⟩ := h
  refine .of (pe_lst hp) (q Hb H σ x I _ fun vs H1 Hb1 x1 q1 => ⟨by rw [q1.length]; exact hz, fun p hp => ?_⟩)
  exact (gd_lst x1.in_ hp q1).trans x1
theorem ed_dict0 : ED X ρ (.Dict [] [] pos) (.dct []) := fun Hb H σ x I => .of pe_dnewK fun p hp => gd_dct x hp (isK_nil.mpr rfl)
/-! ### parts -/
theorem rd_ixL {n : Nat} (h : ds[n]? = some d) : R2D K (rIxL K) (.lst ds) (.int (n : Int)) d := fun Hb H v w e h1 h2 Q q => by
  rw [is_int.mp h2]
  obtain ⟨a, vs, rfl, ha, hv⟩ := is_lst.mp h1
  obtain ⟨v, g1, g2⟩ := hv.get h
  exact ⟨a, vs, n, v, rfl, rfl, SqL.of (e _ _ ha), atI_nat g1, q _ _ (gd_same e g2)⟩
theorem rd_ixS {n : Nat} (h : ds[n]? = some d) : R2D K (rIxL K) (.scr ds) (.int (n : Int)) d := fun Hb H v w e h1 h2 Q q => by
  rw [is_int.mp h2]
  obtain ⟨a, o, vs, rfl, ha, hv⟩ := is_scr.mp h1
  obtain ⟨v, g1, g2⟩ := hv.get h
  exact ⟨a, vs, n, v, rfl, rfl, Or.inl (Or.inr ⟨o, e _ _ ha⟩), atI_nat g1, q _ _ (gd_same e g2)⟩
theorem rd_ixT {n : Nat} (h : ds[n]? = some d) : R2D K (rIxT K) (.tup ds) (.int (n : Int)) d := fun Hb H v w e h1 h2 Q q => by
  rw [is_int.mp h2]
  obtain ⟨a, vs, rfl, ha, hv⟩ := is_tup.mp h1
  obtain ⟨v, g1, g2⟩ := hv.get h
  exact ⟨a, vs, n, v, rfl, rfl, Evl.ex_t e ha, atI_nat g1, q _ _ (gd_same e g2)⟩
theorem ed_ixL {n : Nat} (ha : ED X ρ a (.lst ds)) (hb : ED X ρ b (.int (n : Int))) (h : ds[n]? = some d) (hs : PlainIx b := by exact fun _ _ => rfl) : ED X ρ (.Subscript a b pos) d := ed_2 (pe_ix ix_list pe_sm pe_sm hs) ha hb (rd_ixL h)
theorem ed_ixS {n : Nat} (ha : ED X ρ a (.scr ds)) (hb : ED X ρ b (.int (n : Int))) (h : ds[n]? = some d) (hs : PlainIx b := by exact fun _ _ => rfl) : ED X ρ (.Subscript a b pos) d := ed_2 (pe_ix ix_list pe_sm pe_sm hs) ha hb (rd_ixS h)
theorem ed_ixT {n : Nat} (ha : ED X ρ a (.tup ds)) (hb : ED X ρ b (.int (n : Int))) (h : ds[n]? = some d) (hs : PlainIx b := by exact fun _ _ => rfl) : ED X ρ (.Subscript a b pos) d := ed_2 (pe_ix ix_tup pe_sm pe_sm hs) ha hb (rd_ixT h)
theorem ed_fld {C : Addr} {fs : List (Str × D)} {f : Str} (h : ED X ρ e (.obj C fs)) (cl : Cls X.K C) (na : NoAttr X.K C f) (hf : fs.lookup f = some d) (hb : attributeBase e f X.env (eval e X.env) = eval e X.env := by rfl) : ED X ρ (.Attribute e f pos) d := fun Hb H σ x I =>
  .of (pe_fld pe_sm hb) ((h Hb H σ x I).mono fun v H1 ⟨Hb1, x1, q1⟩ => by
    obtain ⟨a, dx, ws, rfl, ha, hw⟩ := is_obj.mp q1
    obtain ⟨w, g1, g2⟩ := hw.lookup hf
    exact ⟨a, C, dx, ws, w, rfl, x1.in_ _ _ ha, cl, na, g1, Hb1, x1, g2⟩)
/-! ### built-in functions -/
theorem rc_lenL : RCD K (fun xs H Q => ∃ p ys, xs = [.ref p] ∧ (SqL K H p ys ∨ SqT K H p ys) ∧ Q (.int ys.length) H) [.lst ds] (.int (ds.length : Int)) := fun Hb H vs e h Q q => by
  obtain ⟨v, rfl, h1⟩ := es_one h
  obtain ⟨a, ws, rfl, ha, hw⟩ := is_lst.mp h1
  exact ⟨a, ws, rfl, .inl (SqL.of (e _ _ ha)), by rw [hw.length]; exact q _ _ (gd_int e)⟩
theorem rc_lenS : RCD K (fun xs H Q => ∃ p ys, xs = [.ref p] ∧ (SqL K H p ys ∨ SqT K H p ys) ∧ Q (.int ys.length) H) [.scr ds] (.int (ds.length : Int)) := fun Hb H vs e h Q q => by
  obtain ⟨v, rfl, h1⟩ := es_one h
  obtain ⟨a, o, ws, rfl, ha, hw⟩ := is_scr.mp h1
  exact ⟨a, ws, rfl, .inl (Or.inl (Or.inr ⟨o, e _ _ ha⟩)), by rw [hw.length]; exact q _ _ (gd_int e)⟩
theorem rc_lenT : RCD K (fun xs H Q => ∃ p ys, xs = [.ref p] ∧ (SqL K H p ys ∨ SqT K H p ys) ∧ Q (.int ys.length) H) [.tup ds] (.int (ds.length : Int)) := fun Hb H vs e h Q q => by
  obtain ⟨v, rfl, h1⟩ := es_one h
  obtain ⟨a, ws, rfl, ha, hw⟩ := is_tup.mp h1
  exact ⟨a, ws, rfl, .inr (Evl.ex_t e ha), by rw [hw.length]; exact q _ _ (gd_int e)⟩
theorem ed_lenL (g : X.mg "len" = none) (h : ED X ρ e (.lst ds)) (hg : Gl X "len" := by rfl) (he : starEach [e] X.env = (false, eval e X.env) :: starEach [] X.env := by rfl) : ED X ρ (.Call (.Name "len" p) [e] [] pos) (.int (ds.length : Int)) :=
  ed_callB call_len_seq g PySem.boot_len (es_cons h es_nil he) rc_lenL hg (by decide) (by decide) he
theorem ed_lenS (g : X.mg "len" = none) (h : ED X ρ e (.scr ds)) (hg : Gl X "len" := by rfl) (he : starEach [e] X.env = (false, eval e X.env) :: starEach [] X.env := by rfl) : ED X ρ (.Call (.Name "len" p) [e] [] pos) (.int (ds.length : Int)) :=
  ed_callB call_len_seq g PySem.boot_len (es_cons h es_nil he) rc_lenS hg (by decide) (by decide) he
theorem ed_lenT (g : X.mg "len" = none) (h : ED X ρ e (.tup ds)) (hg : Gl X "len" := by rfl) (he : starEach [e] X.env = (false, eval e X.env) :: starEach [] X.env := by rfl) : ED X ρ (.Call (.Name "len" p) [e] [] pos) (.int (ds.length : Int)) :=
  ed_callB call_len_seq g PySem.boot_len (es_cons h es_nil he) rc_lenT hg (by decide) (by decide) he
end
end Sm
set_option maxHeartbeats 4000000
/-! Sm3: assertions; expressions that keep an assertion; list comprehensions. -/
namespace Sm
open PySem PySem.Spec PyProof.Rows L2

abbrev As := Hp → Hp → Prop
/-- kept by whatever leaves all else -/
class Stb (W : As) : Prop where
  st : ∀ {Hb H Hb' H' : Hp}, W Hb H → Xt Hb H Hb' H' → W Hb' H'
def Tt : As := fun _ _ => True
instance : Stb Tt := ⟨fun _ _ => trivial⟩
/-- W, and a fact -/
def Pr (Φ : Prop) (W : As) : As := fun Hb H => Φ ∧ W Hb H
instance prStb {Φ : Prop} {W : As} [Stb W] : Stb (Pr Φ W) := ⟨fun ⟨a, b⟩ x => ⟨a, Stb.st b x⟩⟩
instance xtStb {Hb0 H0 : Hp} : Stb (Xt Hb0 H0) := ⟨fun h x => h.trans x⟩
/-- the heap without l -/
def hid (H : Hp) (l : Addr) : Hp := fun b => if b = l then none else H b
theorem hid_same {H : Hp} {l : Addr} : hid H l l = none := by unfold hid; rw [if_pos rfl]
theorem hid_ne {H : Hp} {l b : Addr} (h : b ≠ l) : hid H l b = H b := by unfold hid; rw [if_neg h]
theorem hid_upd {H : Hp} {l : Addr} {o : HO} : hid (upd H l o) l = hid H l := by
  funext b
  by_cases h : b = l
  · rw [h, hid_same, hid_same]
  · rw [hid_ne h, hid_ne h, upd_ne h]
theorem hid_of_none {H : Hp} {l : Addr} (h : H l = none) : hid H l = H := by
  funext b
  by_cases e : b = l
  · rw [e, hid_same, h]
  · rw [hid_ne e]
theorem hid_swap {H : Hp} {l m : Addr} : hid (hid H l) m = hid (hid H m) l := by
  funext b
  unfold hid
  split <;> split <;> rfl
theorem hid_ex {H : Hp} {l : Addr} : Evl.Ex (hid H l) H := fun a o h => by
  by_cases e : a = l
  · rw [e, hid_same] at h; cases h
  · rw [hid_ne e] at h; exact h
theorem ex_hid {Hb H : Hp} {l : Addr} (e : Evl.Ex Hb H) (h : Hb l = none) : Evl.Ex Hb (hid H l) := fun a o q => by
  rw [hid_ne (ne_of_none q h)]
  exact e a o q
theorem Xt.hid {Hb H Hb' H' : Hp} {l : Addr} (x : Xt Hb H Hb' H') (h : Hb l = none) (h2 : H l ≠ none) : Xt Hb (hid H l) Hb' (hid H' l) :=
  ⟨fun a o q => by
    by_cases e : a = l
    · rw [e, hid_same] at q; cases q
    · rw [hid_ne e] at q ⊢; exact x.h a o q, x.b, ex_hid x.in_ (x.new l h2 h), fun a h1 h3 => by
    by_cases e : a = l
    · rw [e, hid_same] at h1; exact absurd rfl h1
    · rw [hid_ne e] at h1; exact x.new a h1 h3⟩
/-- beside W there is a list of es at l that may change -/
def Fram (K : PySem.W.Frag) (W : As) (l : Addr) (es : List D) : As := fun Hb H => Hb l = none ∧ (∃ ys, H l = some (.lst ys) ∧ IsL K Hb es ys) ∧ W Hb (hid H l)
instance framStb {K : PySem.W.Frag} {W : As} {l : Addr} {es : List D} [Stb W] : Stb (Fram K W l es) := ⟨fun {Hb H Hb' H'} ⟨h1, ⟨ys, h2, h3⟩, h4⟩ x =>
  have n : H l ≠ none := by rw [h2]; exact fun z => nomatch z
  ⟨x.new l n h1, ⟨ys, x.h _ _ h2, h3.mono x.b⟩, Stb.st h4 (x.hid h1 n)⟩⟩
section
variable {K : PySem.W.Frag} {W : As} {l : Addr} {es : List D} {Hb H : Hp}
theorem Fram.new {o : HO} (h : W Hb H) (e : Evl.Ex Hb H) (hl : H l = none) : Fram K W l [] Hb (upd H l (.lst [])) :=
  ⟨Evl.fresh_back e hl, ⟨[], upd_same, isL_nil.mpr rfl⟩, by rw [hid_upd, hid_of_none hl]; exact h⟩
theorem Fram.put {es' : List D} {ys' : List V} (h : Fram K W l es Hb H) (hy : IsL K Hb es' ys') : Fram K W l es' Hb (upd H l (.lst ys')) :=
  ⟨h.1, ⟨ys', upd_same, hy⟩, by rw [hid_upd]; exact h.2.2⟩
/-- it is known for good from now on -/
theorem Fram.done [Stb W] (h : Fram K W l es Hb H) (e : Evl.Ex Hb H) : ∃ Hb', Evl.Ex Hb Hb' ∧ Evl.Ex Hb' H ∧ W Hb' H ∧ Is K Hb' (.lst es) (.ref l) := by
  obtain ⟨h1, ⟨ys, h2, h3⟩, h4⟩ := h
  have x : Xt Hb (hid H l) (upd Hb l (.lst ys)) H := ⟨hid_ex, Evl.Ex.new h1, fun a o q => by
    by_cases z : a = l
    · rw [z, upd_same] at q; rw [z, h2]; exact q
    · rw [upd_ne z] at q; exact e a o q, fun a g1 g2 => by
    by_cases z : a = l
    · rw [z, hid_same] at g1; exact absurd rfl g1
    · rw [upd_ne z]; exact g2⟩
  exact ⟨_, x.b, x.in_, Stb.st h4 x, is_lst.mpr ⟨l, ys, rfl, upd_same, h3.mono x.b⟩⟩
theorem Fram.swap {m : Addr} {fs : List D} (h : Fram K (Fram K W l es) m fs Hb H) : Fram K (Fram K W m fs) l es Hb H := by
  obtain ⟨h1, ⟨ys, h2, h3⟩, h4, ⟨zs, h5, h6⟩, h7⟩ := h
  have ne : l ≠ m := fun z => by rw [z, hid_same] at h5; cases h5
  rw [hid_ne ne] at h5
  exact ⟨h4, ⟨zs, h5, h6⟩, h1, ⟨ys, by rw [hid_ne ne.symm]; exact h2, h3⟩, by rw [hid_swap]; exact h7⟩
end

/-- an expression that keeps W and gives one of P -/
def EW (X : Cx) (W : As) (ρ : En) (e : Expr) (P : D → Prop) : Prop := ∀ Hb H σ, Evl.Ex Hb H → IsE X.K Hb σ ρ → W Hb H → SmE X e σ H fun v H' => ∃ Hb' d, Evl.Ex Hb Hb' ∧ Evl.Ex Hb' H' ∧ W Hb' H' ∧ P d ∧ Is X.K Hb' d v
def TW (X : Cx) (W : As) (ρ : En) (e : Expr) (P : Bool → Prop) : Prop := ∀ Hb H σ, Evl.Ex Hb H → IsE X.K Hb σ ρ → W Hb H → SmT X e σ H fun b H' => ∃ Hb', Evl.Ex Hb Hb' ∧ Evl.Ex Hb' H' ∧ W Hb' H' ∧ P b
def SmTs (X : Cx) (ifs : List Expr) : TT := fun σ H Q => ∀ pins s, Inv X pins σ H s →
    wpAny (model X.prog X.w) X.A (forIn ifs true fun c r => if r = true then do let ok ← isTrue c X.env (eval c X.env); pure (ForInStep.yield ok) else pure (ForInStep.yield r)) (TP X pins σ Q) X.xe s
/-- a clause's tests -/
def TWs (X : Cx) (W : As) (ρ : En) (ifs : List Expr) (P : Bool → Prop) : Prop := ∀ Hb H σ, Evl.Ex Hb H → IsE X.K Hb σ ρ → W Hb H → SmTs X ifs σ H fun b H' => ∃ Hb', Evl.Ex Hb Hb' ∧ Evl.Ex Hb' H' ∧ W Hb' H' ∧ P b
section
variable {X : Cx} {W : As} {ρ : En} {e c : Expr} {d : D} {b : Bool} {P : D → Prop} {B : Bool → Prop}
theorem ew_ed [Stb W] (h : ED X ρ e d) : EW X W ρ e (· = d) := fun Hb H σ x I w => (h Hb H σ x I).mono fun v H' ⟨Hb', x1, q⟩ => ⟨Hb', d, x1.b, x1.in_, Stb.st w x1, rfl, q⟩
theorem tw_et [Stb W] (h : ET X ρ e b) : TW X W ρ e (· = b) := fun Hb H σ x I w => (h Hb H σ x I).mono fun v H' ⟨e1, Hb', x1⟩ => ⟨Hb', x1.b, x1.in_, Stb.st w x1, e1⟩
theorem EW.imp {P' : D → Prop} (h : EW X W ρ e P) (k : ∀ d, P d → P' d) : EW X W ρ e P' := fun Hb H σ x I w => (h Hb H σ x I w).mono fun v H' ⟨Hb', d, a1, a2, a3, a4, a5⟩ => ⟨Hb', d, a1, a2, a3, k _ a4, a5⟩
theorem TW.imp {P' : Bool → Prop} (h : TW X W ρ e B) (k : ∀ d, B d → P' d) : TW X W ρ e P' := fun Hb H σ x I w => (h Hb H σ x I w).mono fun v H' ⟨Hb', a1, a2, a3, a4⟩ => ⟨Hb', a1, a2, a3, k _ a4⟩
theorem tws_nil : TWs X W ρ [] (· = true) := fun Hb H σ x I w pins s J => pts_nil.run pins s σ H _ J ⟨Hb, Evl.Ex.refl _, x, w, rfl⟩
theorem tws_one (h : TW X W ρ c B) : TWs X W ρ [c] B := fun Hb H σ x I w pins s J => (pts_one pt_sm).run pins s σ H _ J (h Hb H σ x I w)
end

/-! ### what is walked -/
def Wk (K : PySem.W.Frag) (Hb : Hp) (J : It) (ds : List D) : Prop :=
  (∀ i H, Evl.Ex Hb H → i < ds.length → J.go i H) ∧ (∀ i H, Evl.Ex Hb H → ds.length ≤ i → J.stop i H) ∧
  ∀ (i : Nat) (Hi H : Hp) (x : V) (H' : Hp) (d : D), Evl.Ex Hb Hi → Evl.Ex Hi H → ds[i]? = some d → J.yld i H x H' → Gd K Hi H d x H'
def EI (X : Cx) (ρ : En) (tg iter : Expr) (ds : List D) : Prop := ∃ wi, PI X tg iter wi ∧ ∀ Hb H σ, Evl.Ex Hb H → IsE X.K Hb σ ρ → ∀ R : It → Hp → Prop, (∀ J H1 Hb1, Xt Hb H Hb1 H1 → Wk X.K Hb1 J ds → R J H1) → wi σ H R
section
variable {X : Cx} {ρ : En} {K : PySem.W.Frag} {tg e e2 : Expr} {ds ds2 : List D} {Hb : Hp} {p pos : Pos}
theorem wk_list {a : Addr} {vs : List V} (ha : Hb a = some (.lst vs)) (h : IsL K Hb ds vs) : Wk K Hb (Itl K a) ds := by
  refine ⟨fun i H x hi => ?_, fun i H x hi => ⟨vs, SqL.of (x _ _ ha), by rw [h.length]; exact hi⟩, fun i Hi H y H' d x1 x2 hd hy => ?_⟩
  · have hv : i < vs.length := by rw [h.length]; exact hi
    exact ⟨vs, vs[i], SqL.of (x _ _ ha), List.getElem?_eq_getElem hv⟩
  · obtain ⟨e, q⟩ := hy
    subst e
    obtain ⟨v, g1, g2⟩ := h.get hd
    have g3 := q vs (SqL.of (x2 _ _ (x1 _ _ ha)))
    rw [g1] at g3
    cases g3
    exact gd_same x2 (g2.mono x1)
theorem wk_tup {a : Addr} {vs : List V} (ha : SqT K Hb a vs) (h : IsL K Hb ds vs) : Wk K Hb (Itt K a) ds := by
  refine ⟨fun i H x hi => ?_, fun i H x hi => ⟨vs, Evl.ex_t x ha, by rw [h.length]; exact hi⟩, fun i Hi H y H' d x1 x2 hd hy => ?_⟩
  · have hv : i < vs.length := by rw [h.length]; exact hi
    exact ⟨vs, vs[i], Evl.ex_t x ha, List.getElem?_eq_getElem hv⟩
  · obtain ⟨e, q⟩ := hy
    subst e
    obtain ⟨v, g1, g2⟩ := h.get hd
    have g3 := q vs (Evl.ex_t (x1.trans x2) ha)
    rw [g1] at g3
    cases g3
    exact gd_same x2 (g2.mono x1)
theorem ei_list (h : ED X ρ e (.lst ds)) : EI X ρ tg e ds := ⟨_, pi_list pe_sm, fun Hb H σ x I R k => (h Hb H σ x I).mono fun v H1 ⟨Hb1, x1, q⟩ => by
  obtain ⟨a, vs, rfl, ha, hv⟩ := is_lst.mp q
  exact ⟨a, rfl, ⟨vs, SqL.of (x1.in_ _ _ ha)⟩, k _ _ Hb1 x1 (wk_list ha hv)⟩⟩
theorem ei_tup (h : ED X ρ e (.tup ds)) : EI X ρ tg e ds := ⟨_, pi_tup pe_sm, fun Hb H σ x I R k => (h Hb H σ x I).mono fun v H1 ⟨Hb1, x1, q⟩ => by
  obtain ⟨a, vs, rfl, ha, hv⟩ := is_tup.mp q
  exact ⟨a, rfl, ⟨vs, Evl.ex_t x1.in_ ha⟩, k _ _ Hb1 x1 (wk_tup ha hv)⟩⟩
/-- lo, lo + 1, .. -/
def rngD (lo : Int) (n : Nat) : List D := (List.range n).map fun (i : Nat) => D.int (lo + (i : Int))
theorem wk_range {lo : Int} {n : Nat} : Wk K Hb (Itr lo n) (rngD lo n) := by
  have hl : (rngD lo n).length = n := by simp [rngD]
  refine ⟨fun i H x hi => by rw [hl] at hi; exact hi, fun i H x hi => by rw [hl] at hi; exact hi, fun i Hi H y H' d x1 x2 hd hy => ?_⟩
  obtain ⟨e1, e2⟩ := hy
  subst e1 e2
  unfold rngD at hd
  rw [List.getElem?_map] at hd
  obtain ⟨j, h1, h2⟩ := Option.map_eq_some_iff.mp hd
  rw [List.getElem?_range] at h1
  · cases h1
    subst h2
    exact gd_same x2 (is_int.mpr rfl)
  · have := (List.getElem?_eq_some_iff.mp h1).1
    simpa using this
theorem ei_range1 {n : Nat} (g : X.mg "range" = none) (h : ED X ρ e (.int (n : Int))) (hz : (n : Int) < 2 ^ 62) (hg : Gl X "range" := by rfl) (hs : starEach [e] X.env = [(false, eval e X.env)] := by rfl) : EI X ρ tg (.Call (.Name "range" p) [e] [] pos) (rngD 0 n) := by
  obtain ⟨ta, hp, q⟩ := es_cons h es_nil hs
  refine ⟨_, pi_range1 hg g hp hs, fun Hb H σ x I R k => q Hb H σ x I _ fun vs H1 Hb1 x1 q1 => ?_⟩
  rw [es_one_int q1]
  refine ⟨n, rfl, by omega, hz, ?_⟩
  rw [Int.toNat_natCast]
  exact k _ _ Hb1 x1 wk_range
theorem ei_range2 {lo hi : Int} (g : X.mg "range" = none) (h : ED X ρ e (.int lo)) (h2 : ED X ρ e2 (.int hi)) (hz : -(2 ^ 62) ≤ lo ∧ lo < 2 ^ 62 ∧ -(2 ^ 62) ≤ hi ∧ hi < 2 ^ 62) (hg : Gl X "range" := by rfl)
    (hs : starEach [e, e2] X.env = [(false, eval e X.env), (false, eval e2 X.env)] := by rfl) (hs2 : starEach [e2] X.env = [(false, eval e2 X.env)] := by rfl) : EI X ρ tg (.Call (.Name "range" p) [e, e2] [] pos) (rngD lo (hi - lo).toNat) := by
  obtain ⟨ta, hp, q⟩ := es_cons h (es_cons h2 es_nil hs2) (hs.trans (by rw [hs2]))
  refine ⟨_, pi_range2 hg g hp hs hs2, fun Hb H σ x I R k => q Hb H σ x I _ fun vs H1 Hb1 x1 q1 => ?_⟩
  rw [es_two_int q1]
  exact ⟨lo, hi, rfl, hz, k _ _ Hb1 x1 wk_range⟩
end

/-! ### comprehensions -/
/-- from ds, item by item, by T (none: left out) -/
inductive Trn {α : Type} (T : α → Option D → Prop) : List α → List D → Prop
  | nil : Trn T [] []
  | skip {d : α} {ds : List α} {es : List D} : T d none → Trn T ds es → Trn T (d :: ds) es
  | take {d : α} {r : D} {ds : List α} {es : List D} : T d (some r) → Trn T ds es → Trn T (d :: ds) (r :: es)
section
variable {α : Type}
theorem Trn.snoc_skip {T : α → Option D → Prop} {d : α} : ∀ {ds : List α} {es : List D}, Trn T ds es → T d none → Trn T (ds ++ [d]) es
  | _, _, .nil, t => .skip t .nil
  | _, _, .skip a h, t => .skip a (h.snoc_skip t)
  | _, _, .take a h, t => .take a (h.snoc_skip t)
theorem Trn.snoc_take {T : α → Option D → Prop} {d : α} {r : D} : ∀ {ds : List α} {es : List D}, Trn T ds es → T d (some r) → Trn T (ds ++ [d]) (es ++ [r])
  | _, _, .nil, t => .take t .nil
  | _, _, .skip a h, t => .skip a (h.snoc_take t)
  | _, _, .take a h, t => .take a (h.snoc_take t)
theorem Trn.length {T : α → Option D → Prop} : ∀ {ds : List α} {es : List D}, Trn T ds es → es.length ≤ ds.length
  | _, _, .nil => Nat.le_refl _
  | _, _, .skip _ h => Nat.le_succ_of_le h.length
  | _, _, .take _ h => Nat.succ_le_succ h.length
theorem Trn.det {T : α → Option D → Prop} {p : α → Bool} {f : α → D} : ∀ {ds : List α} {es : List D}, Trn T ds es → (∀ d ∈ ds, ∀ o, T d o → o = if p d then some (f d) else none) → es = (ds.filter p).map f
  | _, _, .nil, _ => rfl
  | d :: ds, es, .skip t h, k => by
    have h1 := k d List.mem_cons_self _ t
    have hp : p d = false := by
      cases q : p d with
      | false => rfl
      | true => rw [q, if_pos rfl] at h1; cases h1
    rw [List.filter_cons, hp, if_neg Bool.false_ne_true]
    exact h.det fun x hx => k x (List.mem_cons_of_mem _ hx)
  | d :: ds, _, .take (es := es) t h, k => by
    have h1 := k d List.mem_cons_self _ t
    have hp : p d = true := by
      cases q : p d with
      | true => rfl
      | false => rw [q, if_neg Bool.false_ne_true] at h1; cases h1
    rw [hp, if_pos rfl] at h1
    cases h1
    rw [List.filter_cons, hp, if_pos rfl, List.map_cons, h.det fun x hx => k x (List.mem_cons_of_mem _ hx)]
/-- all of them such -/
theorem Trn.all {T : α → Option D → Prop} {P : D → Prop} : ∀ {ds : List α} {es : List D}, Trn T ds es → (∀ d ∈ ds, ∀ r, T d (some r) → P r) → ∀ e ∈ es, P e
  | _, _, .nil, _, e, he => by cases he
  | _, _, .skip _ h, k, e, he => h.all (fun d hd => k d (List.mem_cons_of_mem _ hd)) e he
  | d :: ds, _, .take t h, k, e, he => by
    rcases List.mem_cons.mp he with z | z
    · rw [z]; exact k d List.mem_cons_self _ t
    · exact h.all (fun d hd => k d (List.mem_cons_of_mem _ hd)) e z
end

/-- what a target does with the data -/
def TgD (K : PySem.W.Frag) (g : TG) (vs : List Nat) (ρw : En) (d : D) (ρ' : En) : Prop := ∀ Hb H σ x, Evl.Ex Hb H → IsE K Hb σ ρw → Is K Hb d x → ∀ Q : L2.St → Hp → Prop, (∀ σ', IsE K Hb σ' ρ' → L2.wipe σ' vs = L2.wipe σ vs → Q σ' H) → g x σ H Q
section
variable {X : Cx} {W : As} {ρ : En} {elt tg iter : Expr} {ifs : List Expr} {scope : Scope} {own : List (Str × Nat)} {pos : Pos} {ds : List D} {g : TG}
theorem wipe_wipe {σ : L2.St} : ∀ {vs : List Nat}, L2.wipe (L2.wipe σ vs) vs = L2.wipe σ vs := by
  have h : ∀ (vs ws : List Nat) (σ : L2.St) (i : Nat), (L2.wipe σ vs)[i]? = if i ∈ vs then (if i < σ.length then some none else none) else σ[i]? := by
    intro vs
    induction vs with
    | nil => intro ws σ i; simp [L2.wipe]
    | cons v vs ih =>
      intro ws σ i
      show ((L2.wipe σ vs).set v none)[i]? = _
      by_cases e : v = i
      · subst e
        rw [List.getElem?_set_self']
        rw [ih ws σ v]
        by_cases hm : v ∈ vs
        · simp [hm]
        · simp [hm]
          by_cases hl : v < σ.length
          · simp [hl]
          · simp [hl]
      · rw [List.getElem?_set_ne e, ih ws σ i]
        have : (i ∈ v :: vs) ↔ (i ∈ vs) := by simp [Ne.symm e]
        simp only [this]
  intro vs
  apply List.ext_getElem?
  intro i
  rw [h vs [] _ i, h vs [] _ i, wipe_length]
  split <;> rfl
/-- the reading of a comprehension -/
theorem lc_read {α : Type} {xs : List α} (enc : α → D) {wi : TI} {T : α → Option D → Prop} {τ : α → En} {Hb H : Hp} {σ : L2.St} {Q : VK} (e0 : Evl.Ex Hb H) (I0 : IsE X.K Hb σ ρ) (w0 : W Hb H) [Stb W] (hz : xs.length ≤ sizeLine)
    (hwi : ∀ R : It → Hp → Prop, (∀ J H1 Hb1, Xt Hb H Hb1 H1 → Wk X.K Hb1 J (xs.map enc) → R J H1) → wi σ H R)
    (hτ : ∀ d ∈ xs, TgD X.K g (own.map (·.2)) (wipeD ρ (own.map (·.2))) (enc d) (τ d)) (B : α → Bool → Prop) (P : α → D → Prop) (hT0 : ∀ d ∈ xs, B d false → T d none) (hT1 : ∀ d ∈ xs, ∀ r, B d true → P d r → T d (some r))
    (ht : ∀ d ∈ xs, ∀ (l : Addr) (es : List D) (s : Shared) (H : Hp) (C : Addr) (cl : List (Str × Addr)) (fp : List Addr), TWs (X.blk s H scope (compEnvC scope cl C X.env) fp) (Fram X.K W l es) (τ d) ifs (B d))
    (he : ∀ d ∈ xs, B d true → ∀ (l : Addr) (es : List D) (s : Shared) (H : Hp) (C : Addr) (cl : List (Str × Addr)) (fp : List Addr), EW (X.blk s H scope (compEnvC scope cl C X.env) fp) (Fram X.K W l es) (τ d) elt (P d))
    (hQ : ∀ es v H' Hb', Trn T xs es → Evl.Ex Hb Hb' → Evl.Ex Hb' H' → W Hb' H' → Is X.K Hb' (.lst es) v → Q v H') :
    tLc wi g (fun σ H Q => ∀ (s : Shared) (H0 : Hp) (C : Addr) (cl : List (Str × Addr)) (fp : List Addr), SmTs (X.blk s H0 scope (compEnvC scope cl C X.env) fp) ifs σ H Q)
      (fun σ H Q => ∀ (s : Shared) (H0 : Hp) (C : Addr) (cl : List (Str × Addr)) (fp : List Addr), SmE (X.blk s H0 scope (compEnvC scope cl C X.env) fp) elt σ H Q) (own.map (·.2)) σ H Q := by
  refine hwi _ fun J H1 Hb1 x1 wk => fun Dl hD => ?_
  obtain ⟨wk1, wk2, wk3⟩ := wk
  refine ⟨fun i m H => m = xs.length - i ∧ i ≤ xs.length ∧ ∃ Hi es, Evl.Ex Hb1 Hi ∧ Evl.Ex Hi H ∧ Trn T (xs.take i) es ∧ Fram X.K W Dl es Hi H, ⟨xs.length, by simp, Nat.zero_le _, Hb1, [], Evl.Ex.refl _, Evl.Ex.mut x1.in_ (Evl.fresh_back x1.in_ hD), ?_, Fram.new (o := .lst []) (Stb.st w0 x1) x1.in_ hD⟩, ?_⟩
  · rw [List.take_zero]; exact .nil
  rintro i m H2 ⟨rfl, hi, Hi, es, a1, a2, tr, fr⟩
  by_cases hlt : i < xs.length
  · refine .inr ⟨wk1 i H2 (a1.trans a2) (by rw [List.length_map]; exact hlt), fun H' => i + 1 ≤ xs.length ∧ ∃ Hi es, Evl.Ex Hb1 Hi ∧ Evl.Ex Hi H' ∧ Trn T (xs.take (i + 1)) es ∧ Fram X.K W Dl es Hi H', fun H' ⟨b1, b2⟩ => ⟨xs.length - (i + 1), by omega, rfl, b1, b2⟩, fun x H3 hy => ?_⟩
    have hd : xs[i]? = some xs[i] := List.getElem?_eq_getElem hlt
    have hm : xs[i] ∈ xs := List.getElem_mem hlt
    have htk : xs.take (i + 1) = xs.take i ++ [xs[i]] := by rw [List.take_add_one, hd]; rfl
    obtain ⟨H3b, x3, q3⟩ := wk3 i Hi H2 x H3 (enc xs[i]) a1 a2 (by rw [List.getElem?_map, hd]; rfl) hy
    have IW : IsE X.K H3b (L2.wipe σ (own.map (·.2))) (wipeD ρ (own.map (·.2))) := ((I0.mono x1.b).mono (a1.trans x3.b)).wipe _
    refine hτ _ hm H3b H3 _ x x3.in_ IW q3 _ fun σ' I' hw => ⟨hw.trans wipe_wipe, fun s H0 C cl fp => ?_⟩
    intro pins ss J1
    refine (ht _ hm Dl es s H0 C cl fp H3b H3 σ' x3.in_ I' (Stb.st fr x3) pins ss J1 |> fun z => thn z fun b s' ⟨H4, J4, H4b, c1, c2, c3, c4⟩ => ⟨H4, J4, ?_⟩)
    cases b with
    | false =>
      rw [if_neg Bool.false_ne_true]
      refine ⟨hlt, H4b, es, a1.trans (x3.b.trans c1), c2, ?_, c3⟩
      rw [htk]
      exact tr.snoc_skip (hT0 _ hm c4)
    | true =>
      rw [if_pos rfl]
      intro s2 H02 C2 cl2 fp2
      refine (he _ hm c4 Dl es s2 H02 C2 cl2 fp2 H4b H4 σ' c2 (I'.mono c1) c3).mono fun v H5 ⟨H5b, r, d1, d2, d3, d4, d5⟩ => ?_
      obtain ⟨k1, ⟨ys, k2, k3⟩, k4⟩ := id d3
      have hes : es.length < sizeLine := by
        have h1 := tr.length
        rw [List.length_take] at h1
        omega
      refine ⟨ys, k2, by rw [k3.length]; exact hes, hlt, H5b, es ++ [r], a1.trans (x3.b.trans (c1.trans d1)), Evl.Ex.mut d2 k1, ?_, d3.put (k3.snoc d5)⟩
      rw [htk]
      exact tr.snoc_take (hT1 _ hm r c4 d4)
  · have e : i = xs.length := by omega
    subst e
    rw [List.take_length] at tr
    obtain ⟨Hb', f1, f2, f3, f4⟩ := fr.done a2
    exact .inl ⟨wk2 _ H2 (a1.trans a2) (by rw [List.length_map]; exact Nat.le_refl _), hQ es _ H2 Hb' tr (x1.b.trans (a1.trans f1)) f2 f3 f4⟩
end
end Sm
set_option maxHeartbeats 4000000
/-! Sm4: comprehensions as values; blocks; defs. -/
namespace Sm
open PySem PySem.Spec PyProof.Rows L2

/-- in every block of such a scope -/
abbrev InB (X : Cx) (scope : Scope) (Φ : Cx → Prop) : Prop := ∀ (s : Shared) (H : Hp) (C : Addr) (cl : List (Str × Addr)) (fp : List Addr), Φ (X.blk s H scope (compEnvC scope cl C X.env) fp)
/-- tests that leave all as it is -/
def ETs (X : Cx) (ρ : En) (ifs : List Expr) (b : Bool) : Prop := ∀ (W : As) [Stb W], TWs X W ρ ifs (· = b)
section
variable {X : Cx} {ρ : En} {c : Expr} {b : Bool} {K : PySem.W.Frag} {vs : List Nat} {ρw : En} {d d1 d2 : D} {i j : Nat}
theorem ets_nil : ETs X ρ [] true := fun W _ => tws_nil
theorem ets_one (h : ET X ρ c b) : ETs X ρ [c] b := fun W _ => tws_one (tw_et h)
theorem wipe_get : ∀ (vs : List Nat) (σ : L2.St) (i : Nat), (L2.wipe σ vs)[i]? = if i ∈ vs then (if i < σ.length then some none else none) else σ[i]? := by
  intro vs
  induction vs with
  | nil => intro σ i; simp [L2.wipe]
  | cons v vs ih =>
    intro σ i
    show ((L2.wipe σ vs).set v none)[i]? = _
    by_cases e : v = i
    · subst e
      rw [List.getElem?_set_self', ih σ v]
      by_cases hm : v ∈ vs
      · simp [hm]
      · simp [hm]
        by_cases hl : v < σ.length
        · simp [hl]
        · simp [hl]
    · rw [List.getElem?_set_ne e, ih σ i]
      have : (i ∈ v :: vs) ↔ (i ∈ vs) := by simp [Ne.symm e]
      simp only [this]
theorem wipe_set {σ : L2.St} {o : Option V} (h : i ∈ vs) : L2.wipe (σ.set i o) vs = L2.wipe σ vs := by
  apply List.ext_getElem?
  intro k
  rw [wipe_get, wipe_get, List.length_set]
  split
  · rfl
  · rename_i hk
    rw [List.getElem?_set_ne]
    intro e
    rw [← e] at hk
    exact hk h
theorem tg_name (h : j ∈ vs) : TgD K (gName j) vs ρw d (ρw.set j (some d)) := fun Hb H σ x e I q Q k => k _ (I.set j q) (wipe_set h)
theorem tg_pair (hi : i ∈ vs) (hj : j ∈ vs) : TgD K (gTup K 2 (gCons (gName i) (gCons (gName j) gNil))) vs ρw (.tup [d1, d2]) ((ρw.set i (some d1)).set j (some d2)) := fun Hb H σ x e I q Q k => by
  obtain ⟨a, xs, rfl, ha, hx⟩ := is_tup.mp q
  obtain ⟨v, w, rfl, h1, h2⟩ := es_two hx
  refine ⟨a, [v, w], rfl, Evl.ex_t e ha, rfl, v, [w], rfl, w, [], rfl, rfl, k _ ((I.set i h1).set j h2) ?_⟩
  rw [wipe_set hj, wipe_set hi]
end

section
variable {X : Cx} {W : As} {ρ : En} {elt tg iter : Expr} {ifs : List Expr} {scope : Scope} {own : List (Str × Nat)} {pos : Pos} {ds : List D} {g : TG}
def tBT (X : Cx) (scope : Scope) (ifs : List Expr) : TT := fun σ H Q => ∀ (s : Shared) (H0 : Hp) (C : Addr) (cl : List (Str × Addr)) (fp : List Addr), SmTs (X.blk s H0 scope (compEnvC scope cl C X.env) fp) ifs σ H Q
def tBE (X : Cx) (scope : Scope) (elt : Expr) : TE := fun σ H Q => ∀ (s : Shared) (H0 : Hp) (C : Addr) (cl : List (Str × Addr)) (fp : List Addr), SmE (X.blk s H0 scope (compEnvC scope cl C X.env) fp) elt σ H Q
theorem pts_bt (s : Shared) (H : Hp) (C : Addr) (cl : List (Str × Addr)) (fp : List Addr) : PTs (X.blk s H scope (compEnvC scope cl C X.env) fp) ifs (tBT X scope ifs) := ⟨fun pins ss σ H' Q J q => q s H C cl fp pins ss J⟩
theorem pe_bt (s : Shared) (H : Hp) (C : Addr) (cl : List (Str × Addr)) (fp : List Addr) : PE (X.blk s H scope (compEnvC scope cl C X.env) fp) elt (tBE X scope elt) := ⟨fun pins ss σ H' Q J q => q s H C cl fp pins ss J⟩
/-- [elt for tg in iter if ..], all of it pure; the items are enc x for x in xs -/
theorem ed_lc {α : Type} {xs : List α} (enc : α → D) {p : α → Bool} {f : α → D} {τ : α → En} (hc : X.calm = true) (hN : X.N.Nodup) (hi : EI X ρ tg iter (xs.map enc)) (ok : BlkOk X.N X.env.scope scope own) (hz : xs.length ≤ sizeLine)
    (hg : InB X scope fun Y => PG Y tg g) (hτ : ∀ d ∈ xs, TgD X.K g (own.map (·.2)) (wipeD ρ (own.map (·.2))) (enc d) (τ d))
    (ht : ∀ d ∈ xs, InB X scope fun Y => ETs Y (τ d) ifs (p d)) (he : ∀ d ∈ xs, p d = true → InB X scope fun Y => ED Y (τ d) elt (f d)) (hs : ∀ x, foldedSetIterable iter X.env x = pure x := by intro _; rfl) :
    ED X ρ (.ListComp elt [⟨tg, iter, ifs, 0⟩] scope pos) (.lst ((xs.filter p).map f)) := fun Hb H σ x I => by
  obtain ⟨wi, hpi, hwi⟩ := hi
  refine .of (pe_lc (g := g) hc hN hpi ok hg pts_bt pe_bt hs) ?_
  refine lc_read enc (W := Xt Hb H) (T := fun d o => o = if p d then some (f d) else none) (τ := τ) (xs := xs) (g := g) x I (Xt.refl x) hz (fun R k => hwi Hb H σ x I R k) hτ (fun d b => b = p d) (fun d r => r = f d)
    (fun d _ h => by rw [← h, if_neg Bool.false_ne_true]) (fun d _ r h e => by rw [← h, if_pos rfl, e]) (fun d hd l es s H C cl fp => ht d hd s H C cl fp _) (fun d hd hb l es s H C cl fp => ew_ed (he d hd hb.symm s H C cl fp)) fun es v H' Hb' tr e1 e2 w q => ?_
  rw [tr.det fun d hd o h => h] at q
  exact ⟨Hb', w, q⟩
/-- the same keeping W, by T -/
theorem ew_lc {α : Type} {xs : List α} (enc : α → D) {T : α → Option D → Prop} {τ : α → En} [Stb W] (hc : X.calm = true) (hN : X.N.Nodup) (hi : EI X ρ tg iter (xs.map enc)) (ok : BlkOk X.N X.env.scope scope own) (hz : xs.length ≤ sizeLine)
    (hg : InB X scope fun Y => PG Y tg g) (hτ : ∀ d ∈ xs, TgD X.K g (own.map (·.2)) (wipeD ρ (own.map (·.2))) (enc d) (τ d)) (B : α → Bool → Prop) (P : α → D → Prop) (hT0 : ∀ d ∈ xs, B d false → T d none) (hT1 : ∀ d ∈ xs, ∀ r, B d true → P d r → T d (some r))
    (ht : ∀ d ∈ xs, ∀ l es, InB X scope fun Y => TWs Y (Fram X.K W l es) (τ d) ifs (B d)) (he : ∀ d ∈ xs, B d true → ∀ l es, InB X scope fun Y => EW Y (Fram X.K W l es) (τ d) elt (P d)) (hs : ∀ x, foldedSetIterable iter X.env x = pure x := by intro _; rfl) :
    EW X W ρ (.ListComp elt [⟨tg, iter, ifs, 0⟩] scope pos) (fun d => ∃ es, d = .lst es ∧ Trn T xs es) := fun Hb H σ x I w => by
  obtain ⟨wi, hpi, hwi⟩ := hi
  refine .of (pe_lc (g := g) hc hN hpi ok hg pts_bt pe_bt hs) ?_
  exact lc_read enc (W := W) (T := T) (τ := τ) (xs := xs) (g := g) x I w hz (fun R k => hwi Hb H σ x I R k) hτ B P hT0 hT1 ht he fun es v H' Hb' tr e1 e2 w q => ⟨Hb', _, e1, e2, w, ⟨es, rfl, tr⟩, q⟩
/-- x = [..] on one line -/
theorem setLc_read {α : Type} {xs : List α} (enc : α → D) {i : Nat} {y : Str} {py spos : Pos} {D' : Ends} {T : α → Option D → Prop} {τ : α → En} {Hb H : Hp} {σ : L2.St} (hc : X.calm = true) (hN : X.N.Nodup) (hy : X.N[i]? = some y) (hyl : X.env.scope.names.lookup y = some .local)
    (hsw : swapsWith (.ListComp elt [⟨tg, iter, ifs, 0⟩] scope pos) (some (.Name y py)) spos.line X.env = pure true) (hi : EI X ρ tg iter (xs.map enc)) (ok : BlkOk X.N X.env.scope scope own) (hz : xs.length ≤ sizeLine) (e0 : Evl.Ex Hb H) (I0 : IsE X.K Hb σ ρ) (w0 : W Hb H) [Stb W]
    (hg : InB X scope fun Y => PG Y tg g) (hτ : ∀ d ∈ xs, TgD X.K g (own.map (·.2)) (wipeD ρ (own.map (·.2))) (enc d) (τ d)) (B : α → Bool → Prop) (P : α → D → Prop) (hT0 : ∀ d ∈ xs, B d false → T d none) (hT1 : ∀ d ∈ xs, ∀ r, B d true → P d r → T d (some r))
    (ht : ∀ d ∈ xs, ∀ l es, InB X scope fun Y => TWs Y (Fram X.K W l es) (τ d) ifs (B d)) (he : ∀ d ∈ xs, B d true → ∀ l es, InB X scope fun Y => EW Y (Fram X.K W l es) (τ d) elt (P d))
    (hQ : ∀ es v H' Hb', Trn T xs es → Evl.Ex Hb Hb' → Evl.Ex Hb' H' → W Hb' H' → Is X.K Hb' (.lst es) v → D'.nx (σ.set i (some v)) H') (hs : ∀ x, foldedSetIterable iter X.env x = pure x := by intro _; rfl) :
    SmS X (.Assign [.Name y py] (.ListComp elt [⟨tg, iter, ifs, 0⟩] scope pos) spos) D' σ H := by
  obtain ⟨wi, hpi, hwi⟩ := hi
  refine .of (ps_setLc (g := g) hc hN hy hyl hsw hpi ok hg pts_bt pe_bt hs) ?_
  exact lc_read enc (W := W) (T := T) (τ := τ) (xs := xs) (g := g) e0 I0 w0 hz (fun R k => hwi Hb H σ e0 I0 R k) hτ B P hT0 hT1 ht he hQ
/-- the names of a block: may be stored -/
abbrev Own1 (X : Cx) (scope : Scope) (x : Str) : Prop := InB X scope fun Y => Loc Y.env.scope x ∧ (Y.fn x = true ∨ Y.env.scope.names.lookup x = some .local)
theorem pg_own {j : Nat} {x : Str} {px : Pos} (hN : X.N.Nodup) (hj : X.N[j]? = some x) (h : Own1 X scope x) : InB X scope fun Y => PG Y (.Name x px) (gName j) := fun s H C cl fp => pg_name hN hj (h s H C cl fp).1 (h s H C cl fp).2
theorem pg_own2 {i j : Nat} {x y : Str} {px py pt : Pos} {k : Nat} (hc : X.calm = true) (hN : X.N.Nodup) (hi : X.N[i]? = some x) (hj : X.N[j]? = some y) (h : Own1 X scope x) (h2 : Own1 X scope y)
    (hn : InB X scope fun Y => (assignEach [.Name x px, .Name y py] Y.env).length = 2) (hst : InB X scope fun Y => (assignEach [.Name x px, .Name y py] Y.env).findIdx? (·.1) = none) : InB X scope fun Y => PG Y (.Tuple [.Name x px, .Name y py] k pt) (gTup X.K 2 (gCons (gName i) (gCons (gName j) gNil))) := fun s H C cl fp =>
  pg_tup (X := X.blk s H scope (compEnvC scope cl C X.env) fp) hc (pgs_cons (pg_own hN hi h s H C cl fp) (pgs_cons (pg_own hN hj h2 s H C cl fp) pgs_nil)) (hn s H C cl fp) (hst s H C cl fp)
/-- the target a name -/
theorem ed_lc1 {α : Type} {xs : List α} (enc : α → D) (j : Nat) {x : Str} {px : Pos} {p : α → Bool} {f : α → D} (hc : X.calm = true) (hN : X.N.Nodup) (hi : EI X ρ (.Name x px) iter (xs.map enc)) (ok : BlkOk X.N X.env.scope scope [(x, j)]) (hz : xs.length ≤ sizeLine)
    (ht : ∀ d ∈ xs, InB X scope fun Y => ETs Y ((wipeD ρ [j]).set j (some (enc d))) ifs (p d)) (he : ∀ d ∈ xs, p d = true → InB X scope fun Y => ED Y ((wipeD ρ [j]).set j (some (enc d))) elt (f d))
    (hj : X.N[j]? = some x := by rfl) (hx : Own1 X scope x := by exact fun _ _ _ _ _ => ⟨Or.inl rfl, Or.inr rfl⟩) (hs : ∀ x, foldedSetIterable iter X.env x = pure x := by intro _; rfl) :
    ED X ρ (.ListComp elt [⟨.Name x px, iter, ifs, 0⟩] scope pos) (.lst ((xs.filter p).map f)) :=
  ed_lc enc (τ := fun d => (wipeD ρ [j]).set j (some (enc d))) hc hN hi ok hz (pg_own hN hj hx) (fun d _ => tg_name (by simp)) ht he hs
/-- the target two names -/
theorem ed_lc2 {α : Type} {xs : List α} (e1 e2 : α → D) (i j : Nat) {x y : Str} {px py pt : Pos} {k : Nat} {p : α → Bool} {f : α → D} (hc : X.calm = true) (hN : X.N.Nodup) (hi : EI X ρ (.Tuple [.Name x px, .Name y py] k pt) iter (xs.map fun d => .tup [e1 d, e2 d])) (ok : BlkOk X.N X.env.scope scope [(x, i), (y, j)]) (hz : xs.length ≤ sizeLine)
    (ht : ∀ d ∈ xs, InB X scope fun Y => ETs Y (((wipeD ρ [i, j]).set i (some (e1 d))).set j (some (e2 d))) ifs (p d)) (he : ∀ d ∈ xs, p d = true → InB X scope fun Y => ED Y (((wipeD ρ [i, j]).set i (some (e1 d))).set j (some (e2 d))) elt (f d))
    (hI : X.N[i]? = some x := by rfl) (hj : X.N[j]? = some y := by rfl) (hx : Own1 X scope x := by exact fun _ _ _ _ _ => ⟨Or.inl rfl, Or.inr rfl⟩) (hy : Own1 X scope y := by exact fun _ _ _ _ _ => ⟨Or.inl rfl, Or.inr rfl⟩)
    (hn : InB X scope fun Y => (assignEach [.Name x px, .Name y py] Y.env).length = 2 := by exact fun _ _ _ _ _ => rfl) (hst : InB X scope fun Y => (assignEach [.Name x px, .Name y py] Y.env).findIdx? (·.1) = none := by exact fun _ _ _ _ _ => rfl) (hs : ∀ x, foldedSetIterable iter X.env x = pure x := by intro _; rfl) :
    ED X ρ (.ListComp elt [⟨.Tuple [.Name x px, .Name y py] k pt, iter, ifs, 0⟩] scope pos) (.lst ((xs.filter p).map f)) :=
  ed_lc (fun d => .tup [e1 d, e2 d]) (τ := fun d => ((wipeD ρ [i, j]).set i (some (e1 d))).set j (some (e2 d))) hc hN hi ok hz (pg_own2 hc hN hI hj hx hy hn hst) (fun d _ => tg_pair (by simp) (by simp)) ht he hs
end

/-! ### blocks -/
def EbD (K : PySem.W.Frag) (Hb : Hp) (N : En → As) (R : D → As) (B C : En → As) : Ends where
  nx := fun σ' H' => ∃ ρ' Hb', Evl.Ex Hb Hb' ∧ Evl.Ex Hb' H' ∧ IsE K Hb' σ' ρ' ∧ N ρ' Hb' H'
  rt := fun v H' => ∃ d Hb', Evl.Ex Hb Hb' ∧ Evl.Ex Hb' H' ∧ Is K Hb' d v ∧ R d Hb' H'
  bk := fun σ' H' => ∃ ρ' Hb', Evl.Ex Hb Hb' ∧ Evl.Ex Hb' H' ∧ IsE K Hb' σ' ρ' ∧ B ρ' Hb' H'
  ct := fun σ' H' => ∃ ρ' Hb', Evl.Ex Hb Hb' ∧ Evl.Ex Hb' H' ∧ IsE K Hb' σ' ρ' ∧ C ρ' Hb' H'
/-- a block, run where W holds: N where it goes on, R where it returns, B at break, C at continue -/
def EB (X : Cx) (W : As) (ρ : En) (st : List Stmt) (N : En → As) (R : D → As) (B C : En → As) : Prop := ∀ Hb H σ, Evl.Ex Hb H → IsE X.K Hb σ ρ → W Hb H → SmB X st (EbD X.K Hb N R B C) σ H
/-- nowhere -/
def No : En → As := fun _ _ _ => False
section
variable {X : Cx} {W : As} {ρ : En} {st : Stmt} {rest body orelse : List Stmt} {N N1 : En → As} {R : D → As} {B C : En → As} {e c : Expr} {d : D} {b : Bool} {P : D → Prop} {x : Str} {pos p : Pos} {i : Nat}
theorem EbD.widen {Hb Hb1 : Hp} (x1 : Evl.Ex Hb Hb1) {σ : L2.St} {H : Hp} (h : SmB X rest (EbD X.K Hb1 N R B C) σ H) : SmB X rest (EbD X.K Hb N R B C) σ H :=
  h.mono (fun σ H ⟨ρ', Hb', a, r⟩ => ⟨ρ', Hb', x1.trans a, r⟩) (fun v H ⟨ρ', Hb', a, r⟩ => ⟨ρ', Hb', x1.trans a, r⟩) (fun σ H ⟨ρ', Hb', a, r⟩ => ⟨ρ', Hb', x1.trans a, r⟩) (fun σ H ⟨ρ', Hb', a, r⟩ => ⟨ρ', Hb', x1.trans a, r⟩)
theorem eb_nil (h : ∀ Hb H, W Hb H → N ρ Hb H) : EB X W ρ [] N R B C := fun Hb H σ x I w => .of pss_nil ⟨ρ, Hb, Evl.Ex.refl _, x, I, h _ _ w⟩
/-- a statement, then the rest -/
theorem eb_cons {Nx : L2.St → Hp → Prop} (Hb : Hp) {H : Hp} {σ : L2.St} (h : SmS X st { EbD X.K Hb N R B C with nx := Nx } σ H) (k : ∀ σ' H', Nx σ' H' → SmB X rest (EbD X.K Hb N R B C) σ' H') : SmB X (st :: rest) (EbD X.K Hb N R B C) σ H :=
  .of (pss_cons ps_sm pss_sm) (show SmS X st { EbD X.K Hb N R B C with nx := fun σ' H' => SmB X rest (EbD X.K Hb N R B C) σ' H' } σ H from h.mono k (fun _ _ h => h) (fun _ _ h => h) fun _ _ h => h)
/-- .. by its reading -/
theorem eb_st {t : TS} (hp : PS X st t) (h : ∀ Hb H σ, Evl.Ex Hb H → IsE X.K Hb σ ρ → W Hb H → ∀ Nx : L2.St → Hp → Prop, (∀ σ' H' ρ' Hb', Evl.Ex Hb Hb' → Evl.Ex Hb' H' → IsE X.K Hb' σ' ρ' → N1 ρ' Hb' H' → Nx σ' H') → t { EbD X.K Hb N R B C with nx := Nx } σ H)
    (k : ∀ ρ', EB X (N1 ρ') ρ' rest N R B C) : EB X W ρ (st :: rest) N R B C := fun Hb H σ x I w =>
  .of (pss_cons hp pss_sm) (h Hb H σ x I w (fun σ' H' => SmB X rest (EbD X.K Hb N R B C) σ' H') fun σ' H' ρ' Hb' a1 a2 a3 a4 => EbD.widen a1 (k ρ' Hb' H' σ' a2 a3 a4))
theorem eb_setW (i : Nat) (hN : X.N.Nodup) (h : EW X W ρ e P) (k : ∀ d, P d → EB X W (ρ.set i (some d)) rest N R B C) (hi : X.N[i]? = some x := by rfl) (hx : Loc X.env.scope x := by first | exact Or.inl rfl | exact Or.inr rfl)
    (hs : swapsWith e (some (.Name x p)) pos.line X.env = pure false := by rfl) (hf : X.fn x = true ∨ X.env.scope.names.lookup x = some .local := by first | exact .inl rfl | exact .inr rfl) : EB X W ρ (.Assign [.Name x p] e pos :: rest) N R B C :=
  eb_st (N1 := fun ρ' Hb H => W Hb H ∧ ∃ d, P d ∧ ρ' = ρ.set i (some d)) (ps_set hN hi hx pe_sm hs hf) (fun Hb H σ x1 I w Nx kk => (h Hb H σ x1 I w).mono fun v H' ⟨Hb', d, a1, a2, a3, a4, a5⟩ => kk _ _ _ Hb' a1 a2 ((I.mono a1).set i a5) ⟨a3, d, a4, rfl⟩)
    fun ρ' Hb H σ x I ⟨w, d, hd, e⟩ => by subst e; exact k d hd Hb H σ x I w
theorem eb_set (i : Nat) (hN : X.N.Nodup) [Stb W] (h : ED X ρ e d) (k : EB X W (ρ.set i (some d)) rest N R B C) (hi : X.N[i]? = some x := by rfl) (hx : Loc X.env.scope x := by first | exact Or.inl rfl | exact Or.inr rfl)
    (hs : swapsWith e (some (.Name x p)) pos.line X.env = pure false := by rfl) (hf : X.fn x = true ∨ X.env.scope.names.lookup x = some .local := by first | exact .inl rfl | exact .inr rfl) : EB X W ρ (.Assign [.Name x p] e pos :: rest) N R B C :=
  eb_setW i hN (ew_ed h) (fun d' e => by subst e; exact k) hi hx hs hf
theorem eb_dropW (h : EW X W ρ e P) (k : EB X W ρ rest N R B C) (hs : swapsWith e none pos.line X.env = pure false := by rfl) : EB X W ρ (.Expr e pos :: rest) N R B C :=
  eb_st (N1 := fun ρ' Hb H => W Hb H ∧ ρ' = ρ) (ps_expr pe_sm hs) (fun Hb H σ x1 I w Nx kk => (h Hb H σ x1 I w).mono fun v H' ⟨Hb', d, a1, a2, a3, a4, a5⟩ => kk _ _ _ Hb' a1 a2 (I.mono a1) ⟨a3, rfl⟩) fun ρ' Hb H σ x I ⟨w, e⟩ => by subst e; exact k Hb H σ x I w
theorem eb_drop [Stb W] (h : ED X ρ e d) (k : EB X W ρ rest N R B C) (hs : swapsWith e none pos.line X.env = pure false := by rfl) : EB X W ρ (.Expr e pos :: rest) N R B C := eb_dropW (ew_ed h) k hs
theorem eb_retW (h : EW X W ρ e P) (k : ∀ d Hb H, P d → W Hb H → R d Hb H) : EB X W ρ (.Return (some e) pos :: rest) N R B C := fun Hb H σ x I w =>
  eb_cons (Nx := fun _ _ => False) Hb (.of (ps_ret pe_sm) ((h Hb H σ x I w).mono fun v H' ⟨Hb', d, a1, a2, a3, a4, a5⟩ => ⟨d, Hb', a1, a2, a5, k d _ _ a4 a3⟩)) fun _ _ z => z.elim
theorem eb_ret [Stb W] (h : ED X ρ e d) (k : ∀ Hb H, W Hb H → R d Hb H) : EB X W ρ (.Return (some e) pos :: rest) N R B C := eb_retW (ew_ed h) fun d' Hb H e w => by subst e; exact k Hb H w
/-- if, both ways to the same -/
theorem eb_ifW {T : Bool → Prop} (h : TW X W ρ c T) (h1 : T true → EB X W ρ body N1 R B C) (h2 : T false → EB X W ρ orelse N1 R B C) (k : ∀ ρ', EB X (N1 ρ') ρ' rest N R B C) : EB X W ρ (.If c body orelse pos :: rest) N R B C := fun Hb H σ x I w => by
  refine eb_cons (Nx := fun σ' H' => ∃ ρ' Hb', Evl.Ex Hb Hb' ∧ Evl.Ex Hb' H' ∧ IsE X.K Hb' σ' ρ' ∧ N1 ρ' Hb' H') Hb (.of (ps_if pt_sm pss_sm pss_sm) ((h Hb H σ x I w).mono fun b H' ⟨Hb', a1, a2, a3, a4⟩ => ?_)) fun σ' H' ⟨ρ', Hb', a1, a2, a3, a4⟩ => EbD.widen a1 (k ρ' Hb' H' σ' a2 a3 a4)
  cases b with
  | true => exact iteT (EbD.widen (N := N1) a1 (h1 a4 Hb' H' σ a2 (I.mono a1) a3))
  | false => exact iteF (EbD.widen (N := N1) a1 (h2 a4 Hb' H' σ a2 (I.mono a1) a3))
theorem eb_if [Stb W] (h : ET X ρ c b) (h1 : b = true → EB X W ρ body N1 R B C) (h2 : b = false → EB X W ρ orelse N1 R B C) (k : ∀ ρ', EB X (N1 ρ') ρ' rest N R B C) : EB X W ρ (.If c body orelse pos :: rest) N R B C :=
  eb_ifW (tw_et h) (fun e => h1 e.symm) (fun e => h2 e.symm) k
/-- the test fails: on -/
theorem eb_ifF [Stb W] (h : ET X ρ c false) (k : EB X W ρ rest N R B C) : EB X W ρ (.If c body [] pos :: rest) N R B C :=
  eb_if (N1 := fun ρ' Hb H => ρ' = ρ ∧ W Hb H) h (fun e => nomatch e) (fun _ => eb_nil fun Hb H w => ⟨rfl, w⟩) fun ρ' Hb H σ x I ⟨e, w⟩ => by subst e; exact k Hb H σ x I w
/-- the test holds, and the body leaves -/
theorem eb_ifR [Stb W] (h : ET X ρ c true) (k : EB X W ρ body No R B C) : EB X W ρ (.If c body orelse pos :: rest) N R B C :=
  eb_if (N1 := No) h (fun _ => k) (fun e => nomatch e) fun ρ' Hb H σ x I w => w.elim
theorem EB.imp {N' : En → As} {R' : D → As} {B' C' : En → As} (h : EB X W ρ rest N R B C) (h1 : ∀ ρ Hb H, N ρ Hb H → N' ρ Hb H) (h2 : ∀ d Hb H, R d Hb H → R' d Hb H) (h3 : ∀ ρ Hb H, B ρ Hb H → B' ρ Hb H) (h4 : ∀ ρ Hb H, C ρ Hb H → C' ρ Hb H) : EB X W ρ rest N' R' B' C' := fun Hb H σ x I w =>
  (h Hb H σ x I w).mono (fun σ H ⟨ρ', Hb', a, b, c, r⟩ => ⟨ρ', Hb', a, b, c, h1 _ _ _ r⟩) (fun v H ⟨ρ', Hb', a, b, c, r⟩ => ⟨ρ', Hb', a, b, c, h2 _ _ _ r⟩) (fun σ H ⟨ρ', Hb', a, b, c, r⟩ => ⟨ρ', Hb', a, b, c, h3 _ _ _ r⟩) (fun σ H ⟨ρ', Hb', a, b, c, r⟩ => ⟨ρ', Hb', a, b, c, h4 _ _ _ r⟩)
/-- the body leaves where the test holds -/
theorem eb_ifRet [Stb W] (h : ET X ρ c b) (h1 : b = true → EB X W ρ body No R B C) (h2 : b = false → EB X W ρ rest N R B C) : EB X W ρ (.If c body [] pos :: rest) N R B C :=
  eb_if (N1 := fun ρ' Hb H => ρ' = ρ ∧ b = false ∧ W Hb H) h (fun e => (h1 e).imp (fun _ _ _ z => z.elim) (fun _ _ _ z => z) (fun _ _ _ z => z) fun _ _ _ z => z) (fun e => eb_nil fun Hb H w => ⟨rfl, e, w⟩) fun ρ' Hb H σ x I ⟨e, eb, w⟩ => by subst e; exact h2 eb Hb H σ x I w
/-- the test holds: the body, then on -/
theorem eb_ifT [Stb W] (h : ET X ρ c true) (h1 : EB X W ρ body N1 R B C) (k : ∀ ρ', EB X (N1 ρ') ρ' rest N R B C) : EB X W ρ (.If c body orelse pos :: rest) N R B C :=
  eb_if h (fun _ => h1) (fun e => nomatch e) k
theorem EB.pre {W' : As} (h : EB X W ρ rest N R B C) (k : ∀ Hb H, W' Hb H → W Hb H) : EB X W' ρ rest N R B C := fun Hb H σ x I w => h Hb H σ x I (k _ _ w)
theorem eb_pr {Φ : Prop} (h : Φ → EB X W ρ rest N R B C) : EB X (Pr Φ W) ρ rest N R B C := fun Hb H σ x I w => h w.1 Hb H σ x I w.2
theorem eb_false (h : ∀ Hb H, W Hb H → False) : EB X W ρ rest N R B C := fun Hb H σ x I w => (h _ _ w).elim
/-- some names forgotten -/
theorem EB.weak {ρ' : En} (h : EB X W ρ' rest N R B C) (hl : ρ'.length = ρ.length) (hw : ∀ (i : Nat) (d : D), ρ'[i]? = some (some d) → ρ[i]? = some (some d)) : EB X W ρ rest N R B C := fun Hb H σ x I w => h Hb H σ x (I.weak hl hw) w
/-- for tg in ds; Iv by the turn -/
theorem eb_for {α : Type} {xs : List α} (enc : α → D) {tg iter : Expr} {g : TG} {τ : En → α → En} (Iv : Nat → En → As) (hp : PassesOwn (model X.prog X.w) X.A X.env X.xe) (hc : X.calm = true) (hi : EI X ρ tg iter (xs.map enc)) (hg : PG X tg g) [Stb W] [∀ i ρ, Stb (Iv i ρ)]
    (hτ : ∀ d ∈ xs, ∀ ρ Hb H σ x, Evl.Ex Hb H → IsE X.K Hb σ ρ → Is X.K Hb (enc d) x → ∀ Q : L2.St → Hp → Prop, (∀ σ', IsE X.K Hb σ' (τ ρ d) → Q σ' H) → g x σ H Q)
    (h0 : ∀ Hb H, W Hb H → Iv 0 ρ Hb H) (turn : ∀ (i : Nat) (d : α), xs[i]? = some d → ∀ ρ', EB X (Iv i ρ') (τ ρ' d) body (Iv (i + 1)) R N1 (Iv (i + 1))) (hN1 : ∀ ρ' Hb H, N1 ρ' Hb H → Iv xs.length ρ' Hb H)
    (k : ∀ ρ', EB X (Iv xs.length ρ') ρ' rest N R B C) (hs : ∀ x, foldedSetIterable iter X.env x = pure x := by intro _; rfl) : EB X W ρ (.For tg iter body [] pos :: rest) N R B C := fun Hb H σ x I w => by
  obtain ⟨wi, hpi, hwi⟩ := hi
  refine eb_cons (Nx := fun σ' H' => ∃ ρ' Hb', Evl.Ex Hb Hb' ∧ Evl.Ex Hb' H' ∧ IsE X.K Hb' σ' ρ' ∧ Iv xs.length ρ' Hb' H') Hb (.of (ps_for hp hc hpi hg pss_sm hs) ?_) fun σ' H' ⟨ρ', Hb', a1, a2, a3, a4⟩ => EbD.widen a1 (k ρ' Hb' H' σ' a2 a3 a4)
  refine hwi Hb H σ x I _ fun J H1 Hb1 x1 ⟨wk1, wk2, wk3⟩ => ?_
  refine ⟨fun i m σ' H' => m = xs.length - i ∧ i ≤ xs.length ∧ ∃ ρ' Hi, Evl.Ex Hb1 Hi ∧ Evl.Ex Hi H' ∧ IsE X.K Hi σ' ρ' ∧ Iv i ρ' Hi H', ⟨xs.length, by simp, Nat.zero_le _, ρ, Hb1, Evl.Ex.refl _, x1.in_, I.mono x1.b, h0 _ _ (Stb.st w x1)⟩, ?_⟩
  rintro i m σ' H' ⟨rfl, hi, ρ', Hi, a1, a2, a3, a4⟩
  by_cases hlt : i < xs.length
  · refine .inr ⟨wk1 i H' (a1.trans a2) (by rw [List.length_map]; exact hlt), fun σ'' H'' => i + 1 ≤ xs.length ∧ ∃ ρ' Hi, Evl.Ex Hb1 Hi ∧ Evl.Ex Hi H'' ∧ IsE X.K Hi σ'' ρ' ∧ Iv (i + 1) ρ' Hi H'', fun σ'' H'' ⟨b1, b2⟩ => ⟨xs.length - (i + 1), by omega, rfl, b1, b2⟩, fun y H2 hy => ?_⟩
    have hd : xs[i]? = some xs[i] := List.getElem?_eq_getElem hlt
    obtain ⟨H2b, x2, q2⟩ := wk3 i Hi H' y H2 (enc xs[i]) a1 a2 (by rw [List.getElem?_map, hd]; rfl) hy
    refine hτ _ (List.getElem_mem hlt) ρ' H2b H2 σ' y x2.in_ (a3.mono x2.b) q2 _ fun σ2 I2 => ?_
    have e1 : Evl.Ex Hb1 H2b := a1.trans x2.b
    refine (turn i _ hd ρ' H2b H2 σ2 x2.in_ I2 (Stb.st a4 x2)).mono (fun σ3 H3 ⟨ρ3, H3b, c1, c2, c3, c4⟩ => ⟨hlt, ρ3, H3b, e1.trans c1, c2, c3, c4⟩) (fun v H3 ⟨d, H3b, c1, c2, c3, c4⟩ => ⟨d, H3b, x1.b.trans (e1.trans c1), c2, c3, c4⟩)
      (fun σ3 H3 ⟨ρ3, H3b, c1, c2, c3, c4⟩ => ⟨ρ3, H3b, x1.b.trans (e1.trans c1), c2, c3, hN1 _ _ _ c4⟩) fun σ3 H3 ⟨ρ3, H3b, c1, c2, c3, c4⟩ => ⟨hlt, ρ3, H3b, e1.trans c1, c2, c3, c4⟩
  · have e : i = xs.length := by omega
    subst e
    exact .inl ⟨wk2 _ H' (a1.trans a2) (by rw [List.length_map]; exact Nat.le_refl _), ρ', Hi, x1.b.trans a1, a2, a3, a4⟩
/-- .. its target a name -/
theorem eb_forN {α : Type} {xs : List α} (enc : α → D) {iter : Expr} (j : Nat) (Iv : Nat → En → As) (hp : PassesOwn (model X.prog X.w) X.A X.env X.xe) (hc : X.calm = true) (hi : EI X ρ (.Name x p) iter (xs.map enc)) (hg : PG X (.Name x p) (gName j)) [Stb W] [∀ i ρ, Stb (Iv i ρ)]
    (h0 : ∀ Hb H, W Hb H → Iv 0 ρ Hb H) (turn : ∀ (i : Nat) (d : α), xs[i]? = some d → ∀ ρ', EB X (Iv i ρ') (ρ'.set j (some (enc d))) body (Iv (i + 1)) R No (Iv (i + 1)))
    (k : ∀ ρ', EB X (Iv xs.length ρ') ρ' rest N R B C) (hs : ∀ x, foldedSetIterable iter X.env x = pure x := by intro _; rfl) : EB X W ρ (.For (.Name x p) iter body [] pos :: rest) N R B C :=
  eb_for enc (τ := fun ρ d => ρ.set j (some (enc d))) (N1 := No) Iv hp hc hi hg (fun d _ ρ Hb H σ x _ I q Q k => k _ (I.set j q)) h0 turn (fun _ _ _ z => z.elim) k hs
end

/-! ### defs -/
/-- what a def that changes nothing gives -/
def spP (K : PySem.W.Frag) (φ : List D → D → Prop) : Sp := fun vs H Q _ => ∃ Hb ds d, Evl.Ex Hb H ∧ IsL K Hb ds vs ∧ φ ds d ∧ ∀ v H', Gd K Hb H d v H' → Q v H'
section
variable {P : Program} {w : World} {K : PySem.W.Frag} {mg : Str → Option Value} {base : Heap}
/-- the start's data -/
def st0 (N : List Str) (ds : List D) : En := ds.map some ++ List.replicate (N.length - ds.length) none
theorem fn_pure {x qual : Str} {st : Stmt} {f : Addr} {fd : FuncData} {N ps : List Str} {k : Nat} {φ : List D → D → Prop} (F : Fun K x qual st f fd) (S : FnScope N ps (defScope st)) (len : ∀ ds d, φ ds d → ds.length = ps.length)
    (hbody : ∀ (cdv : Value) (A : Around) (outer : List Env) (s : Shared) (H : Hp) (E : XK), Room k (A.deeper (envOfC qual (defScope st) s.heap.objs.size f cdv)) → ∀ ds d, φ ds d → ∀ Hb0 H0,
      EB (cxOf CX0 P w K mg base N qual (defScope st) f cdv A outer s H E).nox (Xt Hb0 H0) (st0 N ds) (defBody st) (fun _ Hb H => d = .non ∧ Xt Hb0 H0 Hb H) (fun d' Hb H => d' = d ∧ Xt Hb0 H0 Hb H) No No) :
    FnOk P w K mg base CX0 (k + 1) f fd ps (spP K φ) := by
  refine F.ok S (fun vs H Q E ⟨Hb, ds, d, _, h2, h3, _⟩ => by rw [h2.length]; exact len ds d h3) (fun cdv A outer s H vs Q E hr ⟨Hb, ds, d, h1, h2, h3, h4⟩ => ?_)
  refine ⟨_, pss_sm, ?_⟩
  refine (hbody cdv A outer s H E hr ds d h3 Hb H Hb H _ h1 (start_is h2) (.refl h1)).mono (fun σ H' ⟨ρ', Hb', a1, a2, a3, e, a4⟩ => ?_) (fun v H' ⟨d', Hb', a1, a2, a3, e, a4⟩ => ?_) (fun σ H' ⟨ρ', Hb', a1, a2, a3, z⟩ => z.elim) fun σ H' ⟨ρ', Hb', a1, a2, a3, z⟩ => z.elim
  · subst e
    exact h4 _ _ ⟨Hb', a4, is_non.mpr rfl⟩
  · subst e
    exact h4 _ _ ⟨Hb', a4, a3⟩
variable {X : Cx} {ρ : En} {e o : Expr} {es : List Expr} {ds dd : List D} {d : D} {f C : Addr} {fd : FuncData} {ps : List Str} {dfs : List Value} {dvs : List V} {k : Nat} {φ : List D → D → Prop} {x m : Str} {p pos apos : Pos}
theorem spP_of {Hb H : Hp} {vs : List V} {Q : VK} {E : XK} (h1 : Evl.Ex Hb H) (h2 : IsL K Hb ds vs) (h3 : φ ds d) (h4 : ∀ v H', Gd K Hb H d v H' → Q v H') : spP K φ vs H Q E := ⟨Hb, ds, d, h1, h2, h3, h4⟩
/-- f(..) -/
theorem ed_call (F : FnOk X.prog X.w X.K X.mg X.base CX0 k f fd ps (spP X.K φ)) (hr : Room k X.A) (hm : X.mg x = some (.ref f)) (hk : PySem.W.keepIn X.K (.ref f) = true) (hb : Binds X.K fd ps dfs) (hd : Vals dvs dfs) (hdd : ∀ Hb, IsL X.K Hb dd dvs)
    (hs : ES X ρ (e :: es) ds) (hφ : φ (ds ++ dd) d) (hg : Gl X x := by rfl) (hdb : (x == ("__debug__" : Str)) = false := by decide) (he : starEach (e :: es) X.env = (false, eval e X.env) :: starEach es X.env := by rfl) (hpl : (backTo pos (starEach es X.env)).any (·.1) = false := by rfl) :
    ED X ρ (.Call (.Name x p) (e :: es) [] pos) d := fun Hb H σ x1 I => by
  obtain ⟨ta, hp, q⟩ := hs
  refine .of (pe_call F hr hg hm hk hb hd pass0 hp hdb he hpl) (q Hb H σ x1 I _ fun vs H1 Hb1 x2 q1 => ?_)
  exact spP_of x2.in_ (q1.append (hdd Hb1)) hφ fun v H' g => g.trans x2
/-- o.m(..) -/
theorem ed_meth {fs : List (Str × D)} {pl : Sem Bool} (ho : ED X ρ o (.obj C fs)) (c : Cls X.K C) (hm : Meth X.K C m f) (F : FnOk X.prog X.w X.K X.mg X.base CX0 k f fd ps (spP X.K φ)) (hr : Room k X.A) (hb : Binds X.K fd ps dfs) (hd : Vals dvs dfs) (hdd : ∀ Hb, IsL X.K Hb dd dvs) (hl : fs.lookup m = none)
    (hs : ES X ρ (e :: es) ds) (hφ : φ (.obj C fs :: (ds ++ dd)) d) (hst : starEach (e :: es) X.env = (false, eval e X.env) :: starEach es X.env := by rfl) (hpl : (backTo pos (starEach es X.env)).any (·.1) = false := by rfl)
    (ht : eval (.Call (.Attribute o m apos) (e :: es) [] pos) X.env = (do
      let ov ← eval o X.env
      standAt apos.atName
      let (f, first) ← holding [ov] (getMethod ov m pl)
      callWith pos f first (backTo pos (starEach (e :: es) X.env)) (backToKw pos (keywordEach [] X.env))) := by rfl) : ED X ρ (.Call (.Attribute o m apos) (e :: es) [] pos) d := fun Hb H σ x1 I => by
  obtain ⟨ta, hp, q⟩ := hs
  refine .of (pe_meth pe_sm c hm F hr hb hd pass0 hp hst hpl ht) ((ho Hb H σ x1 I).mono fun v H1 ⟨Hb1, x2, q1⟩ => ?_)
  obtain ⟨a, dx, ws, rfl, ha, hw⟩ := is_obj.mp q1
  refine ⟨a, dx, ws, rfl, x2.in_ _ _ ha, hw.lookup_none hl, q Hb1 H1 σ x2.in_ (I.mono x2.b) _ fun vs H2 Hb2 x3 q2 => ?_⟩
  exact spP_of x3.in_ (isL_cons.mpr ⟨_, _, rfl, q1.mono x3.b, q2.append (hdd Hb2)⟩) hφ fun v H' g => g.trans (x2.trans x3)
/-- a def that is called by its name, without defaults -/
def Ca (P : Program) (w : World) (K : PySem.W.Frag) (mg : Str → Option Value) (base : Heap) (k : Nat) (x : Str) (φ : List D → D → Prop) : Prop :=
  ∃ (f : Addr) (fd : FuncData) (ps : List Str), FnOk P w K mg base CX0 k f fd ps (spP K φ) ∧ mg x = some (.ref f) ∧ PySem.W.keepIn K (.ref f) = true ∧ Binds K fd ps []
theorem ed_ca (F : Ca X.prog X.w X.K X.mg X.base k x φ) (hr : Room k X.A) (hs : ES X ρ (e :: es) ds) (hφ : φ ds d) (hg : Gl X x := by rfl) (hdb : (x == ("__debug__" : Str)) = false := by decide) (he : starEach (e :: es) X.env = (false, eval e X.env) :: starEach es X.env := by rfl)
    (hpl : (backTo pos (starEach es X.env)).any (·.1) = false := by rfl) : ED X ρ (.Call (.Name x p) (e :: es) [] pos) d := by
  obtain ⟨f, fd, ps, F, h1, h2, h3⟩ := F
  exact ed_call (dd := []) F hr h1 h2 h3 .nil (fun _ => isL_nil.mpr rfl) hs (by rw [List.append_nil]; exact hφ) hg hdb he hpl
end
end Sm
set_option maxHeartbeats 4000000
/-! Sm5: more rules. -/
namespace Sm
open PySem PySem.Spec PyProof.Rows L2

section
variable {X : Cx} {ρ : En} {K : PySem.W.Frag} {Hb H : Hp} {e a b c : Expr} {es : List Expr} {d d1 d2 d3 dc : D} {ds : List D} {pos p : Pos} {t u : Bool} {x : Str}
/-! ### classes -/
/-- of this type -/
def HasTy (K : PySem.W.Frag) (d : D) (t : Value) : Prop := ∀ (Hb H : Hp) (v : V), Evl.Ex Hb H → Is K Hb d v → TyX K H v t
theorem ty_int {i : Int} : HasTy K (.int i) (.type "int") := fun Hb H v e h => by rw [is_int.mp h]; exact .base (.int i)
theorem ty_bl {i : Bool} : HasTy K (.bl i) (.type "bool") := fun Hb H v e h => by rw [is_bl.mp h]; exact .base (.bl i)
theorem ty_tup : HasTy K (.tup ds) (.type "tuple") := fun Hb H v e h => by
  obtain ⟨a, vs, rfl, ha, _⟩ := is_tup.mp h
  rcases Evl.ex_t e ha with (h | ⟨o, h⟩) | ⟨o, its, n, h, h2, _⟩
  · exact .base (.tup h)
  · exact .fTuple h
  · exact .kTuple h h2
theorem ty_obj {C : Addr} {fs : List (Str × D)} (cl : Cls K C) (ha : PySem.W.findIn K (.ref C) "__class__" = some (some (.builtin "object.__class__"))) (hn : PySem.W.specialIn K (.builtin "object.__class__") "__get__" = some (some (.builtin "getset_descriptor.__get__")))
    (htk : PySem.W.takesIn K (.builtin "object.__class__") = some true) (hm : PySem.W.mroIn K C (.type "object") = some true) : HasTy K (.obj C fs) (.ref C) := fun Hb H v e h => by
  obtain ⟨a, dx, vs, rfl, h1, _⟩ := is_obj.mp h
  exact .base (.ins (e _ _ h1) cl ha hn htk hm)
/-- a class as data -/
inductive ClsD : D → Value → Prop where
  | ty (n : String) : ClsD (.ty n) (.type n)
  | own (C : Addr) : ClsD (.adr C) (.ref C)
theorem ClsD.v {u : Value} {v : V} (h : ClsD dc u) (i : Is K Hb dc v) : ClsV v u := by
  cases h with
  | ty n => rw [is_ty.mp i]; exact .ty n
  | own C => rw [is_adr.mp i]; exact .own C
theorem ed_isi {tv u : Value} {r : Bool} (g : X.mg "isinstance" = none) (ha : ED X ρ a d) (hb : ED X ρ b dc) (ht : HasTy X.K d tv) (hc : ClsD dc u) (hk : PySem.W.kitOne X.K tv u = some r) (hg : Gl X "isinstance" := by rfl)
    (he : starEach [a, b] X.env = (false, eval a X.env) :: starEach [b] X.env := by rfl) (he2 : starEach [b] X.env = (false, eval b X.env) :: starEach [] X.env := by rfl) (hpl : (backTo pos (starEach [b] X.env)).any (·.1) = false := by rfl) : ED X ρ (.Call (.Name "isinstance" p) [a, b] [] pos) (.bl r) :=
  ed_callB call_isi g (by decide +kernel) (es_cons ha (es_cons hb es_nil he2) he) (fun Hb H vs x q Q k => by
    obtain ⟨v, w, rfl, h1, h2⟩ := es_two q
    exact ⟨v, w, tv, u, r, rfl, hc.v h2, ht Hb H v x h1, hk, k _ _ (gd_bl x)⟩) hg (by decide) (by decide) he hpl
theorem ed_bty (n : String) (g : X.mg x = none) (hv : bootBuiltins x = some (.type n)) (hg : Gl X x := by rfl) (hn : x ≠ "__name__" := by decide) (hd : (x == ("__debug__" : Str)) = false := by decide) : ED X ρ (.Name x pos) (.ty n) :=
  ed_c (pe_bltn (v := .ty n) hg g hv rfl hn hd) fun _ => is_ty.mpr rfl
theorem ed_own {C : Addr} (g : X.mg x = some (.ref C)) (hg : Gl X x := by rfl) (hd : (x == ("__debug__" : Str)) = false := by decide) : ED X ρ (.Name x pos) (.adr C) := ed_c (pe_glob (v := .ref C) hg g rfl hd) fun _ => is_adr.mpr rfl
theorem ed_const {i : Int} {tk : Tok} (g : X.mg x = some (.int i tk)) (hg : Gl X x := by rfl) (hd : (x == ("__debug__" : Str)) = false := by decide) : ED X ρ (.Name x pos) (.int i) := ed_c (pe_glob (v := .int i) hg g ⟨tk, rfl⟩ hd) fun _ => is_int.mpr rfl
theorem ed_v (i : Nat) (hρ : ρ[i]? = some (some d) := by rfl) (hN : X.N[i]? = some x := by rfl) (hv : Vis X.env.scope x := by first | exact Or.inl rfl | exact Or.inr (Or.inl rfl) | exact Or.inr (Or.inr rfl)) (hd : (x == ("__debug__" : Str)) = false := by decide)
    (hcd : (x == ("__classdict__" : Str)) = false := by decide) : ED X ρ (.Name x pos) d := ed_name i hρ (pv i hN hv hd hcd)
theorem rd_isN (h : ∀ Hb v, Is K Hb d v → v ≠ .non) : R2D K (fun x y H Q => y = .non ∧ Q (.bl (decide (x = .non))) H) d .non (.bl false) := fun Hb H v w e h1 h2 Q q => by
  refine ⟨is_non.mp h2, ?_⟩
  rw [decide_eq_false (h Hb v h1)]
  exact q _ _ (gd_bl e)
theorem ed_isN {i : Int} (ha : ED X ρ a (.int i)) (hb : ED X ρ b .non) : ED X ρ (.Compare a [.Is] [b] pos) (.bl false) := ed_cmp op_isN ha hb (rd_isN fun Hb v h => by rw [is_int.mp h]; exact fun z => nomatch z) (nomark _)
/-! ### all, any, sum -/
theorem ed_all (bs : List Bool) (hc : X.calm = true) (g : X.mg "all" = none) (h : ED X ρ e (.lst ds)) (hds : ds = bs.map .bl) (hg : Gl X "all" := by rfl) (he : starEach [e] X.env = (false, eval e X.env) :: starEach [] X.env := by rfl) : ED X ρ (.Call (.Name "all" p) [e] [] pos) (.bl (bs.all id)) :=
  ed_callB (cr_all hc) g (by decide +kernel) (es_cons h es_nil he) (fun Hb H vs x q Q k => by
    subst hds
    obtain ⟨v, rfl, h1⟩ := es_one q
    obtain ⟨a, ws, rfl, ha, hw⟩ := is_lst.mp h1
    rw [isL_bls.mp hw] at ha
    exact ⟨a, bs, rfl, SqL.of (x _ _ ha), k _ _ (gd_bl x)⟩) hg (by decide) (by decide) he
theorem ed_any (bs : List Bool) (hc : X.calm = true) (g : X.mg "any" = none) (h : ED X ρ e (.lst ds)) (hds : ds = bs.map .bl) (hg : Gl X "any" := by rfl) (he : starEach [e] X.env = (false, eval e X.env) :: starEach [] X.env := by rfl) : ED X ρ (.Call (.Name "any" p) [e] [] pos) (.bl (bs.any id)) :=
  ed_callB (cr_any hc) g (by decide +kernel) (es_cons h es_nil he) (fun Hb H vs x q Q k => by
    subst hds
    obtain ⟨v, rfl, h1⟩ := es_one q
    obtain ⟨a, ws, rfl, ha, hw⟩ := is_lst.mp h1
    rw [isL_bls.mp hw] at ha
    exact ⟨a, bs, rfl, SqL.of (x _ _ ha), k _ _ (gd_bl x)⟩) hg (by decide) (by decide) he
theorem ed_sum (ns : List Int) (hc : X.calm = true) (g : X.mg "sum" = none) (h : ED X ρ e (.lst ds)) (hds : ds = ns.map .int) (hg : Gl X "sum" := by rfl) (he : starEach [e] X.env = (false, eval e X.env) :: starEach [] X.env := by rfl) : ED X ρ (.Call (.Name "sum" p) [e] [] pos) (.int ns.sum) :=
  ed_callB (cr_sum hc) g (by decide +kernel) (es_cons h es_nil he) (fun Hb H vs x q Q k => by
    subst hds
    obtain ⟨v, rfl, h1⟩ := es_one q
    obtain ⟨a, ws, rfl, ha, hw⟩ := is_lst.mp h1
    rw [isL_ints.mp hw] at ha
    exact ⟨a, ns, rfl, SqL.of (x _ _ ha), k _ _ (gd_int x)⟩) hg (by decide) (by decide) he
/-- sorted of fewer than 64 whole numbers -/
theorem ed_sorted (ns ms : List Int) (g : X.mg "sorted" = none) (h : ED X ρ e (.lst ds)) (hds : ds = ns.map .int) (hz : ns.length < 64) (hm : ms.Perm ns) (hs : ms.Pairwise (· ≤ ·)) (hg : Gl X "sorted" := by rfl) (he : starEach [e] X.env = (false, eval e X.env) :: starEach [] X.env := by rfl) :
    ED X ρ (.Call (.Name "sorted" p) [e] [] pos) (.lst (ms.map .int)) :=
  ed_callB cr_sorted g (by decide +kernel) (es_cons h es_nil he) (fun Hb H vs x q Q k => by
    subst hds
    obtain ⟨v, rfl, h1⟩ := es_one q
    obtain ⟨a, ws, rfl, ha, hw⟩ := is_lst.mp h1
    rw [isL_ints.mp hw] at ha
    refine ⟨a, ns, rfl, SqL.of (x _ _ ha), hz, fun ns' p hp hs' hn => ?_⟩
    have e1 : ns' = ms := List.Perm.eq_of_pairwise (fun a b _ _ h1 h2 => Int.le_antisymm h1 h2) hs' hs (hp.trans hm.symm)
    subst e1
    exact k _ _ (gd_lst x hn (isL_ints.mpr rfl))) hg (by decide) (by decide) he
theorem ed_maxL (ns : List Int) {m : Int} (hc : X.calm = true) (g : X.mg "max" = none) (h : ED X ρ e (.lst ds)) (hds : ds = ns.map .int) (hm : m ∈ ns) (hb : ∀ y ∈ ns, y ≤ m) (hg : Gl X "max" := by rfl) (he : starEach [e] X.env = (false, eval e X.env) :: starEach [] X.env := by rfl) :
    ED X ρ (.Call (.Name "max" p) [e] [] pos) (.int m) :=
  ed_callB (cr_max hc) g (by decide +kernel) (es_cons h es_nil he) (fun Hb H vs x q Q k => by
    subst hds
    obtain ⟨v, rfl, h1⟩ := es_one q
    obtain ⟨a, ws, rfl, ha, hw⟩ := is_lst.mp h1
    rw [isL_ints.mp hw] at ha
    refine ⟨a, ns, rfl, SqL.of (x _ _ ha), List.length_pos_of_mem hm, fun m' h1 h2 => ?_⟩
    have e1 : m' = m := Int.le_antisymm (hb m' h1) (h2 m hm)
    subst e1
    exact k _ _ (gd_int x)) hg (by decide) (by decide) he
theorem ed_minL (ns : List Int) {m : Int} (hc : X.calm = true) (g : X.mg "min" = none) (h : ED X ρ e (.lst ds)) (hds : ds = ns.map .int) (hm : m ∈ ns) (hb : ∀ y ∈ ns, m ≤ y) (hg : Gl X "min" := by rfl) (he : starEach [e] X.env = (false, eval e X.env) :: starEach [] X.env := by rfl) :
    ED X ρ (.Call (.Name "min" p) [e] [] pos) (.int m) :=
  ed_callB (cr_min hc) g (by decide +kernel) (es_cons h es_nil he) (fun Hb H vs x q Q k => by
    subst hds
    obtain ⟨v, rfl, h1⟩ := es_one q
    obtain ⟨a, ws, rfl, ha, hw⟩ := is_lst.mp h1
    rw [isL_ints.mp hw] at ha
    refine ⟨a, ns, rfl, SqL.of (x _ _ ha), List.length_pos_of_mem hm, fun m' h1 h2 => ?_⟩
    have e1 : m' = m := Int.le_antisymm (h2 m hm) (hb m' h1)
    subst e1
    exact k _ _ (gd_int x)) hg (by decide) (by decide) he
/-! ### int, abs, max, min of two -/
theorem ed_intB {t : Bool} (g : X.mg "int" = none) (h : ED X ρ e (.bl t)) (hg : Gl X "int" := by rfl) (he : starEach [e] X.env = (false, eval e X.env) :: starEach [] X.env := by rfl) : ED X ρ (.Call (.Name "int" p) [e] [] pos) (.int (if t then 1 else 0)) :=
  ed_callTy call_int1 g (by decide +kernel) (es_cons h es_nil he) (fun Hb H vs x q Q k => by
    obtain ⟨v, rfl, h1⟩ := es_one q
    rw [is_bl.mp h1]
    exact .inr ⟨t, rfl, k _ _ (gd_int x)⟩) hg (by decide) (by decide) he
theorem ed_intI {i : Int} (g : X.mg "int" = none) (h : ED X ρ e (.int i)) (hg : Gl X "int" := by rfl) (he : starEach [e] X.env = (false, eval e X.env) :: starEach [] X.env := by rfl) : ED X ρ (.Call (.Name "int" p) [e] [] pos) (.int i) :=
  ed_callTy call_int1 g (by decide +kernel) (es_cons h es_nil he) (fun Hb H vs x q Q k => by
    obtain ⟨v, rfl, h1⟩ := es_one q
    rw [is_int.mp h1]
    exact .inl ⟨i, rfl, k _ _ (gd_int x)⟩) hg (by decide) (by decide) he
theorem ed_abs {i : Int} (g : X.mg "abs" = none) (h : ED X ρ e (.int i)) (hg : Gl X "abs" := by rfl) (he : starEach [e] X.env = (false, eval e X.env) :: starEach [] X.env := by rfl) : ED X ρ (.Call (.Name "abs" p) [e] [] pos) (.int (if i < 0 then -i else i)) :=
  ed_callB call_abs g (by decide +kernel) (es_cons h es_nil he) (fun Hb H vs x q Q k => by
    rw [es_one_int q]
    exact ⟨i, rfl, k _ _ (gd_int x)⟩) hg (by decide) (by decide) he
theorem ed_max2 {i j : Int} (hc : X.calm = true) (g : X.mg "max" = none) (h : ED X ρ a (.int i)) (h2 : ED X ρ b (.int j)) (hg : Gl X "max" := by rfl) (he : starEach [a, b] X.env = (false, eval a X.env) :: starEach [b] X.env := by rfl) (he2 : starEach [b] X.env = (false, eval b X.env) :: starEach [] X.env := by rfl) (hpl : (backTo pos (starEach [b] X.env)).any (·.1) = false := by rfl) :
    ED X ρ (.Call (.Name "max" p) [a, b] [] pos) (.int (if j > i then j else i)) :=
  ed_callB (call_max2 hc) g (by decide +kernel) (es_cons h (es_cons h2 es_nil he2) he) (fun Hb H vs x q Q k => by
    rw [es_two_int q]
    exact ⟨i, j, rfl, k _ _ (gd_int x)⟩) hg (by decide) (by decide) he hpl
theorem ed_min2 {i j : Int} (hc : X.calm = true) (g : X.mg "min" = none) (h : ED X ρ a (.int i)) (h2 : ED X ρ b (.int j)) (hg : Gl X "min" := by rfl) (he : starEach [a, b] X.env = (false, eval a X.env) :: starEach [b] X.env := by rfl) (he2 : starEach [b] X.env = (false, eval b X.env) :: starEach [] X.env := by rfl) (hpl : (backTo pos (starEach [b] X.env)).any (·.1) = false := by rfl) :
    ED X ρ (.Call (.Name "min" p) [a, b] [] pos) (.int (if j < i then j else i)) :=
  ed_callB (call_min2 hc) g (by decide +kernel) (es_cons h (es_cons h2 es_nil he2) he) (fun Hb H vs x q Q k => by
    rw [es_two_int q]
    exact ⟨i, j, rfl, k _ _ (gd_int x)⟩) hg (by decide) (by decide) he hpl
/-! ### list, tuple -/
theorem rc_listL : RCD K (fun xs H Q => ∃ p ys, xs = [.ref p] ∧ (SqL K H p ys ∨ SqT K H p ys) ∧ ∀ l, H l = none → Q (.ref l) (upd H l (.lst ys))) [.lst ds] (.lst ds) := fun Hb H vs x q Q k => by
  obtain ⟨v, rfl, h1⟩ := es_one q
  obtain ⟨a, ws, rfl, ha, hw⟩ := is_lst.mp h1
  exact ⟨a, ws, rfl, .inl (SqL.of (x _ _ ha)), fun l hl => k _ _ (gd_lst x hl hw)⟩
theorem rc_listT : RCD K (fun xs H Q => ∃ p ys, xs = [.ref p] ∧ (SqL K H p ys ∨ SqT K H p ys) ∧ ∀ l, H l = none → Q (.ref l) (upd H l (.lst ys))) [.tup ds] (.lst ds) := fun Hb H vs x q Q k => by
  obtain ⟨v, rfl, h1⟩ := es_one q
  obtain ⟨a, ws, rfl, ha, hw⟩ := is_tup.mp h1
  exact ⟨a, ws, rfl, .inr (Evl.ex_t x ha), fun l hl => k _ _ (gd_lst x hl hw)⟩
theorem ed_listL (g : X.mg "list" = none) (h : ED X ρ e (.lst ds)) (hg : Gl X "list" := by rfl) (he : starEach [e] X.env = (false, eval e X.env) :: starEach [] X.env := by rfl) : ED X ρ (.Call (.Name "list" p) [e] [] pos) (.lst ds) := ed_callTy call_list_of g (by decide +kernel) (es_cons h es_nil he) rc_listL hg (by decide) (by decide) he
theorem ed_listT (g : X.mg "list" = none) (h : ED X ρ e (.tup ds)) (hg : Gl X "list" := by rfl) (he : starEach [e] X.env = (false, eval e X.env) :: starEach [] X.env := by rfl) : ED X ρ (.Call (.Name "list" p) [e] [] pos) (.lst ds) := ed_callTy call_list_of g (by decide +kernel) (es_cons h es_nil he) rc_listT hg (by decide) (by decide) he
theorem ed_tupL (g : X.mg "tuple" = none) (h : ED X ρ e (.lst ds)) (hg : Gl X "tuple" := by rfl) (he : starEach [e] X.env = (false, eval e X.env) :: starEach [] X.env := by rfl) : ED X ρ (.Call (.Name "tuple" p) [e] [] pos) (.tup ds) :=
  ed_callTy call_tuple_of g (by decide +kernel) (es_cons h es_nil he) (fun Hb H vs x q Q k => by
    obtain ⟨v, rfl, h1⟩ := es_one q
    obtain ⟨a, ws, rfl, ha, hw⟩ := is_lst.mp h1
    exact ⟨a, ws, rfl, .inl ⟨SqL.of (x _ _ ha), fun l hl => k _ _ (gd_tup x hl hw)⟩⟩) hg (by decide) (by decide) he
end
end Sm
set_option maxHeartbeats 4000000
/-! Sm6: tuples, zip, dicts. -/
namespace Sm
open PySem PySem.Spec PyProof.Rows L2

/-! ### dicts as data -/
def valD (kvs : List (Key × D)) (k : Key) : Option D := (kvs.find? fun kv => decide (kv.1 = k)).map (·.2)
def putD (kvs : List (Key × D)) (k : Key) (d : D) : List (Key × D) := if (kvs.any fun kv => decide (kv.1 = k)) = true then kvs.map (fun kv => if kv.1 = k then (kv.1, d) else kv) else kvs ++ [(k, d)]
section
variable {K : PySem.W.Frag} {H : Hp}
theorem IsK.length : ∀ {ds : List (Key × D)} {vs : List (Key × V)}, IsK K H ds vs → vs.length = ds.length
  | [], vs, h => by rw [isK_nil.mp h]; rfl
  | (k, d) :: ds, vs, h => by
    obtain ⟨v, r, rfl, _, h⟩ := isK_cons.mp h
    rw [List.length_cons, List.length_cons, IsK.length h]
theorem IsK.any {k : Key} : ∀ {ds : List (Key × D)} {vs : List (Key × V)}, IsK K H ds vs → (vs.any fun kv => decide (kv.1 = k)) = (ds.any fun kv => decide (kv.1 = k))
  | [], vs, h => by rw [isK_nil.mp h]; rfl
  | (j, d) :: ds, vs, h => by
    obtain ⟨v, r, rfl, _, h⟩ := isK_cons.mp h
    rw [List.any_cons, List.any_cons, IsK.any h]
theorem IsK.append : ∀ {ds es : List (Key × D)} {vs ws : List (Key × V)}, IsK K H ds vs → IsK K H es ws → IsK K H (ds ++ es) (vs ++ ws)
  | [], es, vs, ws, h, g => by rw [isK_nil.mp h]; exact g
  | (k, d) :: ds, es, vs, ws, h, g => by
    obtain ⟨v, r, rfl, h1, h⟩ := isK_cons.mp h
    exact isK_cons.mpr ⟨v, r ++ ws, rfl, h1, IsK.append h g⟩
theorem IsK.mapPut {k : Key} {d : D} {v : V} (g : Is K H d v) : ∀ {ds : List (Key × D)} {vs : List (Key × V)}, IsK K H ds vs → IsK K H (ds.map fun kv => if kv.1 = k then (kv.1, d) else kv) (vs.map fun kv => if kv.1 = k then (kv.1, v) else kv)
  | [], vs, h => by rw [isK_nil.mp h]; exact isK_nil.mpr rfl
  | (j, e) :: ds, vs, h => by
    obtain ⟨w, r, rfl, h1, h⟩ := isK_cons.mp h
    rw [List.map_cons, List.map_cons]
    have ih := IsK.mapPut g h (k := k)
    by_cases q : j = k
    · simp only [q, if_true]
      exact isK_cons.mpr ⟨v, _, rfl, g, ih⟩
    · simp only [q, if_false]
      exact isK_cons.mpr ⟨w, _, rfl, h1, ih⟩
theorem IsK.put {k : Key} {d : D} {v : V} {ds : List (Key × D)} {vs : List (Key × V)} (h : IsK K H ds vs) (g : Is K H d v) : IsK K H (putD ds k d) (putK vs k v) := by
  unfold putD putK
  rw [h.any]
  split
  · exact h.mapPut g
  · exact h.append (isK_cons.mpr ⟨v, [], rfl, g, isK_nil.mpr rfl⟩)
theorem IsK.val {k : Key} : ∀ {ds : List (Key × D)} {vs : List (Key × V)}, IsK K H ds vs → (valD ds k = none ∧ valV vs k = none) ∨ ∃ d v, valD ds k = some d ∧ valV vs k = some v ∧ Is K H d v
  | [], vs, h => by rw [isK_nil.mp h]; exact .inl ⟨rfl, rfl⟩
  | (j, e) :: ds, vs, h => by
    obtain ⟨w, r, rfl, h1, h⟩ := isK_cons.mp h
    by_cases q : j = k
    · refine .inr ⟨e, w, ?_, ?_, h1⟩
      · simp [valD, q]
      · simp [valV, q]
    · have e1 : valD ((j, e) :: ds) k = valD ds k := by simp [valD, q]
      have e2 : valV ((j, w) :: r) k = valV r k := by simp [valV, q]
      rw [e1, e2]
      exact IsK.val h
theorem valD_put {kvs : List (Key × D)} {k j : Key} {d : D} : (valD (putD kvs k d) j).isSome = ((valD kvs j).isSome || decide (j = k)) := by
  have hany : ∀ (l : List (Key × D)) (j : Key), (valD l j).isSome = l.any fun kv => decide (kv.1 = j) := fun l j => by
    induction l with
    | nil => rfl
    | cons p l ih =>
      rw [List.any_cons, ← ih]
      by_cases e : p.1 = j
      · simp [valD, e]
      · simp [valD, e]
  rw [hany, hany]
  unfold putD
  split
  · rename_i h
    rw [List.any_map]
    have : ((fun kv : Key × D => decide (kv.1 = j)) ∘ fun kv => if kv.1 = k then (kv.1, d) else kv) = fun kv : Key × D => decide (kv.1 = j) := by
      funext kv
      simp only [Function.comp]
      split <;> rfl
    rw [this]
    by_cases e : j = k
    · subst e; simp [h]
    · simp [e]
  · rw [List.any_append]
    simp [eq_comm]
theorem putD_length (kvs : List (Key × D)) (k : Key) (d : D) : (putD kvs k d).length ≤ kvs.length + 1 := by
  unfold putD
  split <;> simp
end
/-- {kf d: vf d for d in ds} -/
def dcD {α : Type} (kf : α → Key) (vf : α → D) (ds : List α) : List (Key × D) := ds.foldl (fun acc d => putD acc (kf d) (vf d)) []
theorem dcD_snoc {α : Type} {kf : α → Key} {vf : α → D} {ds : List α} {d : α} : dcD kf vf (ds ++ [d]) = putD (dcD kf vf ds) (kf d) (vf d) := by unfold dcD; rw [List.foldl_append]; rfl
theorem dcD_length {α : Type} {kf : α → Key} {vf : α → D} (ds : List α) : (dcD kf vf ds).length ≤ ds.length := by
  have h : ∀ (l : List α) (acc : List (Key × D)), (l.foldl (fun acc d => putD acc (kf d) (vf d)) acc).length ≤ acc.length + l.length := by
    intro l
    induction l with
    | nil => intro acc; exact Nat.le_refl _
    | cons d l ih =>
      intro acc
      have h1 := ih (putD acc (kf d) (vf d))
      have h2 := putD_length acc (kf d) (vf d)
      rw [List.foldl_cons, List.length_cons]
      omega
  have := h ds []
  simpa [dcD] using this
theorem dcD_has {α : Type} {kf : α → Key} {vf : α → D} {k : Key} (ds : List α) : (valD (dcD kf vf ds) k).isSome = true ↔ k ∈ ds.map kf := by
  have h : ∀ (l : List α) (acc : List (Key × D)), (valD (l.foldl (fun acc d => putD acc (kf d) (vf d)) acc) k).isSome = true ↔ ((valD acc k).isSome = true ∨ k ∈ l.map kf) := by
    intro l
    induction l with
    | nil => intro acc; simp
    | cons d l ih =>
      intro acc
      rw [List.foldl_cons, ih, valD_put, List.map_cons, List.mem_cons, Bool.or_eq_true, decide_eq_true_iff, or_assoc]
  have := h ds []
  simpa [dcD, valD] using this

section
variable {X : Cx} {ρ : En} {K : PySem.W.Frag} {Hb H : Hp} {e e2 a b c : Expr} {es : List Expr} {d d1 d2 d3 : D} {ds ds2 : List D} {pos p p2 apos : Pos} {kvs : List (Key × D)}
theorem hu_gt {k : Nat} (hr : Room k X.A) : X.A.units + 1 < cLine := hu_of hr
def keyD : Key → D
  | .inl i => .int i
  | .inr x => .str x
theorem is_key {k : Key} {v : V} : Is K Hb (keyD k) v ↔ v = kV k := by
  cases k with
  | inl i => exact is_int
  | inr x => exact is_str
theorem rd_get {v : V} {k : Key} {a : Addr} {ws : List (Key × V)} (ha : H a = some (.dK ws)) (hv : v = kV k) : DGet H a v (valV ws k) := by rw [hv]; exact .k ha
theorem ed_din {k : Key} (hu : X.A.units + 1 < cLine) (ha : ED X ρ a (keyD k)) (hb : ED X ρ b (.dct kvs)) (hm : behindInMarks .In b = false := by first | exact nobehind _ (by decide) (by decide) | rfl) : ED X ρ (.Compare a [.In] [b] pos) (.bl (valD kvs k).isSome) := fun Hb H σ x I => by
  refine .of (pe_cmp (pc_din hu pe_sm pe_sm) hm) ((ha Hb H σ x I).mono fun v H1 ⟨Hb1, x1, q1⟩ => (hb Hb1 H1 σ x1.in_ (I.mono x1.b)).mono fun w H2 ⟨Hb2, x2, q2⟩ => ?_)
  obtain ⟨a, ws, rfl, ha, hw⟩ := is_dct.mp q2
  refine ⟨a, _, rfl, rd_get (x2.in_ _ _ ha) (is_key.mp q1), ?_⟩
  have e : (valV ws k).isSome = (valD kvs k).isSome := by
    rcases hw.val (k := k) with ⟨h1, h2⟩ | ⟨d, v, h1, h2, _⟩ <;> rw [h1, h2] <;> rfl
  rw [e]
  exact ⟨Hb2, x1.trans x2, is_bl.mpr rfl⟩
theorem ed_dnotin {k : Key} (hu : X.A.units + 1 < cLine) (ha : ED X ρ a (keyD k)) (hb : ED X ρ b (.dct kvs)) (hm : behindInMarks .NotIn b = false := by first | exact nobehind _ (by decide) (by decide) | rfl) : ED X ρ (.Compare a [.NotIn] [b] pos) (.bl (!(valD kvs k).isSome)) := fun Hb H σ x I => by
  refine .of (pe_cmp (pc_dnotin hu pe_sm pe_sm) hm) ((ha Hb H σ x I).mono fun v H1 ⟨Hb1, x1, q1⟩ => (hb Hb1 H1 σ x1.in_ (I.mono x1.b)).mono fun w H2 ⟨Hb2, x2, q2⟩ => ?_)
  obtain ⟨a, ws, rfl, ha, hw⟩ := is_dct.mp q2
  refine ⟨a, _, rfl, rd_get (x2.in_ _ _ ha) (is_key.mp q1), ?_⟩
  have e : (valV ws k).isSome = (valD kvs k).isSome := by
    rcases hw.val (k := k) with ⟨h1, h2⟩ | ⟨d, v, h1, h2, _⟩ <;> rw [h1, h2] <;> rfl
  rw [e]
  exact ⟨Hb2, x1.trans x2, is_bl.mpr rfl⟩
theorem et_dnotin {k : Key} (hu : X.A.units + 1 < cLine) (ha : ED X ρ a (keyD k)) (hb : ED X ρ b (.dct kvs)) (hm : behindInMarks .NotIn b = false := by first | exact nobehind _ (by decide) (by decide) | rfl) : ET X ρ (.Compare a [.NotIn] [b] pos) (!(valD kvs k).isSome) := fun Hb H σ x I => by
  refine .of (pt_cmp (pc_dnotin hu pe_sm pe_sm) hm) ((ha Hb H σ x I).mono fun v H1 ⟨Hb1, x1, q1⟩ => (hb Hb1 H1 σ x1.in_ (I.mono x1.b)).mono fun w H2 ⟨Hb2, x2, q2⟩ => ?_)
  obtain ⟨a, ws, rfl, ha, hw⟩ := is_dct.mp q2
  refine ⟨a, _, rfl, rd_get (x2.in_ _ _ ha) (is_key.mp q1), _, rfl, ?_⟩
  have e : (valV ws k).isSome = (valD kvs k).isSome := by
    rcases hw.val (k := k) with ⟨h1, h2⟩ | ⟨d, v, h1, h2, _⟩ <;> rw [h1, h2] <;> rfl
  rw [e]
  exact ⟨rfl, Hb2, x1.trans x2⟩
/-- d[k] -/
theorem ed_dget {k : Key} (hu : X.A.units + 1 < cLine) (ha : ED X ρ a (.dct kvs)) (hb : ED X ρ b (keyD k)) (h : valD kvs k = some d) (hs : NoSl b := by exact fun _ _ => rfl) : ED X ρ (.Subscript a b pos) d := fun Hb H σ x I => by
  refine .of (pe_dget hu pe_sm pe_sm hs) ((ha Hb H σ x I).mono fun v H1 ⟨Hb1, x1, q1⟩ => (hb Hb1 H1 σ x1.in_ (I.mono x1.b)).mono fun w H2 ⟨Hb2, x2, q2⟩ => ?_)
  obtain ⟨a, ws, rfl, ha, hw⟩ := is_dct.mp q1
  rcases hw.val (k := k) with ⟨h1, h2⟩ | ⟨d', v', h1, h2, h3⟩
  · rw [h] at h1; cases h1
  · rw [h] at h1
    cases h1
    refine ⟨a, v', rfl, ?_, Hb2, x1.trans x2, h3.mono x2.b⟩
    rw [← h2]
    exact rd_get (x2.in_ _ _ (x2.b _ _ ha)) (is_key.mp q2)
/-- d.get(k, x) -/
theorem ed_dget2 {k : Key} {f : Expr} (hu : X.A.units + 1 < cLine) (ha : ED X ρ a (.dct kvs)) (hb : ED X ρ e (keyD k)) (hf : ED X ρ f d) (m : M2 X a "get" apos e f pos) (h : (valD kvs k).getD d = d2) : ED X ρ (.Call (.Attribute a "get" apos) [e, f] [] pos) d2 := fun Hb H σ x I => by
  refine .of (pe_dget2 hu pe_sm pe_sm pe_sm m) ((ha Hb H σ x I).mono fun v H1 ⟨Hb1, x1, q1⟩ => ?_)
  obtain ⟨a, ws, rfl, ha, hw⟩ := is_dct.mp q1
  refine ⟨a, rfl, .inl ⟨ws, .inl (x1.in_ _ _ ha)⟩, (hb Hb1 H1 σ x1.in_ (I.mono x1.b)).mono fun w H2 ⟨Hb2, x2, q2⟩ => (hf Hb2 H2 σ x2.in_ (I.mono (x1.b.trans x2.b))).mono fun z H3 ⟨Hb3, x3, q3⟩ => ?_⟩
  refine ⟨valV ws k, rd_get (x3.in_ _ _ (x3.b _ _ (x2.b _ _ ha))) (is_key.mp q2), Hb3, (x1.trans x2).trans x3, ?_⟩
  rcases hw.val (k := k) with ⟨h1, h2⟩ | ⟨d', v', h1, h2, h3⟩
  · rw [h1] at h
    rw [h2, ← h]
    exact q3
  · rw [h1] at h
    rw [h2, ← h]
    exact h3.mono (x2.b.trans x3.b)
/-! ### parts of tuples and lists -/
theorem IsL.cut {ds : List D} {vs : List V} (h : IsL K H ds vs) (lo hi : Option Int) : IsL K H ((ds.drop (HT.sIx ds.length 0 lo)).take (HT.sIx ds.length ds.length hi - HT.sIx ds.length 0 lo)) (cutV vs lo hi) := by
  unfold cutV
  rw [h.length]
  exact (h.drop _).take _
/-- t[k:] -/
theorem ed_tupFrom {k : Nat} (ha : ED X ρ a (.tup ds)) (hb : ED X ρ b (.int (k : Int))) : ED X ρ (.Subscript a (.Slice (some b) none none p2) pos) (.tup (ds.drop k)) := fun Hb H σ x I => by
  refine .of (pe_slice sl_tupA pe_sm (po_some pe_sm) po_none) ((ha Hb H σ x I).mono fun v H1 ⟨Hb1, x1, q1⟩ => (hb Hb1 H1 σ x1.in_ (I.mono x1.b)).mono fun w H2 ⟨Hb2, x2, q2⟩ => ⟨k, is_int.mp q2, ?_⟩)
  obtain ⟨a, vs, rfl, ha, hv⟩ := is_tup.mp q1
  refine ⟨a, vs, rfl, Evl.ex_t (x2.b.trans x2.in_) ha, fun hw => ?_, fun hw p hp => ?_⟩
  · have e : ds.drop k = ds := by
      rw [HT.sIx_nat, HT.sIx_none] at hw
      have h1 := hv.length
      by_cases hk : k = 0
      · rw [hk]; rfl
      · have : ds.length = 0 := by omega
        rw [List.length_eq_zero_iff.mp this]
        exact List.drop_nil
    rw [e]
    exact ⟨Hb2, x1.trans x2, q1.mono x2.b⟩
  · have c := (hv.mono x2.b).cut (some (k : Int)) none
    rw [HT.sIx_nat, HT.sIx_none] at c
    have e : (ds.drop (min k ds.length)).take (ds.length - min k ds.length) = ds.drop k := by
      by_cases hk : k ≤ ds.length
      · rw [Nat.min_eq_left hk]
        exact List.take_of_length_le (by rw [List.length_drop]; exact Nat.le_refl _)
      · rw [Nat.min_eq_right (by omega), Nat.sub_self, List.take_zero, List.drop_eq_nil_of_le (by omega)]
    rw [e] at c
    exact (gd_tup x2.in_ hp c).trans (x1.trans x2)
/-- xs[:-1] -/
theorem ed_lstInit (ha : ED X ρ a (.lst ds)) (hb : ED X ρ b (.int (-1))) : ED X ρ (.Subscript a (.Slice none (some b) none p2) pos) (.lst ds.dropLast) := fun Hb H σ x I => by
  refine .of (pe_slice sl_list pe_sm po_none (po_some pe_sm)) ((ha Hb H σ x I).mono fun v H1 ⟨Hb1, x1, q1⟩ => (hb Hb1 H1 σ x1.in_ (I.mono x1.b)).mono fun w H2 ⟨Hb2, x2, q2⟩ => ⟨-1, is_int.mp q2, ?_⟩)
  obtain ⟨a, vs, rfl, ha, hv⟩ := is_lst.mp q1
  refine ⟨a, vs, rfl, SqL.of (x2.in_ _ _ (x2.b _ _ ha)), fun p hp => ?_⟩
  have c := (hv.mono x2.b).cut none (some (-1))
  have e0 : HT.sIx ds.length ds.length (some (-1)) = ds.length - 1 := by
    unfold HT.sIx
    dsimp only
    rw [if_pos (by decide)]
    omega
  rw [HT.sIx_none, e0, Nat.sub_zero, List.drop_zero, ← List.dropLast_eq_take] at c
  exact (gd_lst x2.in_ hp c).trans (x1.trans x2)
theorem rd_ltT {ns ms : List Int} : R2D K (rLtT K) (.tup (ns.map .int)) (.tup (ms.map .int)) (.bl (HT.lexLt ns ms)) := fun Hb H v w e h1 h2 Q q => by
  obtain ⟨a, vs, rfl, ha, hv⟩ := is_tup.mp h1
  obtain ⟨b, ws, rfl, hb, hw⟩ := is_tup.mp h2
  rw [isL_ints.mp hv] at ha
  rw [isL_ints.mp hw] at hb
  exact ⟨a, b, ns, ms, rfl, rfl, Evl.ex_t e ha, Evl.ex_t e hb, q _ _ (gd_bl e)⟩
theorem ed_ltT {ns ms : List Int} (hu : X.A.units < cLine) (ha : ED X ρ a (.tup (ns.map .int))) (hb : ED X ρ b (.tup (ms.map .int))) : ED X ρ (.Compare a [.Lt] [b] pos) (.bl (HT.lexLt ns ms)) := ed_cmp (op_ltT hu) ha hb rd_ltT (nomark _)
/-- t + u -/
theorem rd_catT (hz : ds.length + ds2.length ≤ sizeLine) : R2D K (rCatA K) (.tup ds) (.tup ds2) (.tup (ds ++ ds2)) := fun Hb H v w e h1 h2 Q q => by
  obtain ⟨a, vs, rfl, ha, hv⟩ := is_tup.mp h1
  obtain ⟨b, ws, rfl, hb, hw⟩ := is_tup.mp h2
  refine ⟨a, b, vs, ws, rfl, rfl, Evl.ex_t e ha, Evl.ex_t e hb, by rw [hv.length, hw.length]; exact hz, fun h0 => ?_, fun h0 h1' => ?_, fun h0 h1' p hp => q _ _ (gd_tup e hp (hv.append hw))⟩
  · have : ds = [] := by
      have := hv.length
      rw [h0] at this
      exact List.length_eq_zero_iff.mp this.symm
    rw [this, List.nil_append] at q
    exact q _ _ (gd_same e h2)
  · have : ds2 = [] := by
      have := hw.length
      rw [h1'] at this
      exact List.length_eq_zero_iff.mp this.symm
    rw [this, List.append_nil] at q
    exact q _ _ (gd_same e h1)
theorem ed_catT (ha : ED X ρ a (.tup ds)) (hb : ED X ρ b (.tup ds2)) (hz : ds.length + ds2.length ≤ sizeLine) : ED X ρ (.BinOp a .Add b pos) (.tup (ds ++ ds2)) := ed_2 (pe_op op_catA pe_sm pe_sm) ha hb (rd_catT hz)
theorem ed_catL (ha : ED X ρ a (.lst ds)) (hb : ED X ρ b (.lst ds2)) (hz : ds.length + ds2.length ≤ sizeLine) : ED X ρ (.BinOp a .Add b pos) (.lst (ds ++ ds2)) := ed_2 (pe_op op_cat pe_sm pe_sm) ha hb fun Hb H v w e h1 h2 Q q => by
  obtain ⟨a, vs, rfl, ha, hv⟩ := is_lst.mp h1
  obtain ⟨b, ws, rfl, hb, hw⟩ := is_lst.mp h2
  exact ⟨a, b, vs, ws, rfl, rfl, e _ _ ha, e _ _ hb, by rw [hv.length, hw.length]; exact hz, fun p hp => q _ _ (gd_lst e hp (hv.append hw))⟩
/-! ### zip of two tuples -/
def zipD (ds ds2 : List D) : List D := List.zipWith (fun x y => D.tup [x, y]) ds ds2
theorem zipD_map {α β : Type} {f : α → D} {g : β → D} : ∀ (xs : List α) (ys : List β), zipD (xs.map f) (ys.map g) = (xs.zip ys).map fun q => .tup [f q.1, g q.2]
  | [], _ => rfl
  | _ :: _, [] => rfl
  | x :: xs, y :: ys => by
    have ih := zipD_map (f := f) (g := g) xs ys
    unfold zipD at ih ⊢
    rw [List.map_cons, List.map_cons, List.zipWith_cons_cons, ih, List.zip_cons_cons, List.map_cons]
theorem ei_is {X : Cx} {ρ : En} {tg it : Expr} {ds ds' : List D} (h : EI X ρ tg it ds) (e : ds = ds') : EI X ρ tg it ds' := e ▸ h
theorem fil1 {α : Type} (xs : List α) : (xs.filter fun _ => true) = xs := List.filter_eq_self.mpr fun _ _ => rfl
theorem wk_zipT {a b : Addr} {vs ws : List V} (ha : SqT K Hb a vs) (h : IsL K Hb ds vs) (hb : SqT K Hb b ws) (h2 : IsL K Hb ds2 ws) : Wk K Hb (RZ.ItzT K a b) (zipD ds ds2) := by
  have hl : (zipD ds ds2).length = min ds.length ds2.length := by unfold zipD; rw [List.length_zipWith]
  refine ⟨fun i H x hi => ?_, fun i H x hi => ⟨vs, ws, Evl.ex_t x ha, Evl.ex_t x hb, ?_⟩, fun i Hi H y H' d x1 x2 hd hy => ?_⟩
  · rw [hl] at hi
    have hv : i < vs.length := by rw [h.length]; omega
    have hw : i < ws.length := by rw [h2.length]; omega
    exact ⟨vs, ws, _, _, Evl.ex_t x ha, Evl.ex_t x hb, List.getElem?_eq_getElem hv, List.getElem?_eq_getElem hw⟩
  · rw [hl] at hi
    rw [h.length, h2.length]
    omega
  · obtain ⟨T, x, z, rfl, hT, rfl, q1, q2⟩ := hy
    unfold zipD at hd
    rw [List.getElem?_zipWith] at hd
    have hi : i < min ds.length ds2.length := by
      rw [← hl]
      have := (List.getElem?_eq_some_iff.mp (show (zipD ds ds2)[i]? = some d by unfold zipD; rw [List.getElem?_zipWith]; exact hd)).1
      exact this
    have h3 : ds[i]? = some ds[i] := List.getElem?_eq_getElem (by omega)
    have h4 : ds2[i]? = some ds2[i] := List.getElem?_eq_getElem (by omega)
    rw [h3, h4] at hd
    cases hd
    obtain ⟨v, g1, g2⟩ := h.get h3
    obtain ⟨w, g3, g4⟩ := h2.get h4
    have k1 := q1 vs (Evl.ex_t (x1.trans x2) ha)
    have k2 := q2 ws (Evl.ex_t (x1.trans x2) hb)
    rw [g1] at k1
    rw [g3] at k2
    cases k1
    cases k2
    exact gd_tup x2 hT (isL_cons.mpr ⟨_, _, rfl, g2.mono x1, IsL.one (g4.mono x1)⟩)
theorem ei_zipT {elts : List Expr} {kk : Nat} {tpos : Pos} (g : X.mg "zip" = none) (h : ED X ρ e (.tup ds)) (h2 : ED X ρ e2 (.tup ds2)) (hg : Gl X "zip" := by rfl) (hs : starEach [e, e2] X.env = (false, eval e X.env) :: starEach [e2] X.env := by rfl) (he2 : starEach [e2] X.env = (false, eval e2 X.env) :: starEach [] X.env := by rfl)
    (hpl : (backTo pos (starEach [e2] X.env)).any (·.1) = false := by rfl) : EI X ρ (.Tuple elts kk tpos) (.Call (.Name "zip" p) [e, e2] [] pos) (zipD ds ds2) := by
  obtain ⟨ta, hp, q⟩ := es_cons h (es_cons h2 es_nil he2) hs
  refine ⟨_, RZ.pi_zipA hg g hp hs hpl, fun Hb H σ x I R k => q Hb H σ x I _ fun vs H1 Hb1 x1 q1 => ?_⟩
  obtain ⟨v, w, rfl, k1, k2⟩ := es_two q1
  obtain ⟨a, vs, rfl, ha, hv⟩ := is_tup.mp k1
  obtain ⟨b, ws, rfl, hb, hw⟩ := is_tup.mp k2
  exact ⟨a, b, vs, ws, rfl, .inr ⟨Evl.ex_t x1.in_ ha, Evl.ex_t x1.in_ hb, k _ _ Hb1 x1 (wk_zipT ha hv hb hw)⟩⟩
/-! ### in a tuple, a list of whole numbers -/
theorem inV_ints {i : Int} : ∀ ns : List Int, inV (.int i) (ns.map .int) = decide (i ∈ ns)
  | [] => rfl
  | n :: ns => by
    have ih := inV_ints (i := i) ns
    unfold inV at ih ⊢
    rw [List.map_cons, List.any_cons, ih]
    show (n == i || decide (i ∈ ns)) = _
    by_cases h : i = n
    · subst h; simp
    · have h2 : (n == i) = false := beq_eq_false_iff_ne.mpr (Ne.symm h)
      rw [h2, Bool.false_or]
      exact decide_eq_decide.mpr (by simp [h])
theorem flat_ints : ∀ ns : List Int, (ns.map V.int).all flatV = true
  | [] => rfl
  | n :: ns => flat_ints ns
theorem rd_inT {i : Int} {ns : List Int} : R2D K (rIn K false) (.int i) (.tup (ns.map .int)) (.bl (decide (i ∈ ns))) := fun Hb H v w e h1 h2 Q q => by
  obtain ⟨a, vs, rfl, ha, hv⟩ := is_tup.mp h2
  rw [isL_ints.mp hv] at ha
  rw [is_int.mp h1]
  refine ⟨a, _, rfl, .inr (Evl.ex_t e ha), rfl, flat_ints ns, ?_⟩
  rw [if_neg Bool.false_ne_true, inV_ints]
  exact q _ _ (gd_bl e)
theorem rd_inL {i : Int} {ns : List Int} : R2D K (rIn K false) (.int i) (.lst (ns.map .int)) (.bl (decide (i ∈ ns))) := fun Hb H v w e h1 h2 Q q => by
  obtain ⟨a, vs, rfl, ha, hv⟩ := is_lst.mp h2
  rw [isL_ints.mp hv] at ha
  rw [is_int.mp h1]
  refine ⟨a, _, rfl, .inl (SqL.of (e _ _ ha)), rfl, flat_ints ns, ?_⟩
  rw [if_neg Bool.false_ne_true, inV_ints]
  exact q _ _ (gd_bl e)
theorem rd_notinT {i : Int} {ns : List Int} : R2D K (rIn K true) (.int i) (.tup (ns.map .int)) (.bl (!decide (i ∈ ns))) := fun Hb H v w e h1 h2 Q q => by
  obtain ⟨a, vs, rfl, ha, hv⟩ := is_tup.mp h2
  rw [isL_ints.mp hv] at ha
  rw [is_int.mp h1]
  refine ⟨a, _, rfl, .inr (Evl.ex_t e ha), rfl, flat_ints ns, ?_⟩
  rw [if_pos rfl, inV_ints]
  exact q _ _ (gd_bl e)
theorem et_inT {i : Int} (ns : List Int) (ha : ED X ρ a (.int i)) (hb : ED X ρ b (.tup ds)) (hds : ds = ns.map .int) (hm : behindInMarks .In b = false := by first | rfl | exact nobehind _ (by decide) (by decide)) : ET X ρ (.Compare a [.In] [b] pos) (decide (i ∈ ns)) := by
  subst hds
  exact et_cmp op_in_seq ha hb rd_inT hm
theorem et_inL {i : Int} (ns : List Int) (ha : ED X ρ a (.int i)) (hb : ED X ρ b (.lst ds)) (hds : ds = ns.map .int) (hm : behindInMarks .In b = false := by first | rfl | exact nobehind _ (by decide) (by decide)) : ET X ρ (.Compare a [.In] [b] pos) (decide (i ∈ ns)) := by
  subst hds
  exact et_cmp op_in_seq ha hb rd_inL hm
theorem et_notinT {i : Int} (ns : List Int) (ha : ED X ρ a (.int i)) (hb : ED X ρ b (.tup ds)) (hds : ds = ns.map .int) (hm : behindInMarks .NotIn b = false := by first | rfl | exact nobehind _ (by decide) (by decide)) : ET X ρ (.Compare a [.NotIn] [b] pos) (!decide (i ∈ ns)) := by
  subst hds
  exact et_cmp op_notIn_seq ha hb rd_notinT hm
/-! ### {k: v for ..}, keys whole numbers or texts -/
theorem ed_dc {α : Type} {xs : List α} (enc : α → D) {kx vx tg iter : Expr} {ifs : List Expr} {scope : Scope} {own : List (Str × Nat)} {g : TG} {pr : α → Bool} {kf : α → Key} {vf : α → D} {τ : α → En} (hc : X.calm = true) (hN : X.N.Nodup) (hi : EI X ρ tg iter (xs.map enc)) (ok : BlkOk X.N X.env.scope scope own) (hz : xs.length ≤ sizeLine)
    (hg : InB X scope fun Y => PG Y tg g) (hτ : ∀ d ∈ xs, TgD X.K g (own.map (·.2)) (wipeD ρ (own.map (·.2))) (enc d) (τ d))
    (ht : ∀ d ∈ xs, InB X scope fun Y => ETs Y (τ d) ifs (pr d)) (hk : ∀ d ∈ xs, pr d = true → InB X scope fun Y => ED Y (τ d) kx (keyD (kf d))) (he : ∀ d ∈ xs, pr d = true → InB X scope fun Y => ED Y (τ d) vx (vf d)) (hs : ∀ x, foldedSetIterable iter X.env x = pure x := by intro _; rfl) :
    ED X ρ (.DictComp kx vx [⟨tg, iter, ifs, 0⟩] scope pos) (.dct (dcD kf vf (xs.filter pr))) := fun Hb H σ x I => by
  obtain ⟨wi, hpi, hwi⟩ := hi
  refine .of (pe_dc (g := g) hc hN hpi ok hg pts_bt pe_bt pe_bt hs) ?_
  refine hwi Hb H σ x I _ fun J H1 Hb1 x1 ⟨wk1, wk2, wk3⟩ => fun Dl hD => ?_
  refine ⟨fun i m H => m = xs.length - i ∧ i ≤ xs.length ∧ ∃ Hi ws, Xt Hb1 H1 Hi (hid H Dl) ∧ Hi Dl = none ∧ H Dl = some (.dK ws) ∧ IsK X.K Hi (dcD kf vf ((xs.take i).filter pr)) ws, ⟨xs.length, by simp, Nat.zero_le _, Hb1, [], ?_, Evl.fresh_back x1.in_ hD, upd_same, isK_nil.mpr rfl⟩, ?_⟩
  · rw [hid_upd, hid_of_none hD]; exact .refl x1.in_
  rintro i m H2 ⟨rfl, hi, Hi, ws, a1, a2, a3, a4⟩
  have a5 : Evl.Ex Hi H2 := a1.in_.trans hid_ex
  by_cases hlt : i < xs.length
  · refine .inr ⟨wk1 i H2 (a1.b.trans a5) (by rw [List.length_map]; exact hlt), fun H' => i + 1 ≤ xs.length ∧ ∃ Hi ws, Xt Hb1 H1 Hi (hid H' Dl) ∧ Hi Dl = none ∧ H' Dl = some (.dK ws) ∧ IsK X.K Hi (dcD kf vf ((xs.take (i + 1)).filter pr)) ws, fun H' ⟨b1, b2⟩ => ⟨xs.length - (i + 1), by omega, rfl, b1, b2⟩, fun x H3 hy => ?_⟩
    have hd : xs[i]? = some xs[i] := List.getElem?_eq_getElem hlt
    have hm : xs[i] ∈ xs := List.getElem_mem hlt
    have htk : xs.take (i + 1) = xs.take i ++ [xs[i]] := by rw [List.take_add_one, hd]; rfl
    obtain ⟨H3b, x3, q3⟩ := wk3 i Hi H2 x H3 (enc xs[i]) a1.b a5 (by rw [List.getElem?_map, hd]; rfl) hy
    have n2 : H2 Dl ≠ none := by rw [a3]; exact fun z => nomatch z
    have IW : IsE X.K H3b (L2.wipe σ (own.map (·.2))) (wipeD ρ (own.map (·.2))) := ((I.mono x1.b).mono (a1.b.trans x3.b)).wipe _
    refine hτ _ hm H3b H3 _ x x3.in_ IW q3 _ fun σ' I' hw => ⟨hw.trans wipe_wipe, fun s H0 C cl fp => ?_⟩
    intro pins ss J1
    refine (ht _ hm s H0 C cl fp (Xt H3b H3) H3b H3 σ' x3.in_ I' (.refl x3.in_) pins ss J1 |> fun z => thn z fun b s' ⟨H4, J4, H4b, c1, c2, c3, c4⟩ => ⟨H4, J4, ?_⟩)
    have x4 : Xt Hi H2 H4b H4 := x3.trans c3
    subst c4
    by_cases hp : pr xs[i] = true
    · rw [hp]
      refine iteT ?_
      intro s2 H02 C2 cl2 fp2
      refine (hk _ hm hp s2 H02 C2 cl2 fp2 H4b H4 σ' c2 (I'.mono c1)).mono fun v H5 ⟨H5b, x5, q5⟩ => ?_
      intro s3 H03 C3 cl3 fp3
      refine (he _ hm hp s3 H03 C3 cl3 fp3 H5b H5 σ' x5.in_ (I'.mono (c1.trans x5.b))).mono fun w H6 ⟨H6b, x6, q6⟩ => ?_
      have x7 : Xt Hi H2 H6b H6 := (x4.trans x5).trans x6
      have hD6 : H6 Dl = some (.dK ws) := x7.h _ _ a3
      have hn6 : H6b Dl = none := x7.new Dl n2 a2
      have hws : ws.length < sizeLine := by
        have h1 := a4.length
        have h2 := dcD_length (kf := kf) (vf := vf) ((xs.take i).filter pr)
        have h3 := List.length_filter_le pr (xs.take i)
        rw [List.length_take] at h3
        omega
      refine ⟨ws, _, is_key.mp q5, hD6, hws, hlt, H6b, _, ?_, hn6, upd_same, ?_⟩
      · rw [hid_upd]; exact a1.trans (x7.hid a2 n2)
      · rw [htk, List.filter_append, List.filter_cons, hp, if_pos rfl, List.filter_nil, dcD_snoc]
        exact (a4.mono x7.b).put q6
    · rw [Bool.eq_false_iff.mpr hp]
      refine iteF ?_
      refine ⟨hlt, H4b, ws, a1.trans (x4.hid a2 n2), x4.new Dl n2 a2, x4.h _ _ a3, ?_⟩
      rw [htk, List.filter_append, List.filter_cons, Bool.eq_false_iff.mpr hp, if_neg Bool.false_ne_true, List.filter_nil, List.append_nil]
      exact a4.mono x4.b
  · have e : i = xs.length := by omega
    subst e
    rw [List.take_length] at a4
    have x5 : Xt Hi (hid H2 Dl) (upd Hi Dl (.dK ws)) H2 := ⟨hid_ex, Evl.Ex.new a2, fun a o q => by
      by_cases z : a = Dl
      · rw [z, upd_same] at q; rw [z, a3]; exact q
      · rw [upd_ne z] at q; exact a5 a o q, fun a g1 g2 => by
      by_cases z : a = Dl
      · rw [z, hid_same] at g1; exact absurd rfl g1
      · rw [upd_ne z]; exact g2⟩
    exact .inl ⟨wk2 _ H2 (a1.b.trans a5) (by rw [List.length_map]; exact Nat.le_refl _), _, x1.trans (a1.trans x5), is_dct.mpr ⟨Dl, ws, rfl, upd_same, a4.mono x5.b⟩⟩
end
end Sm
set_option maxHeartbeats 4000000
/-! Sm7: instances: made, filled by __init__, read. -/
namespace Sm
open PySem PySem.Spec PyProof.Rows L2

def putFD (f : Str) (d : D) : List (Str × D) → List (Str × D)
  | [] => [(f, d)]
  | (g, x) :: r => if g = f then (g, d) :: r else (g, x) :: putFD f d r
theorem pl {f : Str} {d : D} {n : Nat} : ∀ {fs : List (Str × D)}, fs.length ≤ n → (putFD f d fs).length ≤ n + 1
  | [], h => by show 1 ≤ n + 1; omega
  | (k, x) :: r, h => by
    unfold putFD
    split
    · exact Nat.le_succ_of_le h
    · rw [List.length_cons] at h ⊢
      cases n with
      | zero => omega
      | succ n => exact Nat.succ_le_succ (pl (Nat.le_of_succ_le_succ h))
theorem pl0 : ([] : List (Str × D)).length ≤ 0 := Nat.le_refl _
section
variable {K : PySem.W.Frag} {H Hb : Hp} {W : As} {a dx C : Addr} {fs : List (Str × D)} {f : Str} {d : D} {v : V}
theorem IsF.put (g : Is K H d v) : ∀ {fs : List (Str × D)} {ws : List (Str × V)}, IsF K H fs ws → IsF K H (putFD f d fs) (L2.putF f v ws)
  | [], ws, h => by rw [isF_nil.mp h]; exact isF_cons.mpr ⟨v, [], rfl, g, isF_nil.mpr rfl⟩
  | (k, x) :: r, ws, h => by
    obtain ⟨w, t, rfl, h1, h⟩ := isF_cons.mp h
    unfold putFD L2.putF
    by_cases e : k = f
    · rw [if_pos e, if_pos e]
      exact isF_cons.mpr ⟨v, t, rfl, g, h⟩
    · rw [if_neg e, if_neg e]
      exact isF_cons.mpr ⟨w, _, rfl, h1, IsF.put g h⟩
/-- beside W an instance of C stands at a that may change -/
def FramI (K : PySem.W.Frag) (W : As) (a C : Addr) (fs : List (Str × D)) : As := fun Hb H => Hb a = none ∧ (∃ dx ws, H a = some (.ins C dx ws) ∧ IsF K Hb fs ws) ∧ W Hb (hid H a)
instance framIStb [Stb W] : Stb (FramI K W a C fs) := ⟨fun {Hb H Hb' H'} ⟨h1, ⟨dx, ws, h2, h3⟩, h4⟩ x =>
  have n : H a ≠ none := by rw [h2]; exact fun z => nomatch z
  ⟨x.new a n h1, ⟨dx, ws, x.h _ _ h2, h3.mono x.b⟩, Stb.st h4 (x.hid h1 n)⟩⟩
theorem FramI.done [Stb W] (h : FramI K W a C fs Hb H) (e : Evl.Ex Hb H) : ∃ Hb', Xt Hb (hid H a) Hb' H ∧ W Hb' H ∧ Is K Hb' (.obj C fs) (.ref a) := by
  obtain ⟨h1, ⟨dx, ws, h2, h3⟩, h4⟩ := h
  have x : Xt Hb (hid H a) (upd Hb a (.ins C dx ws)) H := ⟨hid_ex, Evl.Ex.new h1, fun b o q => by
    by_cases z : b = a
    · rw [z, upd_same] at q; rw [z, h2]; exact q
    · rw [upd_ne z] at q; exact e b o q, fun b g1 g2 => by
    by_cases z : b = a
    · rw [z, hid_same] at g1; exact absurd rfl g1
    · rw [upd_ne z]; exact g2⟩
  exact ⟨_, x, Stb.st h4 x, is_obj.mpr ⟨a, dx, ws, rfl, upd_same, h3.mono x.b⟩⟩
end
section
variable {X : Cx} {W : As} {ρ : En} {e o : Expr} {es : List Expr} {rest : List Stmt} {N : En → As} {R : D → As} {B C' : En → As} {d : D} {ds dd : List D} {a C : Addr} {fs : List (Str × D)} {f x : Str} {pos p pos' : Pos} {P : D → Prop}
/-- self.f = e -/
theorem eb_fldW [Stb W] (h : EW X (FramI X.K W a C fs) ρ e P) (ho : ED X ρ o (.adr a)) (cl : Cls X.K C) (na : NoAttr X.K C f) (hl : fs.length < 1000) (k : ∀ d, P d → EB X (FramI X.K W a C (putFD f d fs)) ρ rest N R B C')
    (hs : swapsWith e (some (.Attribute o f pos')) pos.line X.env = pure false := by rfl) : EB X (FramI X.K W a C fs) ρ (.Assign [.Attribute o f pos'] e pos :: rest) N R B C' :=
  eb_st (N1 := fun ρ' Hb H => ρ' = ρ ∧ ∃ d, P d ∧ FramI X.K W a C (putFD f d fs) Hb H) (ps_fld pe_sm pe_sm hs) (fun Hb H σ x1 I w Nx kk => (h Hb H σ x1 I w).mono fun v H1 ⟨Hb1, d, a1, a2, a3, a4, a5⟩ =>
    (ho Hb1 H1 σ a2 (I.mono a1)).mono fun u H2 ⟨Hb2, x2, q2⟩ => by
      have w2 : FramI X.K W a C fs Hb2 H2 := Stb.st a3 x2
      obtain ⟨b1, ⟨dx, ws, b2, b3⟩, b4⟩ := w2
      refine ⟨a, C, dx, ws, is_adr.mp q2, b2, cl, na, by rw [b3.length]; exact hl, kk _ _ ρ Hb2 (a1.trans x2.b) (Evl.Ex.mut x2.in_ b1) ((I.mono a1).mono x2.b) ⟨rfl, d, a4, b1, ⟨dx, _, upd_same, b3.put (a5.mono x2.b)⟩, ?_⟩⟩
      rw [hid_upd]
      exact b4)
    fun ρ' Hb H σ x I ⟨er, d, hd, w⟩ => by subst er; exact k d hd Hb H σ x I w
theorem eb_fld [Stb W] (h : ED X ρ e d) (ho : ED X ρ o (.adr a)) (cl : Cls X.K C) (na : NoAttr X.K C f) (hl : fs.length < 1000) (k : EB X (FramI X.K W a C (putFD f d fs)) ρ rest N R B C')
    (hs : swapsWith e (some (.Attribute o f pos')) pos.line X.env = pure false := by rfl) : EB X (FramI X.K W a C fs) ρ (.Assign [.Attribute o f pos'] e pos :: rest) N R B C' :=
  eb_fldW (ew_ed h) ho cl na hl (fun d' e => by subst e; exact k) hs
end

/-! ### __init__ and C(..) -/
/-- a new instance at a is filled: ds the further arguments -/
def spI (K : PySem.W.Frag) (C : Addr) (φ : List D → List (Str × D) → Prop) : Sp := fun vs H Q _ => ∃ Hb a dx us ds fs, vs = .ref a :: us ∧ Evl.Ex Hb H ∧ Hb a = none ∧ H a = some (.ins C dx []) ∧ IsL K Hb ds us ∧ φ ds fs ∧ ∀ Hb' H', Evl.Ex Hb' H' → FramI K (Xt Hb (hid H a)) a C fs Hb' H' → Q .non H'
section
variable {P : Program} {w : World} {K : PySem.W.Frag} {mg : Str → Option Value} {base : Heap}
theorem fn_init {x qual : Str} {st : Stmt} {f C : Addr} {fd : FuncData} {N ps : List Str} {k : Nat} {φ : List D → List (Str × D) → Prop} (F : Fun K x qual st f fd) (S : FnScope N ps (defScope st)) (len : ∀ ds fs, φ ds fs → ds.length + 1 = ps.length)
    (hbody : ∀ (cdv : Value) (A : Around) (outer : List Env) (s : Shared) (H : Hp) (E : XK), Room k (A.deeper (envOfC qual (defScope st) s.heap.objs.size f cdv)) → ∀ ds fs, φ ds fs → ∀ Hb0 H0 a,
      EB (cxOf CX0 P w K mg base N qual (defScope st) f cdv A outer s H E).nox (FramI K (Xt Hb0 H0) a C []) (st0 N (.adr a :: ds)) (defBody st) (fun _ => FramI K (Xt Hb0 H0) a C fs) (fun d' Hb H => d' = .non ∧ FramI K (Xt Hb0 H0) a C fs Hb H) No No) :
    FnOk P w K mg base CX0 (k + 1) f fd ps (spI K C φ) := by
  refine F.ok S (fun vs H Q E ⟨Hb, a, dx, us, ds, fs, h1, _, _, _, h5, h6, _⟩ => by rw [h1, List.length_cons, h5.length]; exact len ds fs h6) (fun cdv A outer s H vs Q E hr ⟨Hb, a, dx, us, ds, fs, h1, h2, h3, h4, h5, h6, h7⟩ => ?_)
  refine ⟨_, pss_sm, ?_⟩
  subst h1
  have w0 : FramI K (Xt Hb (hid H a)) a C [] Hb H := ⟨h3, ⟨dx, [], h4, isF_nil.mpr rfl⟩, .refl (ex_hid h2 h3)⟩
  refine (hbody cdv A outer s H E hr ds fs h6 Hb (hid H a) a Hb H _ h2 (start_is (isL_cons.mpr ⟨_, _, rfl, is_adr.mpr rfl, h5⟩)) w0).mono (fun σ H' ⟨ρ', Hb', a1, a2, a3, a4⟩ => h7 Hb' H' a2 a4) (fun v H' ⟨d', Hb', a1, a2, a3, e, a4⟩ => ?_) (fun σ H' ⟨ρ', Hb', a1, a2, a3, z⟩ => z.elim) fun σ H' ⟨ρ', Hb', a1, a2, a3, z⟩ => z.elim
  subst e
  rw [is_non.mp a3]
  exact h7 Hb' H' a2 a4
variable {X : Cx} {ρ : En} {e : Expr} {es : List Expr} {ds dd : List D} {f C : Addr} {fd : FuncData} {ps : List Str} {dfs : List Value} {dvs : List V} {k : Nat} {φ : List D → List (Str × D) → Prop} {x : Str} {p pos : Pos} {fs : List (Str × D)}
/-- C(..) -/
theorem ed_mk (M : Mk X.K C f) (F : FnOk X.prog X.w X.K X.mg X.base CX0 k f fd ps (spI X.K C φ)) (hr : Room (k + 1) X.A) (hm : X.mg x = some (.ref C)) (hb : Binds X.K fd ps dfs) (hd : Vals dvs dfs) (hdd : ∀ Hb, IsL X.K Hb dd dvs)
    (hs : ES X ρ (e :: es) ds) (hφ : φ (ds ++ dd) fs) (hg : Gl X x := by rfl) (hdb : (x == ("__debug__" : Str)) = false := by decide) (he : starEach (e :: es) X.env = (false, eval e X.env) :: starEach es X.env := by rfl) (hpl : (backTo pos (starEach es X.env)).any (·.1) = false := by rfl) :
    ED X ρ (.Call (.Name x p) (e :: es) [] pos) (.obj C fs) := fun Hb H σ x1 I => by
  obtain ⟨ta, hp, q⟩ := hs
  refine .of (pe_make M F hr hg hm hb hd pass0 hp hdb he hpl) (q Hb H σ x1 I _ fun vs H1 Hb1 x2 q1 => ?_)
  intro a dx ha hdx hne
  have hbx : Hb1 a = none := Evl.fresh_back x2.in_ ha
  have hH : hid (upd (upd H1 dx (.own a)) a (.ins C dx [])) a = upd H1 dx (.own a) := by rw [hid_upd, hid_of_none]; rw [upd_ne (Ne.symm hne)]; exact ha
  have e1 : Evl.Ex H1 (upd H1 dx (.own a)) := Evl.Ex.new hdx
  refine ⟨Hb1, a, dx, vs ++ dvs, ds ++ dd, fs, rfl, (x2.in_.trans e1).trans (Evl.Ex.new (by rw [upd_ne (Ne.symm hne)]; exact ha)), hbx, upd_same, q1.append (hdd Hb1), hφ, fun Hb' H' e2 w => ⟨rfl, ?_⟩⟩
  rw [hH] at w
  obtain ⟨Hb2, x3, w2, q2⟩ := w.done e2
  refine ⟨Hb2, x2.trans ⟨e1.trans w2.h, w2.b, w2.in_, fun b hb1 hb2 => w2.new b (fun z => hb1 (Evl.fresh_back e1 z)) hb2⟩, q2⟩
end

/-! ### slots -/
section
variable {P : Program} {w : World} {K : PySem.W.Frag} {mg : Str → Option Value} {base : Heap} {X : Cx} {ρ : En} {e a1 a2 : Expr} {d1 d2 d : D} {ds : List D} {f C p1 : Addr} {fd : FuncData} {ps : List Str} {k i : Nat} {x g : Str} {p pos : Pos}
/-- e.f, f in slot i -/
theorem ed_slot (c : SCls X.K C) (t : L2.Slt X.K C g i p1) (h : ED X ρ e (.slt C ds)) (hd : ds[i]? = some d) (hb : attributeBase e g X.env (eval e X.env) = eval e X.env := by rfl) : ED X ρ (.Attribute e g pos) d := fun Hb H σ x1 I =>
  .of (pe_slot c t pe_sm hb) ((h Hb H σ x1 I).mono fun v H1 ⟨Hb1, x2, q⟩ => by
    obtain ⟨a, dx, vs, rfl, q1, q2, q3, q4⟩ := is_slt.mp q
    obtain ⟨u, h1, h2⟩ := q4.get hd
    refine ⟨a, dx, vs.map some, u, rfl, ⟨x2.in_ _ _ q1, q2, .inl (x2.in_ _ _ q3)⟩, ?_, Hb1, x2, h2⟩
    rw [List.getElem?_map, h1]; rfl)
/-- __init__ of two slots -/
def spS2 (C : Addr) : Sp := fun vs H Q _ => ∃ a dx v1 v2, vs = [.ref a, v1, v2] ∧ SlAt H a C dx [] ∧ Q .non (upd H a (L2.SlO C dx a [some v1, some v2]))
/-- C(a1, a2) -/
theorem ed_mkS2 (M : Mk X.K C f) (F : FnOk X.prog X.w X.K X.mg X.base CX0 k f fd ps (spS2 C)) (hr : Room (k + 1) X.A) (hm : X.mg x = some (.ref C)) (hb : Binds X.K fd ps []) (h1 : ED X ρ a1 d1) (h2 : ED X ρ a2 d2) (hg : Gl X x := by rfl) (hdb : (x == ("__debug__" : Str)) = false := by decide)
    (he : starEach [a1, a2] X.env = (false, eval a1 X.env) :: starEach [a2] X.env := by rfl) (he2 : starEach [a2] X.env = (false, eval a2 X.env) :: starEach [] X.env := by rfl) (hpl : (backTo pos (starEach [a2] X.env)).any (·.1) = false := by rfl) :
    ED X ρ (.Call (.Name x p) [a1, a2] [] pos) (.slt C [d1, d2]) := fun Hb H σ x1 I => by
  obtain ⟨ta, hp, q⟩ := es_cons h1 (es_cons h2 es_nil he2) he
  refine .of (pe_make M F hr hg hm hb .nil pass0 hp hdb he hpl) (q Hb H σ x1 I _ fun vs H1 Hb1 x2 q1 => ?_)
  obtain ⟨v, u, rfl, k1, k2⟩ := es_two q1
  intro a dx ha hdx hne
  refine ⟨a, dx, v, u, rfl, SlAt.made hne, rfl, ?_⟩
  have e1 : Xt Hb1 H1 (upd Hb1 dx (.own a)) (upd H1 dx (.own a)) := .made x2.in_ hdx
  have na : upd H1 dx (.own a) a = none := by rw [upd_ne (Ne.symm hne)]; exact ha
  have e2 : Xt (upd Hb1 dx (.own a)) (upd H1 dx (.own a)) (upd (upd Hb1 dx (.own a)) a (L2.SlO C dx a [some v, some u])) (upd (upd H1 dx (.own a)) a (L2.SlO C dx a [some v, some u])) := .made e1.in_ na
  rw [upd_upd]
  refine ⟨_, (x2.trans e1).trans e2, is_slt.mpr ⟨a, dx, [v, u], rfl, by rw [upd_ne hne, upd_same], hne, upd_same, ?_⟩⟩
  exact isL_cons.mpr ⟨v, [u], rfl, k1.mono (e1.b.trans e2.b), IsL.one (k2.mono (e1.b.trans e2.b))⟩
end
section
variable {X : Cx} {ρ : En} {e : Expr} {p pos p2 pos2 : Pos}
theorem isL_rg {K : PySem.W.Frag} {Hb : Hp} (n : Nat) : IsL K Hb ((List.range n).map fun i : Nat => .int (i : Int)) (rgV 0 (n : Int)) := by
  have e1 : ((List.range n).map fun i : Nat => D.int (i : Int)) = ((List.range n).map fun i : Nat => (i : Int)).map .int := by rw [List.map_map]; rfl
  rw [e1, isL_ints]
  unfold rgV
  have : ((n : Int) - 0).toNat = n := by omega
  rw [this, List.map_map]
  exact List.map_congr_left fun i _ => by show V.int (0 + (i : Int)) = V.int (i : Int); rw [Int.zero_add]
/-- list(range(n)), tuple(range(n)) -/
theorem ed_listRg {n : Nat} (hc : X.calm = true) (g : X.mg "list" = none) (g2 : X.mg "range" = none) (h : ED X ρ e (.int (n : Int))) (hn : n ≤ 1000) (hg : Gl X "list" := by rfl) (hg2 : Gl X "range" := by rfl) (na : starEach [e] X.env = (false, eval e X.env) :: starEach [] X.env := by rfl)
    (na2 : starEach [.Call (.Name "range" p2) [e] [] pos2] X.env = (false, eval (.Call (.Name "range" p2) [e] [] pos2) X.env) :: starEach [] X.env := by rfl) : ED X ρ (.Call (.Name "list" p) [.Call (.Name "range" p2) [e] [] pos2] [] pos) (.lst ((List.range n).map fun i : Nat => .int (i : Int))) := fun Hb H σ x I =>
  .of (pe_listRg hc hg g (prg_1 hg2 g2 pe_sm na) na2) ((h Hb H σ x I).mono fun v H1 ⟨Hb1, x1, q⟩ => ⟨n, is_int.mp q, .of_le (by omega) (by omega) (by omega) (by omega), fun q hq => (gd_lst x1.in_ hq (isL_rg n)).trans x1⟩)
theorem ed_tupRg {n : Nat} (hc : X.calm = true) (g : X.mg "tuple" = none) (g2 : X.mg "range" = none) (h : ED X ρ e (.int (n : Int))) (hn : n ≤ 1000) (hg : Gl X "tuple" := by rfl) (hg2 : Gl X "range" := by rfl) (na : starEach [e] X.env = (false, eval e X.env) :: starEach [] X.env := by rfl)
    (na2 : starEach [.Call (.Name "range" p2) [e] [] pos2] X.env = (false, eval (.Call (.Name "range" p2) [e] [] pos2) X.env) :: starEach [] X.env := by rfl) : ED X ρ (.Call (.Name "tuple" p) [.Call (.Name "range" p2) [e] [] pos2] [] pos) (.tup ((List.range n).map fun i : Nat => .int (i : Int))) := fun Hb H σ x I =>
  .of (pe_tupRg hc hg g (prg_1 hg2 g2 pe_sm na) na2) ((h Hb H σ x I).mono fun v H1 ⟨Hb1, x1, q⟩ => ⟨n, is_int.mp q, .of_le (by omega) (by omega) (by omega) (by omega), fun q hq => (gd_tup x1.in_ hq (isL_rg n)).trans x1⟩)
end
end Sm
set_option maxHeartbeats 4000000
/-! Sm8: (*t, e). -/
namespace Sm
open PySem PySem.Spec PyProof.Rows L2

def tStar (K : PySem.W.Frag) (te : TE) (t : TA) : TA := fun σ H Q => te σ H fun x H1 => ∃ a xs, x = .ref a ∧ SqT K H1 a xs ∧ t σ H1 fun ys H2 => Q (xs ++ ys) H2
section
variable {X : Cx} {ρ : En} {e : Expr} {es : List Expr} {te : TE} {t : TA} {p pos : Pos} {ds ds2 : List D}
theorem pa_star (he : PE X e te) (hr : PA X es t) (hs : starEach (.Starred e p :: es) X.env = (true, eval e X.env) :: starEach es X.env := by rfl) : PA X (.Starred e p :: es) (tStar X.K te t) := by
  refine ⟨fun pos pins s σ H Q I h => ?_⟩
  refine PySem.W.items_star (thn (he.run pins s σ H _ I h) fun u s1 ⟨x, H1, I1, r1, a, xs, ex, hx, q⟩ => ?_) hs
  subst ex
  obtain rfl : u = Value.ref a := r1
  obtain ⟨its, rv, ⟨o, ho, hc, n, hd⟩, hz⟩ := I1.tuple hx
  have hT : s1.TypeIs (.ref a) "tuple" := ⟨o, ho, hc⟩
  unfold PySem.W.StarOf notIterableAtAll
  refine wpAny_bind (wpAny_specialOf hT PySem.F.slot_tuple_iter.lookup (wpAny_pure ⟨rfl, ?_⟩))
  have hl := rv.length
  refine wpAny_collect_seq a (.inr rfl) ho hc hd (fun h' hk => ?_) (by rw [List.size_toArray]; omega)
  have I2 : Inv X pins σ H1 { s1 with heap := h' } := I1.kept (t' := s1.toks) fun b o q => hk b o q
  exact thn (hr.run pos pins { s1 with heap := h' } σ H1 _ I2 q) fun us s2 ⟨ys, H2, I3, r2, q2⟩ => ⟨xs ++ ys, H2, I3, by simpa using rv.append r2, q2⟩
theorem es_star (h : ED X ρ e (.tup ds)) (hr : ES X ρ es ds2) (hs : starEach (.Starred e p :: es) X.env = (true, eval e X.env) :: starEach es X.env := by rfl) : ES X ρ (.Starred e p :: es) (ds ++ ds2) := by
  obtain ⟨ta, hp, q⟩ := hr
  refine ⟨_, pa_star pe_sm hp hs, fun Hb H σ x I Q k => ?_⟩
  refine (h Hb H σ x I).mono fun v H1 ⟨Hb1, x1, q1⟩ => ?_
  obtain ⟨a, vs, rfl, ha, hv⟩ := is_tup.mp q1
  exact ⟨a, vs, rfl, Evl.ex_t x1.in_ ha, q Hb1 H1 σ x1.in_ (I.mono x1.b) _ fun ys H2 Hb2 x2 q2 => k _ _ Hb2 (x1.trans x2) ((hv.mono x2.b).append q2)⟩
end
end Sm
set_option maxHeartbeats 4000000
/-! Sm9: dicts whose keys are nested tuples. -/
namespace Sm
open PySem PySem.Spec PyProof.Rows L2

mutual
def keyN : NestedKey → D
  | .none => .non
  | .num i => .int i
  | .text x => .str x
  | .tup ks => .tup (keyNs ks)
def keyNs : List NestedKey → List D
  | [] => []
  | k :: ks => keyN k :: keyNs ks
end
section
variable {X : Cx} {pins : List (Addr × Obj)} {σ : L2.St} {H : Hp} {s : Shared}
mutual
theorem nested_of (I : Inv X pins σ H s) : ∀ (k : NestedKey) (v : V) (u : Value), Is X.K H (keyN k) v → RelV v u → NestedIs s.heap k u
  | .none, v, u, h, r => by
    unfold keyN at h
    rw [is_non.mp h] at r
    rw [show u = Value.none from r]
    exact .none
  | .num i, v, u, h, r => by
    unfold keyN at h
    rw [is_int.mp h] at r
    obtain ⟨t, rfl⟩ := r
    exact .int i t
  | .text x, v, u, h, r => by
    unfold keyN at h
    rw [is_str.mp h] at r
    obtain ⟨t, rfl⟩ := r
    exact .text x t
  | .tup ks, v, u, h, r => by
    unfold keyN at h
    obtain ⟨a, vs, rfl, ha, hv⟩ := is_tup.mp h
    rw [show u = Value.ref a from r]
    obtain ⟨its, rv, ⟨o, ho, hc, n, hd⟩, _⟩ := I.tuple ha
    exact .tup ho hc hd (by simpa using nested_all I ks vs its hv rv)
theorem nested_all (I : Inv X pins σ H s) : ∀ (ks : List NestedKey) (vs : List V) (us : List Value), IsL X.K H (keyNs ks) vs → Vals vs us → NestedAll s.heap ks us
  | [], vs, us, h, r => by
    unfold keyNs at h
    rw [isL_nil.mp h] at r
    cases r
    exact .nil
  | k :: ks, vs, us, h, r => by
    unfold keyNs at h
    obtain ⟨v, w, rfl, h1, h2⟩ := isL_cons.mp h
    cases r with
    | cons r1 r2 => exact .cons (nested_of I k _ _ h1 r1) (nested_all I ks _ _ h2 r2)
end
end

abbrev XN := List (NestedKey × Addr × V)
def valN (xs : XN) (k : NestedKey) : Option V := (xs.find? fun x => decide (x.1 = k)).map (·.2.2)
def putN (xs : XN) (k : NestedKey) (b : Addr) (v : V) : XN := if (valN xs k).isSome = true then xs.map (fun x => if x.1 = k then (x.1, x.2.1, v) else x) else xs ++ [(k, b, v)]
abbrev PN : XN → List (NestedKey × Addr × Value) → Prop := Paired fun p q => p.1 = q.1 ∧ p.2.1 = q.2.1 ∧ RelV p.2.2 q.2.2
theorem PN.val {xs : XN} {us : List (NestedKey × Addr × Value)} (r : PN xs us) (k : NestedKey) : RelO (valN xs k) ((atKey us k).map (·.2)) := by
  induction r with
  | nil => exact True.intro
  | @cons p q ps qs h t ih =>
    obtain ⟨h1, _, h2⟩ := h
    by_cases e : p.1 = k
    · have e' : q.1 = k := h1.symm.trans e
      have b : atKey (q :: qs) k = some q.2 := by simp [atKey, List.find?_cons, e']
      have c : valN (p :: ps) k = some p.2.2 := by simp [valN, List.find?_cons, e]
      rw [c, b]; exact h2
    · have e' : ¬ q.1 = k := fun z => e (h1.trans z)
      have b : atKey (q :: qs) k = atKey qs k := by simp [atKey, List.find?_cons, e']
      have c : valN (p :: ps) k = valN ps k := by simp [valN, List.find?_cons, e]
      rw [c, b]; exact ih
theorem PN.repl {xs : XN} {us : List (NestedKey × Addr × Value)} (r : PN xs us) (k : NestedKey) {y : V} {u : Value} (ry : RelV y u) : PN (xs.map fun x => if x.1 = k then (x.1, x.2.1, y) else x) (us.map (putAt k u)) := by
  induction r with
  | nil => exact .nil
  | @cons p q ps qs h t ih =>
    rw [List.map_cons, List.map_cons]
    refine .cons ?_ ih
    obtain ⟨h1, h2, h3⟩ := h
    unfold putAt
    by_cases e : p.1 = k
    · rw [if_pos e, if_pos (h1.symm.trans e)]; exact ⟨h1, h2, ry⟩
    · rw [if_neg e, if_neg (fun z => e (h1.trans z))]; exact ⟨h1, h2, h3⟩
theorem PN.put {xs : XN} {us : List (NestedKey × Addr × Value)} (r : PN xs us) (k : NestedKey) {b : Addr} {y : V} {u : Value} (ry : RelV y u) : PN (putN xs k b y) (storedH us k b u) := by
  have e : (valN xs k).isSome = (atKey us k).isSome := by
    have := (r.val k).isSome_eq
    rw [Option.isSome_map] at this
    exact this
  unfold putN storedH
  rw [e]
  by_cases q : (atKey us k).isSome = true
  · rw [if_pos q, if_pos q]; exact r.repl k ry
  · rw [if_neg q, if_neg q]; exact Paired.snoc r ⟨rfl, rfl, ry⟩
theorem putN_length (xs : XN) (k : NestedKey) (b : Addr) (v : V) : (putN xs k b v).length ≤ xs.length + 1 := by
  unfold putN
  split <;> simp
/-- the dict at a -/
def NP (P : Program) (w : World) (a : Addr) (xs : XN) (h : Heap) : Prop := (a == sysModules) = false ∧ xs.length ≤ sizeLine ∧ ∃ us : List (NestedKey × Addr × Value), PN xs us ∧
  ∃ o es ep, h.get? a = some o ∧ o.ExactDict ∧ o.data = .dict es ep ∧ es.toList = us.map (entryOfKey (nestedKind P w)) ∧ (us.map (·.1)).Nodup
def DNo (P : Program) (w : World) (a : Addr) (xs : XN) : HO := .ext (NP P w a xs)
/-- .. its keys' tuples known -/
def NAt (K : PySem.W.Frag) (P : Program) (w : World) (H : Hp) (a : Addr) (xs : XN) : Prop := H a = some (DNo P w a xs) ∧ ∀ x ∈ xs, Is K H (keyN x.1) (.ref x.2.1) ∧ x.1.depth ≤ 8
section
variable {X : Cx} {pins : List (Addr × Obj)} {σ : L2.St} {H : Hp} {s : Shared} {a b : Addr} {xs : XN} {k : NestedKey} {v : V} {A : Around} {E : Value → Shared → Prop}
theorem np_ok {P : Program} {w : World} {h : Heap} (n : NP P w a xs h) : ObjOk P w H h a (DNo P w a xs) := by
  refine ⟨n, ?_, fun h1 h2 q z => ?_⟩
  · obtain ⟨_, _, us, _, o, es, ep, ho, _⟩ := n
    exact ⟨o, ho⟩
  · obtain ⟨q1, q2, us, q3, o, es, ep, ho, r⟩ := q
    exact ⟨q1, q2, us, q3, o, es, ep, z o ho, r⟩
theorem nat_of (I : Inv X pins σ H s) (n : NAt X.K X.prog X.w H a xs) : (a == sysModules) = false ∧ xs.length ≤ sizeLine ∧ ∃ us, PN xs us ∧ s.heap.DictOfH (nestedKind X.prog X.w) a us := by
  obtain ⟨h1, h2⟩ := n
  obtain ⟨⟨q1, q2, us, q3, o, es, ep, ho, hx, hd, he, hn⟩, _, _⟩ := (show ObjOk X.prog X.w H s.heap a (DNo X.prog X.w a xs) from I.hok a _ h1)
  refine ⟨q1, q2, us, q3, o, es, ep, ho, hx, hd, he, ?_, hn⟩
  have all : ∀ {l : XN} {m : List (NestedKey × Addr × Value)}, PN l m → (∀ x ∈ l, Is X.K H (keyN x.1) (.ref x.2.1) ∧ x.1.depth ≤ 8) → ∀ x ∈ m, (nestedKind X.prog X.w).is s.heap x.1 x.2.1 := by
    intro l m q
    induction q with
    | nil => intro _ x hx; exact nomatch hx
    | @cons p q ps qs hq t ih =>
      intro hk x hx
      rcases List.mem_cons.mp hx with e | hx
      · subst e
        obtain ⟨k1, k2⟩ := hk p List.mem_cons_self
        rw [← hq.1, ← hq.2.1]
        exact ⟨nested_of I _ _ _ k1 rfl, k2⟩
      · exact ih (fun y hy => hk y (List.mem_cons_of_mem _ hy)) x hx
  exact all q3 h2
theorem nkey_of (I : Inv X pins σ H s) (h : Is X.K H (keyN k) (.ref b)) (hd : k.depth ≤ 8) : (nestedKind X.prog X.w).is s.heap k b := ⟨nested_of I k _ _ h rfl, hd⟩
theorem n_room (hu : A.units + 16 < cLine) : (nestedKind X.prog X.w).room A.in1 := by show A.units + 1 + 8 < cLine; omega
theorem n_getItem {Q : Value → Shared → Prop} (hu : A.units + 16 < cLine) (I : Inv X pins σ H s) (n : NAt X.K X.prog X.w H a xs) (hk : Is X.K H (keyN k) (.ref b)) (hd : k.depth ≤ 8) (hv : valN xs k = some v) (h : ∀ w' s', Inv X pins σ H s' → RelV v w' → Q w' s') :
    wpAny (model X.prog X.w) A (getItem (.ref a) (.ref b)) Q E s := by
  obtain ⟨_, _, us, r, dd⟩ := nat_of I n
  obtain ⟨w', hw, rw'⟩ := RelO.some_of (v := v) (o := (atKey us k).map (·.2)) (by rw [← hv]; exact r.val k)
  obtain ⟨p, hp, hp2⟩ := Option.map_eq_some_iff.mp hw
  refine wpAny_getItem_heap (n_room hu) (nkey_of I hk hd) dd hp ?_
  rw [hp2]
  exact h w' _ (I.tok _) rw'
theorem n_notIn {Q : Value → Shared → Prop} (hu : A.units + 16 < cLine) (I : Inv X pins σ H s) (n : NAt X.K X.prog X.w H a xs) (hk : Is X.K H (keyN k) (.ref b)) (hd : k.depth ≤ 8) (h : ∀ s', Inv X pins σ H s' → Q (.bool (!(valN xs k).isSome)) s') :
    wpAny (model X.prog X.w) A (compareOp .NotIn (.ref b) (.ref a)) Q E s := by
  obtain ⟨hs, _, us, r, dd⟩ := nat_of I n
  refine wpAny_notIn_heap (n_room hu) (nkey_of I hk hd) hs dd ?_
  have q := (r.val k).isSome_eq
  rw [Option.isSome_map] at q
  rw [← q]
  exact h _ (I.tok _)
theorem n_get2 {Q : Value → Shared → Prop} {z : V} {zv : Value} (hu : A.units + 16 < cLine) (I : Inv X pins σ H s) (n : NAt X.K X.prog X.w H a xs) (hk : Is X.K H (keyN k) (.ref b)) (hd : k.depth ≤ 8) (rz : RelV z zv) (h : ∀ w' s', Inv X pins σ H s' → RelV ((valN xs k).getD z) w' → Q w' s') :
    wpAny (model X.prog X.w) A (call (.builtin "dict.get") [.ref a, .ref b, zv]) Q E s := by
  obtain ⟨hs, _, us, r, dd⟩ := nat_of I n
  refine call_meetsIn PySem.F.slot_dict_get dd.typeIs PySem.F.entry_dict_get (PySem.F.args_dict_get_3 _ _ _) (meetsH_dict_get_default (nestedKind X.prog X.w) a b hs zv) ⟨n_room hu, k, us, nkey_of I hk hd, dd, h _ _ (I.tok _) ?_⟩
  have q := r.val k
  cases e : valN xs k with
  | none =>
    rw [e] at q
    cases e2 : (atKey us k).map (·.2) with
    | none => exact rz
    | some y => rw [e2] at q; exact q.elim
  | some y =>
    rw [e] at q
    cases e2 : (atKey us k).map (·.2) with
    | none => rw [e2] at q; exact q.elim
    | some y2 => rw [e2] at q; exact q
theorem n_setItem {Q : Unit → Shared → Prop} {rv : Value} (hu : A.units + 16 < cLine) (I : Inv X pins σ H s) (n : NAt X.K X.prog X.w H a xs) (hk : Is X.K H (keyN k) (.ref b)) (hd : k.depth ≤ 8) (hz : xs.length < sizeLine) (r : RelV v rv) (h : ∀ s', Inv X pins σ (upd H a (DNo X.prog X.w a (putN xs k b v))) s' → Q () s') :
    wpAny (model X.prog X.w) A (setItem (.ref a) (.ref b) rv) Q E s := by
  obtain ⟨hs, hz', us, rr, dd⟩ := nat_of I n
  refine wpAny_setItem_heap (hsz := by rw [← Paired.length rr]; exact hz') (n_room hu) (nkey_of I hk hd) dd fun h' dd' hb => h _ ?_
  obtain ⟨q, es, ep, hq, h2, h3, h4, _, h5⟩ := dd'
  have e := n.1
  refine d_write I (by rw [e]; exact True.intro) hb ⟨q, hq⟩ (np_ok ⟨hs, ?_, _, rr.put k r, q, es, ep, hq, h2, h3, h4, h5⟩)
  have := putN_length xs k b v
  omega
/-! ### the rules -/
variable {o i e f value : Expr} {pos pos' apos cpos : Pos} {td ty tv tx : TE}
theorem n_typeIs (I : Inv X pins σ H s) (n : NAt X.K X.prog X.w H a xs) : s.TypeIs (.ref a) "dict" := let ⟨_, _, _, _, dd⟩ := nat_of I n; dd.typeIs
theorem n_noDict (I : Inv X pins σ H s) (n : NAt X.K X.prog X.w H a xs) : ∀ b, Value.ref a = .ref b → ∃ ob, s.heap.get? b = some ob ∧ ob.dict = none := fun b q => by
  cases q
  obtain ⟨_, _, us, _, ob, _, _, h1, h2, _⟩ := nat_of I n
  exact ⟨ob, h1, h2.2.1⟩
/-- what is asked of a dict and a key -/
def NGet (K : PySem.W.Frag) (P : Program) (w : World) (H : Hp) (a : Addr) (y : V) (R : XN → NestedKey → Addr → Prop) : Prop := ∃ xs k b, NAt K P w H a xs ∧ y = .ref b ∧ Is K H (keyN k) (.ref b) ∧ k.depth ≤ 8 ∧ R xs k b
theorem pe_nget (hu : X.A.units + 16 < cLine) (ho : PE X o td) (hi : PE X i ty) (hs : NoSl i) : PE X (.Subscript o i pos) (fun σ H Q => td σ H fun x H1 => ty σ H1 fun y H2 => ∃ a, x = .ref a ∧ NGet X.K X.prog X.w H2 a y fun xs k _ => ∃ v, valN xs k = some v ∧ Q v H2) := by
  refine ⟨fun pins s σ H Q I h => ?_⟩
  refine subD_of PySem.F.slot_dict_getitem.lookup hs (thn (ho.run pins s σ H _ I h) fun u s1 ⟨x, H1, I1, rx, q1⟩ => thn (hi.run pins s1 σ H1 _ I1 q1) fun iv s2 ⟨y, H2, I2, ry, a, ex, xs, k, b, n, ey, hk, hd, v, hv, q2⟩ => ?_)
  subst ex ey
  obtain rfl : u = Value.ref a := rx
  obtain rfl : iv = Value.ref b := ry
  exact ⟨n_typeIs I2 n, n_getItem hu I2 n hk hd hv fun w' s3 I3 rw' => ⟨v, H2, I3, rw', q2⟩⟩
theorem pc_nnotin (hu : X.A.units + 16 < cLine) (hi : PE X i ty) (ho : PE X o td) : PC X .NotIn i o (fun σ H Q => ty σ H fun y H1 => td σ H1 fun x H2 => ∃ a, x = .ref a ∧ NGet X.K X.prog X.w H2 a y fun xs k _ => Q (.bl (!(valN xs k).isSome)) H2) := by
  refine ⟨fun pins s σ H Q I h => ?_⟩
  refine thn (hi.run pins s σ H _ I h) fun iv s1 ⟨y, H1, I1, ry, q1⟩ => thn (ho.run pins s1 σ H1 _ I1 q1) fun u s2 ⟨x, H2, I2, rx, a, ex, xs, k, b, n, ey, hk, hd, q2⟩ => ?_
  subst ex ey
  obtain rfl : u = Value.ref a := rx
  obtain rfl : iv = Value.ref b := ry
  exact n_notIn hu I2 n hk hd fun s3 I3 => ⟨.bl _, H2, I3, rfl, q2⟩
theorem ps_nput (hu : X.A.units + 16 < cLine) (ho : PE X o td) (hi : PE X i ty) (hv : PE X value tv) (hs : swapsWith value (some (.Subscript o i pos')) pos.line X.env = pure false) :
    PS X (.Assign [.Subscript o i pos'] value pos) (fun D σ H => tv σ H fun v H1 => td σ H1 fun x H2 => ty σ H2 fun y H3 => ∃ a, x = .ref a ∧ NGet X.K X.prog X.w H3 a y fun xs k b => xs.length < sizeLine ∧ D.nx σ (upd H3 a (DNo X.prog X.w a (putN xs k b v)))) := by
  refine ⟨fun pins s σ H D I h => ?_⟩
  refine wpAny_Assign_Subscript (thn (hv.run pins s σ H _ I h) fun r s1 ⟨v, H1, I1, rv, q1⟩ => thn (ho.run pins s1 σ H1 _ I1 q1) fun u s2 ⟨x, H2, I2, rx, q2⟩ => thn (hi.run pins s2 σ H2 _ I2 q2) fun iv s3 ⟨y, H3, I3, ry, a, ex, xs, k, b, n, ey, hk, hd, hz, q3⟩ => ?_) hs
  subst ex ey
  obtain rfl : u = Value.ref a := rx
  obtain rfl : iv = Value.ref b := ry
  exact n_setItem hu I3 n hk hd hz rv fun s4 I4 => ⟨σ, _, I4, q3⟩
theorem pe_ngetD (hu : X.A.units + 16 < cLine) (ho : PE X o td) (he : PE X e ty) (hf : PE X f tx) (m : M2 X o "get" apos e f cpos) : PE X (.Call (.Attribute o "get" apos) [e, f] [] cpos)
    (fun σ H Q => td σ H fun x H1 => ∃ a xs0, x = .ref a ∧ NAt X.K X.prog X.w H1 a xs0 ∧ ty σ H1 fun y H2 => tx σ H2 fun z H3 => NGet X.K X.prog X.w H3 a y fun xs k _ => Q ((valN xs k).getD z) H3) := by
  refine ⟨fun pins s σ H Q I h => ?_⟩
  refine wpAny_Call_method m.base m.few m.line PySem.F.plainAttrs_dict PySem.F.slot_dict_get PySem.F.type_dict_get (thn (ho.run pins s σ H _ I h) fun u s1 ⟨x, H1, I1, rx, a, xs0, ex, n0, q1⟩ => ?_)
  subst ex
  obtain rfl : u = Value.ref a := rx
  refine ⟨n_typeIs I1 n0, n_noDict I1 n0, ?_⟩
  rw [m.trees]
  refine Calls.callWith_builtin rfl (Calls.evalArgs_plain (Calls.spliced_cons (thn (he.run pins s1 σ H1 _ I1 q1) fun iv s2 ⟨y, H2, I2, ry, q2⟩ =>
    Calls.spliced_cons (thn (hf.run pins s2 σ H2 _ I2 q2) fun fv s3 ⟨z, H3, I3, rz, xs, k, b, n, ey, hk, hd, q3⟩ => Calls.spliced_nil ?_))))
  subst ey
  obtain rfl : iv = Value.ref b := ry
  exact n_get2 hu I3 n hk hd rz fun w' s4 I4 rw' => ⟨_, H3, I4, rw', q3⟩
theorem pe_nnew : PE X (.Dict [] [] pos) (fun _ H Q => ∀ p, H p = none → Q (.ref p) (upd H p (DNo X.prog X.w p []))) := ⟨fun pins s σ H Q I h =>
  wpAny_Dict_empty ⟨.ref s.heap.objs.size, _, I.laid (a := s.heap.objs.size) (o := DNo X.prog X.w s.heap.objs.size []) (t' := s.toks) (fun _ _ q => Heap.get?_push_of_some _ q) (Nat.le_refl _)
    (np_ok ⟨beq_eq_false_iff_ne.mpr (Ne.symm (Nat.ne_of_lt I.big)), Nat.zero_le _, [], .nil, _, #[], 0, Heap.get?_push_size _ rfl, ⟨rfl, rfl, rfl⟩, rfl, rfl, List.nodup_nil⟩), rfl, h _ (I.hok.fresh (Nat.le_refl _))⟩⟩
/-- list(d): the keys -/
theorem call_list_N (hc : X.calm = true) : CallR X (.type "list") (fun vs H Q => ∃ d xs, vs = [V.ref d] ∧ NAt X.K X.prog X.w H d xs ∧ ∀ p, H p = none → Q (.ref p) (upd H p (.lst (xs.map fun x => V.ref x.2.1)))) := by
  intro pins s σ H vs us Q I r h
  obtain ⟨d, xs, rfl, n, q⟩ := h
  obtain ⟨u, rfl, rx⟩ := r.one
  cases rx
  obtain ⟨hs, hz0, ks, pr, o, es, ep, ho, hx, hdt, he, _, hn⟩ := nat_of I n
  have l1 : es.size = ks.length := size_of_entries he
  have l2 : xs.length = ks.length := Paired.length pr
  refine PySem.W.kdl_call (kdl_raw hs hx hdt) (I.ok.hd hc) ho (by omega) fun h' tk acc' c' kp e it => ?_
  have ea : acc'.toList = ks.map fun x => Value.ref x.2.1 := by
    have hl : acc'.toList.length = ks.length := by rw [Array.length_toList, it.1]; exact l1
    apply List.ext_getElem?
    intro j
    rw [List.getElem?_map]
    cases hj : acc'.toList[j]? with
    | none =>
      have h1 := List.getElem?_eq_none_iff.mp hj
      rw [List.getElem?_eq_none (by omega)]
      all_goals rfl
    | some v =>
      obtain ⟨en, hen, hv⟩ := it.2 j v (by rw [← Array.getElem?_toList]; exact hj)
      have qe := entry_at he j
      rw [hen] at qe
      cases hb : ks[j]? with
      | none =>
        rw [hb] at qe
        exact nomatch (show some en = none from qe)
      | some b =>
        rw [hb] at qe
        have e2 : en = entryOfKey (nestedKind X.prog X.w) b := Option.some.inj qe
        rw [hv, e2]
        all_goals rfl
  have e3 : ∀ {l : XN} {m : List (NestedKey × Addr × Value)}, PN l m → (m.map fun x => Value.ref x.2.1) = (l.map fun x => x.2.1).map Value.ref := by
    intro l m q
    induction q with
    | nil => rfl
    | cons h t ih => rw [List.map_cons, List.map_cons, List.map_cons, ih, h.2.1]
  have eb : acc'.toList = (xs.map fun x => x.2.1).map Value.ref := by rw [ea, e3 pr]
  have rv : Vals ((xs.map fun x => x.2.1).map V.ref) acc'.toList := by rw [eb]; exact vals_refs _
  have hm : (xs.map fun x => V.ref x.2.1) = (xs.map fun x => x.2.1).map V.ref := by rw [List.map_map]; rfl
  have hz : ((xs.map fun x => x.2.1).map V.ref).length ≤ sizeLine := by rw [List.length_map, List.length_map]; omega
  refine ⟨.ref s.heap.objs.size, _, I.laid (t' := tk) (o := .lst (xs.map fun x => V.ref x.2.1)) kp (Nat.le_refl _) ?_, rfl, q _ (I.hok.fresh (Nat.le_refl _))⟩
  rw [hm]
  exact ⟨hz, acc'.toList, c', rv, by rw [Array.toArray_toList]; exact e⟩
end
end Sm
set_option maxHeartbeats 4000000
/-! Sm10: one object that calls change. -/
namespace Sm
open PySem PySem.Spec PyProof.Rows L2

/-- G speaks of what stands at a alone -/
class Lcl (a : Addr) (G : As) : Prop where
  lcl : ∀ {Hb H Hb' H' : Hp}, G Hb H → H' a = H a → Evl.Ex Hb Hb' → G Hb' H'
/-- W has such an object, and lets it change -/
class Cell (a : Addr) (G : As) (W : As) : Prop where
  get : ∀ {Hb H : Hp}, W Hb H → Hb a = none ∧ H a ≠ none ∧ G Hb H
  step : ∀ {Hb H Hb' H' : Hp}, W Hb H → Xt Hb (hid H a) Hb' (hid H' a) → Hb' a = none → H' a ≠ none → G Hb' H' → W Hb' H'
/-- beside W such an object -/
def FrC (G : As) (a : Addr) (W : As) : As := fun Hb H => Hb a = none ∧ H a ≠ none ∧ G Hb H ∧ W Hb (hid H a)
instance frCStb {G : As} {a : Addr} {W : As} [Lcl a G] [Stb W] : Stb (FrC G a W) := ⟨fun {Hb H Hb' H'} ⟨h1, h2, h3, h4⟩ x => by
  have e : H' a = H a := by
    cases q : H a with
    | none => exact absurd q h2
    | some o => exact x.h a o q
  exact ⟨x.new a h2 h1, by rw [e]; exact h2, Lcl.lcl h3 e x.b, Stb.st h4 (x.hid h1 h2)⟩⟩
instance frCCell {G : As} {a : Addr} {W : As} [Stb W] : Cell a G (FrC G a W) := ⟨fun ⟨h1, h2, h3, _⟩ => ⟨h1, h2, h3⟩, fun ⟨_, _, _, h4⟩ x n1 n2 g => ⟨n1, n2, g, Stb.st h4 x⟩⟩
instance framCell {K : PySem.W.Frag} {G : As} {a l : Addr} {es : List D} {W : As} [Lcl a G] [Cell a G W] : Cell a G (Fram K W l es) := by
  refine ⟨fun {Hb H} ⟨h1, h2, h3⟩ => ?_, fun {Hb H Hb' H'} ⟨h1, ⟨ys, h2, h4⟩, h3⟩ x n1 n2 g => ?_⟩
  · obtain ⟨g1, g2, g3⟩ := Cell.get (a := a) (G := G) h3
    have ne : a ≠ l := fun z => g2 (by rw [z, hid_same])
    rw [hid_ne ne] at g2
    exact ⟨g1, g2, Lcl.lcl g3 (hid_ne ne).symm (Evl.Ex.refl _)⟩
  · obtain ⟨g1, g2, g3⟩ := Cell.get (a := a) (G := G) h3
    have ne : a ≠ l := fun z => g2 (by rw [z, hid_same])
    have hl : hid H a l = some (.lst ys) := by rw [hid_ne ne.symm]; exact h2
    have hl' : H' l = some (.lst ys) := by
      have q := x.h l _ hl
      rw [hid_ne ne.symm] at q
      exact q
    have nl : hid H a l ≠ none := by rw [hl]; exact fun z => nomatch z
    refine ⟨x.new l nl h1, ⟨ys, hl', h4.mono x.b⟩, ?_⟩
    have x2 := x.hid h1 nl
    rw [hid_swap, hid_swap (H := H')] at x2
    exact Cell.step (a := a) (G := G) h3 x2 n1 (by rw [hid_ne ne]; exact n2) (Lcl.lcl g (hid_ne ne) (Evl.Ex.refl _))
instance framICell {K : PySem.W.Frag} {G : As} {a l C : Addr} {fs : List (Str × D)} {W : As} [Lcl a G] [Cell a G W] : Cell a G (FramI K W l C fs) := by
  refine ⟨fun {Hb H} ⟨h1, h2, h3⟩ => ?_, fun {Hb H Hb' H'} ⟨h1, ⟨dx, ys, h2, h4⟩, h3⟩ x n1 n2 g => ?_⟩
  · obtain ⟨g1, g2, g3⟩ := Cell.get (a := a) (G := G) h3
    have ne : a ≠ l := fun z => g2 (by rw [z, hid_same])
    rw [hid_ne ne] at g2
    exact ⟨g1, g2, Lcl.lcl g3 (hid_ne ne).symm (Evl.Ex.refl _)⟩
  · obtain ⟨g1, g2, g3⟩ := Cell.get (a := a) (G := G) h3
    have ne : a ≠ l := fun z => g2 (by rw [z, hid_same])
    have hl : hid H a l = some (.ins C dx ys) := by rw [hid_ne ne.symm]; exact h2
    have hl' : H' l = some (.ins C dx ys) := by
      have q := x.h l _ hl
      rw [hid_ne ne.symm] at q
      exact q
    have nl : hid H a l ≠ none := by rw [hl]; exact fun z => nomatch z
    refine ⟨x.new l nl h1, ⟨dx, ys, hl', h4.mono x.b⟩, ?_⟩
    have x2 := x.hid h1 nl
    rw [hid_swap, hid_swap (H := H')] at x2
    exact Cell.step (a := a) (G := G) h3 x2 n1 (by rw [hid_ne ne]; exact n2) (Lcl.lcl g (hid_ne ne) (Evl.Ex.refl _))
instance prCell {G : As} {a : Addr} {Φ : Prop} {W : As} [Cell a G W] : Cell a G (Pr Φ W) := ⟨fun ⟨_, h⟩ => Cell.get h, fun ⟨p, h⟩ x n1 n2 g => ⟨p, Cell.step h x n1 n2 g⟩⟩

/-- what a def gives that changes the one at a: by its arguments, where that one stands, what is true of it, what comes back -/
def spC (K : PySem.W.Frag) (φ : List D → Addr → As → (D → Prop) → Prop) : Sp := fun vs H Q _ => ∃ Hb ds a G R, Evl.Ex Hb H ∧ Hb a = none ∧ H a ≠ none ∧ G Hb H ∧ IsL K Hb ds vs ∧ φ ds a G R ∧
  ∀ Hb' H' d v, Evl.Ex Hb' H' → Xt Hb (hid H a) Hb' (hid H' a) → Hb' a = none → H' a ≠ none → G Hb' H' → R d → Is K Hb' d v → Q v H'
section
variable {P : Program} {w : World} {K : PySem.W.Frag} {mg : Str → Option Value} {base : Heap}
theorem fn_C {x qual : Str} {st : Stmt} {f : Addr} {fd : FuncData} {N ps : List Str} {k : Nat} {φ : List D → Addr → As → (D → Prop) → Prop} (F : Fun K x qual st f fd) (S : FnScope N ps (defScope st)) (len : ∀ ds a G R, φ ds a G R → ds.length = ps.length)
    (hbody : ∀ (cdv : Value) (A : Around) (outer : List Env) (s : Shared) (H : Hp) (E : XK), Room k (A.deeper (envOfC qual (defScope st) s.heap.objs.size f cdv)) → ∀ ds a G R, φ ds a G R → ∀ Hb0 H0,
      EB (cxOf CX0 P w K mg base N qual (defScope st) f cdv A outer s H E).nox (FrC G a (Xt Hb0 H0)) (st0 N ds) (defBody st) (fun _ => Pr (R .non) (FrC G a (Xt Hb0 H0))) (fun d => Pr (R d) (FrC G a (Xt Hb0 H0))) No No) :
    FnOk P w K mg base CX0 (k + 1) f fd ps (spC K φ) := by
  refine F.ok S (fun vs H Q E ⟨Hb, ds, a, G, R, _, _, _, _, h2, h3, _⟩ => by rw [h2.length]; exact len ds a G R h3) (fun cdv A outer s H vs Q E hr ⟨Hb, ds, a, G, R, h1, n1, n2, g, h2, h3, h4⟩ => ?_)
  refine ⟨_, pss_sm, ?_⟩
  refine (hbody cdv A outer s H E hr ds a G R h3 Hb (hid H a) Hb H _ h1 (start_is h2) ⟨n1, n2, g, .refl (ex_hid h1 n1)⟩).mono (fun σ H' ⟨ρ', Hb', a1, a2, a3, r, b1, b2, b3, b4⟩ => ?_) (fun v H' ⟨d', Hb', a1, a2, a3, r, b1, b2, b3, b4⟩ => ?_) (fun σ H' ⟨ρ', Hb', a1, a2, a3, z⟩ => z.elim) fun σ H' ⟨ρ', Hb', a1, a2, a3, z⟩ => z.elim
  · exact h4 Hb' H' .non .non a2 b4 b1 b2 b3 r (is_non.mpr rfl)
  · exact h4 Hb' H' d' v a2 b4 b1 b2 b3 r a3
variable {X : Cx} {W : As} {ρ : En} {e o : Expr} {es : List Expr} {ds : List D} {f C a : Addr} {G : As} {R : D → Prop} {fd : FuncData} {ps : List Str} {k : Nat} {φ : List D → Addr → As → (D → Prop) → Prop} {x m : Str} {p pos apos : Pos} {fs : List (Str × D)}
theorem spC_of {Hb H : Hp} {vs : List V} {Q : VK} {E : XK} [Cell a G W] (e : Evl.Ex Hb H) (w0 : W Hb H) (h : IsL K Hb ds vs) (hφ : φ ds a G R) (k : ∀ Hb' H' d v, Evl.Ex Hb Hb' → Evl.Ex Hb' H' → W Hb' H' → R d → Is K Hb' d v → Q v H') : spC K φ vs H Q E := by
  obtain ⟨n1, n2, g⟩ := Cell.get (a := a) (G := G) w0
  exact ⟨Hb, ds, a, G, R, e, n1, n2, g, h, hφ, fun Hb' H' d v e1 x m1 m2 g' r q => k Hb' H' d v x.b e1 (Cell.step (a := a) (G := G) w0 x m1 m2 g') r q⟩
/-- such a def, called by its name -/
def CaC (P : Program) (w : World) (K : PySem.W.Frag) (mg : Str → Option Value) (base : Heap) (k : Nat) (x : Str) (φ : List D → Addr → As → (D → Prop) → Prop) : Prop :=
  ∃ (f : Addr) (fd : FuncData) (ps : List Str), FnOk P w K mg base CX0 k f fd ps (spC K φ) ∧ mg x = some (.ref f) ∧ PySem.W.keepIn K (.ref f) = true ∧ Binds K fd ps []
/-- arguments -/
theorem ew_ca [Stb W] [Cell a G W] (F : CaC X.prog X.w X.K X.mg X.base k x φ) (hr : Room k X.A) (hs : ES X ρ (e :: es) ds) (hφ : φ ds a G R) (hg : Gl X x := by rfl) (hdb : (x == ("__debug__" : Str)) = false := by decide) (he : starEach (e :: es) X.env = (false, eval e X.env) :: starEach es X.env := by rfl)
    (hpl : (backTo pos (starEach es X.env)).any (·.1) = false := by rfl) : EW X W ρ (.Call (.Name x p) (e :: es) [] pos) R := fun Hb H σ x1 I w0 => by
  obtain ⟨f, fd, ps, F, h1, h2, h3⟩ := F
  obtain ⟨ta, hp, q⟩ := hs
  refine .of (pe_call F hr hg h1 h2 h3 .nil pass0 hp hdb he hpl) (q Hb H σ x1 I _ fun vs H1 Hb1 x2 q1 => ?_)
  rw [List.append_nil]
  exact spC_of (W := W) (a := a) (G := G) x2.in_ (Stb.st w0 x2) q1 hφ fun Hb' H' d v e1 e2 w' r i => ⟨Hb', d, x2.b.trans e1, e2, w', r, i⟩
/-- a method -/
theorem ew_meth [Stb W] [Cell a G W] {pl : Sem Bool} (ho : ED X ρ o (.obj C fs)) (c : Cls X.K C) (hm : Meth X.K C m f) (F : FnOk X.prog X.w X.K X.mg X.base CX0 k f fd ps (spC X.K φ)) (hr : Room k X.A) (hb : Binds X.K fd ps []) (hl : fs.lookup m = none)
    (hs : ES X ρ (e :: es) ds) (hφ : φ (.obj C fs :: ds) a G R) (hst : starEach (e :: es) X.env = (false, eval e X.env) :: starEach es X.env := by rfl) (hpl : (backTo pos (starEach es X.env)).any (·.1) = false := by rfl)
    (ht : eval (.Call (.Attribute o m apos) (e :: es) [] pos) X.env = (do
      let ov ← eval o X.env
      standAt apos.atName
      let (f, first) ← holding [ov] (getMethod ov m pl)
      callWith pos f first (backTo pos (starEach (e :: es) X.env)) (backToKw pos (keywordEach [] X.env))) := by rfl) : EW X W ρ (.Call (.Attribute o m apos) (e :: es) [] pos) R := fun Hb H σ x1 I w0 => by
  obtain ⟨ta, hp, q⟩ := hs
  refine .of (pe_meth pe_sm c hm F hr hb .nil pass0 hp hst hpl ht) ((ho Hb H σ x1 I).mono fun v H1 ⟨Hb1, x2, q1⟩ => ?_)
  obtain ⟨oa, dx, ws, rfl, ha, hw⟩ := is_obj.mp q1
  refine ⟨oa, dx, ws, rfl, x2.in_ _ _ ha, hw.lookup_none hl, q Hb1 H1 σ x2.in_ (I.mono x2.b) _ fun vs H2 Hb2 x3 q2 => ?_⟩
  rw [List.append_nil]
  have x4 := x2.trans x3
  exact spC_of (W := W) (a := a) (G := G) x3.in_ (Stb.st w0 x4) (isL_cons.mpr ⟨_, _, rfl, q1.mono x3.b, q2⟩) hφ fun Hb' H' d v e1 e2 w' r i => ⟨Hb', d, x4.b.trans e1, e2, w', r, i⟩
end

/-! ### a dict of whole numbers under nested keys, by what is true of its entries -/
def GN (K : PySem.W.Frag) (P : Program) (w : World) (a : Addr) (Ψ : XN → Prop) : As := fun Hb H => ∃ xs, H a = some (DNo P w a xs) ∧ (xs.map (·.1)).Nodup ∧ (∀ x ∈ xs, Is K Hb (keyN x.1) (.ref x.2.1) ∧ x.1.depth ≤ 8) ∧ Ψ xs
instance gnLcl {K : PySem.W.Frag} {P : Program} {w : World} {a : Addr} {Ψ : XN → Prop} : Lcl a (GN K P w a Ψ) := ⟨fun ⟨xs, h1, h2, h3, h4⟩ e x => ⟨xs, e.trans h1, h2, fun y hy => ⟨(h3 y hy).1.mono x, (h3 y hy).2⟩, h4⟩⟩
theorem putN_keys {xs : XN} {k : NestedKey} {b : Addr} {v : V} : (putN xs k b v).map (·.1) = if (valN xs k).isSome = true then xs.map (·.1) else xs.map (·.1) ++ [k] := by
  unfold putN
  split
  · rw [List.map_map]
    refine List.map_congr_left fun x _ => ?_
    simp only [Function.comp]
    split <;> rfl
  · rw [List.map_append]; rfl
theorem valN_none {xs : XN} {k : NestedKey} : valN xs k = none ↔ k ∉ xs.map (·.1) := by
  unfold valN
  rw [Option.map_eq_none_iff, List.find?_eq_none]
  simp only [List.mem_map, decide_eq_true_eq]
  constructor
  · rintro h ⟨x, hx, e⟩; exact h x hx e
  · intro h x hx e; exact h ⟨x, hx, e⟩
theorem valN_mem {xs : XN} {k : NestedKey} {v : V} (h : valN xs k = some v) : ∃ b, (k, b, v) ∈ xs := by
  unfold valN at h
  obtain ⟨⟨k', b, v'⟩, h1, h2⟩ := Option.map_eq_some_iff.mp h
  have h3 := List.find?_some h1
  have e : k' = k := of_decide_eq_true h3
  cases h2
  exact ⟨b, by rw [← e]; exact List.mem_of_find?_eq_some h1⟩
theorem putN_nodup {xs : XN} {k : NestedKey} {b : Addr} {v : V} (h : (xs.map (·.1)).Nodup) : ((putN xs k b v).map (·.1)).Nodup := by
  rw [putN_keys]
  split
  · exact h
  · rename_i hn
    have : valN xs k = none := by simpa using hn
    exact List.nodup_append.mpr ⟨h, by simp, fun a ha c hc => by
      rw [List.mem_singleton.mp hc]
      exact fun e => valN_none.mp this (e ▸ ha)⟩
theorem putN_mem {xs : XN} {k : NestedKey} {b : Addr} {v : V} : ∀ x ∈ putN xs k b v, (x ∈ xs) ∨ (x.1 = k ∧ x.2.2 = v ∧ (x.2.1 = b ∨ ∃ y ∈ xs, y.1 = k ∧ y.2.1 = x.2.1)) := by
  intro x hx
  unfold putN at hx
  split at hx
  · obtain ⟨y, hy, e⟩ := List.mem_map.mp hx
    by_cases q : y.1 = k
    · rw [if_pos q] at e
      subst e
      exact .inr ⟨q, rfl, .inr ⟨y, hy, q, rfl⟩⟩
    · rw [if_neg q] at e
      subst e
      exact .inl hy
  · rcases List.mem_append.mp hx with z | z
    · exact .inl z
    · rw [List.mem_singleton.mp z]
      exact .inr ⟨rfl, rfl, .inl rfl⟩
section
variable {X : Cx} {W : As} {ρ : En} {o i value : Expr} {a : Addr} {k : NestedKey} {Ψ Ψ' : XN → Prop} {rest body : List Stmt} {N N1 : En → As} {R : D → As} {B C : En → As} {pos pos' : Pos} {P : D → Prop}
theorem gn_nat {K : PySem.W.Frag} {Pr : Program} {w : World} {Hb H : Hp} {xs : XN} (e : Evl.Ex Hb H) (h1 : H a = some (DNo Pr w a xs)) (h3 : ∀ x ∈ xs, Is K Hb (keyN x.1) (.ref x.2.1) ∧ x.1.depth ≤ 8) : NAt K Pr w H a xs := ⟨h1, fun x hx => ⟨(h3 x hx).1.mono e, (h3 x hx).2⟩⟩
theorem is_tupKey {K : PySem.W.Frag} {H : Hp} {ks : List NestedKey} {v : V} (h : Is K H (keyN (.tup ks)) v) : ∃ b, v = .ref b := by
  unfold keyN at h
  obtain ⟨a, _, e, _⟩ := is_tup.mp h
  exact ⟨a, e⟩
/-- d[k], the key in it -/
theorem ew_nget [Lcl a (GN X.K X.prog X.w a Ψ)] [Stb W] [hc : Cell a (GN X.K X.prog X.w a Ψ) W] {ks : List NestedKey} (hu : X.A.units + 16 < cLine) (ho : ED X ρ o (.adr a)) (hi : ED X ρ i (keyN (.tup ks))) (hd : (NestedKey.tup ks).depth ≤ 8) (hΨ : ∀ xs, Ψ xs → ∃ n, valN xs (.tup ks) = some (.int n) ∧ P (.int n)) (hs : NoSl i := by exact fun _ _ => rfl) : EW X W ρ (.Subscript o i pos) P := fun Hb H σ x I w0 => by
  refine .of (pe_nget hu pe_sm pe_sm hs) ((ho Hb H σ x I).mono fun v H1 ⟨Hb1, x1, q1⟩ => (hi Hb1 H1 σ x1.in_ (I.mono x1.b)).mono fun u H2 ⟨Hb2, x2, q2⟩ => ?_)
  have w2 : W Hb2 H2 := Stb.st w0 (x1.trans x2)
  obtain ⟨n1, n2, xs, g1, g2, g3, g4⟩ := hc.get w2
  obtain ⟨b, rfl⟩ := is_tupKey q2
  obtain ⟨n, e1, e2⟩ := hΨ xs g4
  exact ⟨a, is_adr.mp q1, xs, _, b, gn_nat x2.in_ g1 g3, rfl, q2.mono x2.in_, hd, .int n, e1, Hb2, .int n, (x1.trans x2).b, x2.in_, w2, e2, is_int.mpr rfl⟩
/-- d[k] = value -/
theorem eb_nput [Stb W] [Lcl a (GN X.K X.prog X.w a Ψ)] {ks : List NestedKey} (hu : X.A.units + 16 < cLine) (hv : EW X (FrC (GN X.K X.prog X.w a Ψ) a W) ρ value P) (hP : ∀ d, P d → ∃ n, d = .int n) (ho : ED X ρ o (.adr a)) (hi : ED X ρ i (keyN (.tup ks))) (hd : (NestedKey.tup ks).depth ≤ 8)
    (hΨ : ∀ xs b n, Ψ xs → (xs.map (·.1)).Nodup → P (.int n) → xs.length < sizeLine ∧ Ψ' (putN xs (.tup ks) b (.int n))) (k : EB X (FrC (GN X.K X.prog X.w a Ψ') a W) ρ rest N R B C) (hs : swapsWith value (some (.Subscript o i pos')) pos.line X.env = pure false := by rfl) :
    EB X (FrC (GN X.K X.prog X.w a Ψ) a W) ρ (.Assign [.Subscript o i pos'] value pos :: rest) N R B C :=
  eb_st (N1 := fun ρ' Hb H => ρ' = ρ ∧ FrC (GN X.K X.prog X.w a Ψ') a W Hb H) (ps_nput hu pe_sm pe_sm pe_sm hs) (fun Hb H σ x I w0 Nx kk => (hv Hb H σ x I w0).mono fun v H0 ⟨Hb0, dv, a1, a2, a3, a4, a5⟩ => (ho Hb0 H0 σ a2 (I.mono a1)).mono fun u H1 ⟨Hb1, x1, q1⟩ => (hi Hb1 H1 σ x1.in_ ((I.mono a1).mono x1.b)).mono fun y H2 ⟨Hb2, x2, q2⟩ => by
    obtain ⟨n, rfl⟩ := hP dv a4
    rw [is_int.mp a5]
    have w2 : FrC (GN X.K X.prog X.w a Ψ) a W Hb2 H2 := Stb.st a3 (x1.trans x2)
    obtain ⟨n1, n2, ⟨xs, g1, g2, g3, g4⟩, wr⟩ := w2
    obtain ⟨b, rfl⟩ := is_tupKey q2
    obtain ⟨z1, z2⟩ := hΨ xs b n g4 g2 a4
    have wf : FrC (GN X.K X.prog X.w a Ψ') a W Hb2 (upd H2 a (DNo X.prog X.w a (putN xs (.tup ks) b (.int n)))) := by
      refine ⟨n1, by rw [upd_same]; exact (fun z => nomatch z), ⟨_, upd_same, putN_nodup g2, fun y hy => ?_, z2⟩, by rw [hid_upd]; exact wr⟩
      rcases putN_mem y hy with z | ⟨z1, _, z | ⟨y', hy', e1, e2⟩⟩
      · exact g3 y z
      · rw [z1, z]; exact ⟨q2, hd⟩
      · rw [z1, ← e2]
        have := g3 y' hy'
        rw [e1] at this
        exact ⟨this.1, hd⟩
    have ex2 : Evl.Ex Hb Hb2 := a1.trans (x1.b.trans x2.b)
    exact ⟨a, is_adr.mp q1, xs, _, b, gn_nat x2.in_ g1 g3, rfl, q2.mono x2.in_, hd, z1, kk _ _ ρ Hb2 ex2 (Evl.Ex.mut x2.in_ n1) (I.mono ex2) ⟨rfl, wf⟩⟩)
    fun ρ' Hb H σ x I ⟨er, w⟩ => by subst er; exact k Hb H σ x I w
/-- ρ' knows what ρ knows -/
def Kn (ρ ρ' : En) : Prop := ρ.length = ρ'.length ∧ ∀ (i : Nat) (d : D), ρ[i]? = some (some d) → ρ'[i]? = some (some d)
theorem Kn.refl : Kn ρ ρ := ⟨rfl, fun _ _ h => h⟩
theorem Kn.set {j : Nat} {d : D} (h : ρ[j]? = some none) : Kn ρ (ρ.set j (some d)) := ⟨(List.length_set ..).symm, fun i e q => by
  rw [List.getElem?_set_ne]
  · exact q
  · rintro rfl
    rw [h] at q
    cases q⟩
theorem Kn.trans {ρ1 ρ2 : En} (a : Kn ρ ρ1) (b : Kn ρ1 ρ2) : Kn ρ ρ2 := ⟨a.1.trans b.1, fun i d q => b.2 i d (a.2 i d q)⟩
theorem eb_kn {ρ' : En} (h : Kn ρ ρ') (k : EB X W ρ rest N R B C) : EB X W ρ' rest N R B C := k.weak h.1 h.2
/-- if k not in d: body -/
theorem eb_ifNin [Stb W] {ks : List NestedKey} (hu : X.A.units + 16 < cLine) (hi : ED X ρ i (keyN (.tup ks))) (ho : ED X ρ o (.adr a)) (hd : (NestedKey.tup ks).depth ≤ 8)
    (h1 : EB X (FrC (GN X.K X.prog X.w a fun xs => Ψ xs ∧ valN xs (.tup ks) = none) a W) ρ body (fun ρ' => Pr (Kn ρ ρ') (FrC (GN X.K X.prog X.w a Ψ') a W)) R B C)
    (hsub : ∀ xs, Ψ xs → (valN xs (.tup ks)).isSome = true → Ψ' xs) (k : EB X (FrC (GN X.K X.prog X.w a Ψ') a W) ρ rest N R B C) (hm : behindInMarks .NotIn o = false := by first | exact nobehind _ (by decide) (by decide) | rfl) :
    EB X (FrC (GN X.K X.prog X.w a Ψ) a W) ρ (.If (.Compare i [.NotIn] [o] pos') body [] pos :: rest) N R B C := fun Hb H σ x I w0 => by
  refine eb_cons (Nx := fun σ' H' => ∃ ρ' Hb', Evl.Ex Hb Hb' ∧ Evl.Ex Hb' H' ∧ IsE X.K Hb' σ' ρ' ∧ Pr (Kn ρ ρ') (FrC (GN X.K X.prog X.w a Ψ') a W) Hb' H') Hb (.of (ps_if (pt_cmp (pc_nnotin hu pe_sm pe_sm) hm) pss_sm pss_sm) ?_)
    fun σ' H' ⟨ρ', Hb', a1, a2, a3, kn, a4⟩ => EbD.widen a1 (eb_kn kn k Hb' H' σ' a2 a3 a4)
  refine (hi Hb H σ x I).mono fun y H1 ⟨Hb1, x1, q1⟩ => (ho Hb1 H1 σ x1.in_ (I.mono x1.b)).mono fun u H2 ⟨Hb2, x2, q2⟩ => ?_
  have w2 : FrC (GN X.K X.prog X.w a Ψ) a W Hb2 H2 := Stb.st w0 (x1.trans x2)
  have I2 := (I.mono x1.b).mono x2.b
  obtain ⟨n1, n2, ⟨xs, g1, g2, g3, g4⟩, wr⟩ := w2
  obtain ⟨b, rfl⟩ := is_tupKey q1
  refine ⟨a, is_adr.mp q2, xs, _, b, gn_nat x2.in_ g1 g3, rfl, (q1.mono x2.b).mono x2.in_, hd, _, rfl, ?_⟩
  cases hv : valN xs (.tup ks) with
  | none => exact iteT (EbD.widen (N := fun ρ' => Pr (Kn ρ ρ') (FrC (GN X.K X.prog X.w a Ψ') a W)) (x1.b.trans x2.b) (h1 Hb2 H2 σ x2.in_ I2 ⟨n1, n2, ⟨xs, g1, g2, g3, g4, hv⟩, wr⟩))
  | some v => exact iteF (.of pss_nil ⟨ρ, Hb2, x1.b.trans x2.b, x2.in_, I2, Kn.refl, n1, n2, ⟨xs, g1, g2, g3, hsub xs g4 (by rw [hv]; rfl)⟩, wr⟩)
end
/-! ### instances with such a dict -/
section
variable {X : Cx} {W : As} {ρ : En} {o : Expr} {rest : List Stmt} {N : En → As} {R : D → As} {B C' : En → As} {a C : Addr} {fs : List (Str × D)} {f : Str} {pos pos' p : Pos}
/-- self.f = {} -/
theorem eb_fldN [Stb W] (ho : ED X ρ o (.adr a)) (cl : Cls X.K C) (na : NoAttr X.K C f) (hl : fs.length < 1000) (k : ∀ d, EB X (FramI X.K (FrC (GN X.K X.prog X.w d fun xs => xs = []) d W) a C (putFD f (.adr d) fs)) ρ rest N R B C')
    (hs : swapsWith (.Dict [] [] p) (some (.Attribute o f pos')) pos.line X.env = pure false := by rfl) : EB X (FramI X.K W a C fs) ρ (.Assign [.Attribute o f pos'] (.Dict [] [] p) pos :: rest) N R B C' :=
  eb_st (N1 := fun ρ' Hb H => ρ' = ρ ∧ ∃ d, FramI X.K (FrC (GN X.K X.prog X.w d fun xs => xs = []) d W) a C (putFD f (.adr d) fs) Hb H) (ps_fld pe_sm pe_nnew hs) (fun Hb H σ x1 I w Nx kk => fun q hq => by
    obtain ⟨b1, ⟨dx, ws, b2, b3⟩, b4⟩ := w
    have ne : q ≠ a := fun z => by rw [z, b2] at hq; cases hq
    have w1 : FramI X.K (FrC (GN X.K X.prog X.w q fun xs => xs = []) q W) a C fs Hb (upd H q (DNo X.prog X.w q [])) := by
      refine ⟨b1, ⟨dx, ws, by rw [upd_ne ne.symm]; exact b2, b3⟩, Evl.fresh_back x1 hq, by rw [hid_ne ne, upd_same]; exact (fun z => nomatch z), ⟨[], by rw [hid_ne ne, upd_same], List.nodup_nil, (fun x hx => nomatch hx), rfl⟩, ?_⟩
      rw [hid_swap, hid_upd, hid_swap, hid_of_none (l := q)]
      · exact b4
      · rw [hid_ne ne]; exact hq
    have e1 : Evl.Ex Hb (upd H q (DNo X.prog X.w q [])) := Evl.Ex.mut x1 (Evl.fresh_back x1 hq)
    refine (ho Hb _ σ e1 I).mono fun u H2 ⟨Hb2, x2, q2⟩ => ?_
    obtain ⟨c1, ⟨dx2, ws2, c2, c3⟩, c4⟩ : FramI X.K (FrC (GN X.K X.prog X.w q fun xs => xs = []) q W) a C fs Hb2 H2 := Stb.st w1 x2
    refine ⟨a, C, dx2, ws2, is_adr.mp q2, c2, cl, na, by rw [c3.length]; exact hl, kk _ _ ρ Hb2 x2.b (Evl.Ex.mut x2.in_ c1) (I.mono x2.b) ⟨rfl, q, c1, ⟨dx2, _, upd_same, c3.put (is_adr.mpr rfl)⟩, ?_⟩⟩
    rw [hid_upd]
    exact c4)
    fun ρ' Hb H σ x I ⟨er, d, w⟩ => by subst er; exact k d Hb H σ x I w
end
/-- __init__ of an instance with such a dict: fs by where the dict stands -/
def spIN (P : Program) (w : World) (K : PySem.W.Frag) (C : Addr) (φ : List D → (Addr → List (Str × D)) → Prop) : Sp := fun vs H Q _ => ∃ Hb a dx us ds fs, vs = .ref a :: us ∧ Evl.Ex Hb H ∧ Hb a = none ∧ H a = some (.ins C dx []) ∧ IsL K Hb ds us ∧ φ ds fs ∧
  ∀ Hb' H' d, Evl.Ex Hb' H' → FramI K (FrC (GN K P w d fun xs => xs = []) d (Xt Hb (hid H a))) a C (fs d) Hb' H' → Q .non H'
section
variable {P : Program} {w : World} {K : PySem.W.Frag} {mg : Str → Option Value} {base : Heap}
theorem fn_initN {x qual : Str} {st : Stmt} {f C : Addr} {fd : FuncData} {N ps : List Str} {k : Nat} {φ : List D → (Addr → List (Str × D)) → Prop} (F : Fun K x qual st f fd) (S : FnScope N ps (defScope st)) (len : ∀ ds fs, φ ds fs → ds.length + 1 = ps.length)
    (hbody : ∀ (cdv : Value) (A : Around) (outer : List Env) (s : Shared) (H : Hp) (E : XK), Room k (A.deeper (envOfC qual (defScope st) s.heap.objs.size f cdv)) → ∀ ds fs, φ ds fs → ∀ Hb0 H0 a,
      EB (cxOf CX0 P w K mg base N qual (defScope st) f cdv A outer s H E).nox (FramI K (Xt Hb0 H0) a C []) (st0 N (.adr a :: ds)) (defBody st) (fun _ Hb H => ∃ d, FramI K (FrC (GN K P w d fun xs => xs = []) d (Xt Hb0 H0)) a C (fs d) Hb H) (fun _ _ _ => False) No No) :
    FnOk P w K mg base CX0 (k + 1) f fd ps (spIN P w K C φ) := by
  refine F.ok S (fun vs H Q E ⟨Hb, a, dx, us, ds, fs, h1, _, _, _, h5, h6, _⟩ => by rw [h1, List.length_cons, h5.length]; exact len ds fs h6) (fun cdv A outer s H vs Q E hr ⟨Hb, a, dx, us, ds, fs, h1, h2, h3, h4, h5, h6, h7⟩ => ?_)
  refine ⟨_, pss_sm, ?_⟩
  subst h1
  have w0 : FramI K (Xt Hb (hid H a)) a C [] Hb H := ⟨h3, ⟨dx, [], h4, isF_nil.mpr rfl⟩, .refl (ex_hid h2 h3)⟩
  exact (hbody cdv A outer s H E hr ds fs h6 Hb (hid H a) a Hb H _ h2 (start_is (isL_cons.mpr ⟨_, _, rfl, is_adr.mpr rfl, h5⟩)) w0).mono (fun σ H' ⟨ρ', Hb', a1, a2, a3, d, a4⟩ => h7 Hb' H' d a2 a4) (fun v H' ⟨d', Hb', a1, a2, a3, z⟩ => z.elim) (fun σ H' ⟨ρ', Hb', a1, a2, a3, z⟩ => z.elim) fun σ H' ⟨ρ', Hb', a1, a2, a3, z⟩ => z.elim
variable {X : Cx} {ρ : En} {e e2 : Expr} {es es2 : List Expr} {ds ds2 : List D} {d : D} {f g C : Addr} {fd gd : FuncData} {ps ps2 : List Str} {k k2 : Nat} {φ : List D → (Addr → List (Str × D)) → Prop} {ψ : List D → Addr → As → (D → Prop) → Prop} {x m : Str} {p p1 pos apos : Pos} {fs : Addr → List (Str × D)} {Ψ : XN → Prop}
/-- C(..).m(..): its dict goes with it -/
theorem ed_mkMeth {pl : Sem Bool} (M : Mk X.K C f) (F : FnOk X.prog X.w X.K X.mg X.base CX0 k f fd ps (spIN X.prog X.w X.K C φ)) (hr : Room (k + 1) X.A) (hm : X.mg x = some (.ref C)) (hb : Binds X.K fd ps []) (hs : ES X ρ (e :: es) ds) (hφ : φ ds fs)
    (c : Cls X.K C) (hmm : Meth X.K C m g) (G : FnOk X.prog X.w X.K X.mg X.base CX0 k2 g gd ps2 (spC X.K ψ)) (hr2 : Room k2 X.A) (hb2 : Binds X.K gd ps2 []) (hl : ∀ d, (fs d).lookup m = none)
    (hs2 : ES X ρ (e2 :: es2) ds2) (hψ : ∀ a, ψ (.obj C (fs a) :: ds2) a (GN X.K X.prog X.w a Ψ) (· = d)) (hΨ : Ψ [])
    (hg : Gl X x := by rfl) (hdb : (x == ("__debug__" : Str)) = false := by decide) (he : starEach (e :: es) X.env = (false, eval e X.env) :: starEach es X.env := by rfl) (hpl : (backTo p1 (starEach es X.env)).any (·.1) = false := by rfl)
    (hst2 : starEach (e2 :: es2) X.env = (false, eval e2 X.env) :: starEach es2 X.env := by rfl) (hpl2 : (backTo pos (starEach es2 X.env)).any (·.1) = false := by rfl)
    (ht : eval (.Call (.Attribute (.Call (.Name x p) (e :: es) [] p1) m apos) (e2 :: es2) [] pos) X.env = (do
      let ov ← eval (.Call (.Name x p) (e :: es) [] p1) X.env
      standAt apos.atName
      let (f, first) ← holding [ov] (getMethod ov m pl)
      callWith pos f first (backTo pos (starEach (e2 :: es2) X.env)) (backToKw pos (keywordEach [] X.env))) := by rfl) :
    ED X ρ (.Call (.Attribute (.Call (.Name x p) (e :: es) [] p1) m apos) (e2 :: es2) [] pos) d := fun Hb H σ x1 I => by
  obtain ⟨ta, hp, q⟩ := hs
  obtain ⟨ta2, hp2, q2⟩ := hs2
  refine .of (pe_meth (pe_make M F hr hg hm hb .nil pass0 hp hdb he hpl) c hmm G hr2 hb2 .nil pass0 hp2 hst2 hpl2 ht) (q Hb H σ x1 I _ fun vs H1 Hb1 x2 q1 => ?_)
  intro a dx ha hdx hne
  rw [List.append_nil]
  have hbx : Hb1 a = none := Evl.fresh_back x2.in_ ha
  have hH : hid (upd (upd H1 dx (.own a)) a (.ins C dx [])) a = upd H1 dx (.own a) := by rw [hid_upd, hid_of_none]; rw [upd_ne (Ne.symm hne)]; exact ha
  have e1 : Evl.Ex H1 (upd H1 dx (.own a)) := Evl.Ex.new hdx
  refine ⟨Hb1, a, dx, vs, ds, fs, rfl, (x2.in_.trans e1).trans (Evl.Ex.new (by rw [upd_ne (Ne.symm hne)]; exact ha)), hbx, upd_same, q1, hφ, fun Hb' H' dd e3 wv => ⟨rfl, ?_⟩⟩
  rw [hH] at wv
  obtain ⟨Hb2, x3, w2, q3⟩ := wv.done e3
  obtain ⟨oa, dx2, ws, eo, ho, hw⟩ := is_obj.mp q3
  cases eo
  refine ⟨a, dx2, ws, rfl, x3.in_ _ _ ho, hw.lookup_none (hl dd), ?_⟩
  have xa : Xt Hb1 (upd H1 dx (.own a)) Hb2 (hid H' dd) := w2.2.2.2
  refine q2 Hb2 H' σ x3.in_ (I.mono (x2.b.trans xa.b)) _ fun vs2 H3 Hb3 x4 q4 => ?_
  rw [List.append_nil]
  have w3 : FrC (GN X.K X.prog X.w dd fun xs => xs = []) dd (Xt Hb1 (upd H1 dx (.own a))) Hb3 H3 := Stb.st w2 x4
  have w4 : FrC (GN X.K X.prog X.w dd Ψ) dd (Xt Hb1 (upd H1 dx (.own a))) Hb3 H3 := by
    obtain ⟨n1, n2, ⟨xs, g1, g2, g3, g4⟩, g5⟩ := w3
    exact ⟨n1, n2, ⟨xs, g1, g2, g3, by rw [g4]; exact hΨ⟩, g5⟩
  refine spC_of (W := FrC (GN X.K X.prog X.w dd Ψ) dd (Xt Hb1 (upd H1 dx (.own a)))) (a := dd) (G := GN X.K X.prog X.w dd Ψ) x4.in_ w4 (isL_cons.mpr ⟨_, _, rfl, q3.mono x4.b, q4⟩) (hψ dd) fun Hb5 H5 d5 v e5 e6 w5 r5 i5 => ?_
  subst r5
  obtain ⟨n1, n2, _, x5⟩ := w5
  exact ⟨Hb5, x2.trans ⟨e1.trans (x5.h.trans hid_ex), x5.b, e6, fun b hb1 hb2 => x5.new b (fun z => hb1 (Evl.fresh_back e1 z)) hb2⟩, i5⟩
end
end Sm
set_option maxHeartbeats 4000000
/-! Sm11: == of data with a Lean type. -/
namespace Sm
open PySem PySem.Spec PyProof.Rows L2

structure Eqd {α : Type} (enc : α → D) where
  py : α → PyData
  dp : ∀ {K : PySem.W.Frag} {H : Hp} {x : α} {v : V}, Is K H (enc x) v → Dp K H v (py x)
  eq : ∀ x y, PyData.eqv (py x) (py y) = true ↔ x = y
  lay : ∀ x, (py x).canLay0 = true
  dep : Nat
  hdep : ∀ x, (py x).depth ≤ dep
namespace Eqd
def int : Eqd D.int where
  py := .int
  dp h := by rw [is_int.mp h]; exact .int _
  eq x y := by simp [PyData.eqv]
  lay _ := by simp [PyData.canLay0]
  dep := 0
  hdep _ := by simp [PyData.depth]
def nat : Eqd (fun n : Nat => D.int (n : Int)) where
  py n := .int (n : Int)
  dp h := by rw [is_int.mp h]; exact .int _
  eq x y := by simp [PyData.eqv]; omega
  lay _ := by simp [PyData.canLay0]
  dep := 0
  hdep _ := by simp [PyData.depth]
section
variable {α β : Type} {enc : α → D} {enc2 : β → D} (E : Eqd enc) (F : Eqd enc2)
theorem dpAll {K : PySem.W.Frag} {H : Hp} : ∀ {xs : List α} {vs : List V}, IsL K H (xs.map enc) vs → DpAll K H vs (xs.map E.py)
  | [], vs, h => by rw [isL_nil.mp h]; exact .nil
  | x :: xs, vs, h => by
    obtain ⟨v, r, rfl, h1, h2⟩ := isL_cons.mp h
    exact .cons (E.dp h1) (dpAll h2)
theorem eqAll : ∀ xs ys : List α, PyData.eqvAll (xs.map E.py) (ys.map E.py) = true ↔ xs = ys
  | [], [] => by simp [PyData.eqvAll]
  | [], _ :: _ => by simp [PyData.eqvAll]
  | _ :: _, [] => by simp [PyData.eqvAll]
  | x :: xs, y :: ys => by rw [List.map_cons, List.map_cons, PyData.eqvAll, Bool.and_eq_true, E.eq, eqAll xs ys, List.cons.injEq]
theorem layAll : ∀ xs : List α, PyData.canLayAll0 (xs.map E.py) = true
  | [] => by simp [PyData.canLayAll0]
  | x :: xs => by rw [List.map_cons, PyData.canLayAll0, E.lay, layAll xs]; rfl
theorem depAll : ∀ xs : List α, PyData.depthAll (xs.map E.py) ≤ E.dep
  | [] => Nat.zero_le _
  | x :: xs => by rw [List.map_cons, PyData.depthAll]; exact Nat.max_le.mpr ⟨E.hdep x, depAll xs⟩
/-- a list as a tuple, as a list; a pair -/
def tup : Eqd (fun xs : List α => D.tup (xs.map enc)) where
  py xs := .tuple (xs.map E.py)
  dp h := by
    obtain ⟨a, vs, rfl, ha, hv⟩ := is_tup.mp h
    exact .tup ha (E.dpAll hv)
  eq x y := by simp only [PyData.eqv]; exact E.eqAll x y
  lay x := by simp only [PyData.canLay0]; exact E.layAll x
  dep := E.dep + 1
  hdep x := by simp only [PyData.depth]; exact Nat.succ_le_succ (E.depAll x)
def lst : Eqd (fun xs : List α => D.lst (xs.map enc)) where
  py xs := .list (xs.map E.py)
  dp h := by
    obtain ⟨a, vs, rfl, ha, hv⟩ := is_lst.mp h
    exact .lst (SqL.of ha) (E.dpAll hv)
  eq x y := by simp only [PyData.eqv]; exact E.eqAll x y
  lay x := by simp only [PyData.canLay0]; exact E.layAll x
  dep := E.dep + 1
  hdep x := by simp only [PyData.depth]; exact Nat.succ_le_succ (E.depAll x)
def pair : Eqd (fun q : α × β => D.tup [enc q.1, enc2 q.2]) where
  py q := .tuple [E.py q.1, F.py q.2]
  dp h := by
    obtain ⟨a, vs, rfl, ha, hv⟩ := is_tup.mp h
    obtain ⟨v, w, rfl, h1, h2⟩ : ∃ v w, vs = [v, w] ∧ Is _ _ _ v ∧ Is _ _ _ w := es_two hv
    exact .tup ha (.cons (E.dp h1) (.cons (F.dp h2) .nil))
  eq x y := by
    simp only [PyData.eqv, PyData.eqvAll, Bool.and_true, Bool.and_eq_true]
    rw [E.eq, F.eq, Prod.ext_iff]
  lay x := by simp [PyData.canLay0, PyData.canLayAll0, E.lay, F.lay]
  dep := max E.dep F.dep + 1
  hdep x := by
    simp only [PyData.depth, PyData.depthAll]
    have h1 := E.hdep x.1
    have h2 := F.hdep x.2
    omega
theorem shaped (h : E.dep ≤ 64) (x : α) : SeqAt.shaped (E.py x) = true := by
  unfold SeqAt.shaped
  rw [E.lay, decide_eq_true (Nat.le_trans (E.hdep x) h)]; rfl
variable {X : Cx} {ρ : En} {a b : Expr} {pos : Pos} [DecidableEq α]
theorem beq (x y : α) : PyData.eqv (E.py x) (E.py y) = decide (x = y) := by
  rw [Bool.eq_iff_iff, E.eq, decide_eq_true_iff]
theorem rd {K : PySem.W.Frag} (h : E.dep ≤ 64) (x y : α) : R2D K (rEqD K) (enc x) (enc y) (.bl (decide (x = y))) := fun Hb H v w e h1 h2 Q q => by
  refine ⟨E.py x, E.py y, E.dp (h1.mono e), E.dp (h2.mono e), E.shaped h x, E.shaped h y, ?_⟩
  rw [E.beq]
  exact q _ _ (gd_bl e)
theorem rdN {K : PySem.W.Frag} (h : E.dep ≤ 64) (x y : α) : R2D K (rNeD K) (enc x) (enc y) (.bl (!decide (x = y))) := fun Hb H v w e h1 h2 Q q => by
  refine ⟨E.py x, E.py y, E.dp (h1.mono e), E.dp (h2.mono e), E.shaped h x, E.shaped h y, ?_⟩
  rw [E.beq]
  exact q _ _ (gd_bl e)
theorem ed_eq (hu : X.A.units + 64 < cLine) (h : E.dep ≤ 64) (x y : α) (ha : ED X ρ a (enc x)) (hb : ED X ρ b (enc y)) : ED X ρ (.Compare a [.Eq] [b] pos) (.bl (decide (x = y))) := ed_cmp (op_eqD hu) ha hb (E.rd h x y) (nomark _)
theorem et_eq (hu : X.A.units + 64 < cLine) (h : E.dep ≤ 64) (x y : α) (ha : ED X ρ a (enc x)) (hb : ED X ρ b (enc y)) : ET X ρ (.Compare a [.Eq] [b] pos) (decide (x = y)) := et_cmp (op_eqD hu) ha hb (E.rd h x y) (nomark _)
theorem et_ne (hu : X.A.units + 64 < cLine) (h : E.dep ≤ 64) (x y : α) (ha : ED X ρ a (enc x)) (hb : ED X ρ b (enc y)) : ET X ρ (.Compare a [.NotEq] [b] pos) (!decide (x = y)) := et_cmp (op_neD hu) ha hb (E.rdN h x y) (nomark _)
end
end Eqd
end Sm
set_option maxHeartbeats 4000000
/-! Sm12: more rules with effects. -/
namespace Sm
open PySem PySem.Spec PyProof.Rows L2

section
variable {X : Cx} {W : As} {ρ : En} {elt tg iter : Expr} {ifs : List Expr} {scope : Scope} {own : List (Str × Nat)} {pos : Pos} {ds : List D} {g : TG} {rest : List Stmt} {N : En → As} {R : D → As} {B C : En → As}
/-- x = [..] on one line, all of it pure -/
theorem eb_setLc {α : Type} {xs : List α} (enc : α → D) (i : Nat) {y : Str} {py spos : Pos} {p : α → Bool} {f : α → D} {τ : α → En} [Stb W] (hc : X.calm = true) (hN : X.N.Nodup) (hi : EI X ρ tg iter (xs.map enc)) (ok : BlkOk X.N X.env.scope scope own) (hz : xs.length ≤ sizeLine)
    (hg : InB X scope fun Y => PG Y tg g) (hτ : ∀ d ∈ xs, TgD X.K g (own.map (·.2)) (wipeD ρ (own.map (·.2))) (enc d) (τ d))
    (ht : ∀ d ∈ xs, InB X scope fun Y => ETs Y (τ d) ifs (p d)) (he : ∀ d ∈ xs, p d = true → InB X scope fun Y => ED Y (τ d) elt (f d))
    (k : EB X W (ρ.set i (some (.lst ((xs.filter p).map f)))) rest N R B C)
    (hy : X.N[i]? = some y := by rfl) (hyl : X.env.scope.names.lookup y = some .local := by rfl)
    (hsw : swapsWith (.ListComp elt [⟨tg, iter, ifs, 0⟩] scope pos) (some (.Name y py)) spos.line X.env = pure true := by exact sw_true rfl rfl rfl (by decide +kernel)) (hs : ∀ x, foldedSetIterable iter X.env x = pure x := by intro _; rfl) :
    EB X W ρ (.Assign [.Name y py] (.ListComp elt [⟨tg, iter, ifs, 0⟩] scope pos) spos :: rest) N R B C := fun Hb H σ x I w => by
  refine eb_cons (Nx := fun σ' H' => ∃ ρ' Hb', Evl.Ex Hb Hb' ∧ Evl.Ex Hb' H' ∧ IsE X.K Hb' σ' ρ' ∧ W Hb' H' ∧ ρ' = ρ.set i (some (.lst ((xs.filter p).map f)))) Hb ?_
    fun σ' H' ⟨ρ', Hb', a1, a2, a3, a4, a5⟩ => by subst a5; exact EbD.widen a1 (k Hb' H' σ' a2 a3 a4)
  refine setLc_read enc (W := W) (T := fun d o => o = if p d then some (f d) else none) (τ := τ) (xs := xs) (g := g) hc hN hy hyl hsw hi ok hz x I w hg hτ (fun d b => b = p d) (fun d r => r = f d)
    (fun d _ h => by rw [← h, if_neg Bool.false_ne_true]) (fun d _ r h e => by rw [← h, if_pos rfl, e]) (fun d hd l es s H C cl fp => ht d hd s H C cl fp _) (fun d hd hb l es s H C cl fp => ew_ed (he d hd hb.symm s H C cl fp)) (fun es v H' Hb' tr e1 e2 w q => ?_) hs
  rw [tr.det fun d hd o h => h] at q
  exact ⟨_, Hb', e1, e2, (I.mono e1).set i q, w, rfl⟩
/-- the same, keeping W, by T -/
theorem eb_setLcW {α : Type} {xs : List α} (enc : α → D) (i : Nat) {y : Str} {py spos : Pos} {T : α → Option D → Prop} {τ : α → En} [Stb W] (hc : X.calm = true) (hN : X.N.Nodup) (hi : EI X ρ tg iter (xs.map enc)) (ok : BlkOk X.N X.env.scope scope own) (hz : xs.length ≤ sizeLine)
    (hg : InB X scope fun Y => PG Y tg g) (hτ : ∀ d ∈ xs, TgD X.K g (own.map (·.2)) (wipeD ρ (own.map (·.2))) (enc d) (τ d)) (Bt : α → Bool → Prop) (P : α → D → Prop) (hT0 : ∀ d ∈ xs, Bt d false → T d none) (hT1 : ∀ d ∈ xs, ∀ r, Bt d true → P d r → T d (some r))
    (ht : ∀ d ∈ xs, ∀ l es, InB X scope fun Y => TWs Y (Fram X.K W l es) (τ d) ifs (Bt d)) (he : ∀ d ∈ xs, Bt d true → ∀ l es, InB X scope fun Y => EW Y (Fram X.K W l es) (τ d) elt (P d))
    (k : ∀ es, Trn T xs es → EB X W (ρ.set i (some (.lst es))) rest N R B C)
    (hy : X.N[i]? = some y := by rfl) (hyl : X.env.scope.names.lookup y = some .local := by rfl)
    (hsw : swapsWith (.ListComp elt [⟨tg, iter, ifs, 0⟩] scope pos) (some (.Name y py)) spos.line X.env = pure true := by exact sw_true rfl rfl rfl (by decide +kernel)) (hs : ∀ x, foldedSetIterable iter X.env x = pure x := by intro _; rfl) :
    EB X W ρ (.Assign [.Name y py] (.ListComp elt [⟨tg, iter, ifs, 0⟩] scope pos) spos :: rest) N R B C := fun Hb H σ x I w => by
  refine eb_cons (Nx := fun σ' H' => ∃ ρ' Hb', Evl.Ex Hb Hb' ∧ Evl.Ex Hb' H' ∧ IsE X.K Hb' σ' ρ' ∧ W Hb' H' ∧ ∃ es, Trn T xs es ∧ ρ' = ρ.set i (some (.lst es))) Hb ?_
    fun σ' H' ⟨ρ', Hb', a1, a2, a3, a4, es, tr, a5⟩ => by subst a5; exact EbD.widen a1 (k es tr Hb' H' σ' a2 a3 a4)
  exact setLc_read enc (W := W) (T := T) (τ := τ) (xs := xs) (g := g) hc hN hy hyl hsw hi ok hz x I w hg hτ Bt P hT0 hT1 ht he (fun es v H' Hb' tr e1 e2 w q => ⟨_, Hb', e1, e2, (I.mono e1).set i q, w, es, tr, rfl⟩) hs
end
section
variable {X : Cx} {W : As} {ρ : En} {e a b c : Expr} {es : List Expr} {d d1 d2 : D} {ds : List D} {pos p : Pos} {x : Str} {P Q Z : D → Prop}
/-- an operation, both sides keeping W -/
theorem ew_2 {r : R2} [Stb W] (h : PE X e (tOp r (SmE X a) (SmE X b))) (ha : EW X W ρ a P) (hb : EW X W ρ b Q) (hr : ∀ d1 d2, P d1 → Q d2 → ∃ d, Z d ∧ R2D X.K r d1 d2 d) : EW X W ρ e Z := fun Hb H σ x I w => .of h (by
  refine (ha Hb H σ x I w).mono fun v H1 ⟨Hb1, d1, x1, i1, w1, p1, q1⟩ => ?_
  refine (hb Hb1 H1 σ i1 (I.mono x1) w1).mono fun w H2 ⟨Hb2, d2, x2, i2, w2, p2, q2⟩ => ?_
  obtain ⟨d, z, hr⟩ := hr d1 d2 p1 p2
  exact hr Hb2 H2 v w i2 (q1.mono x2) q2 _ fun v' H' ⟨Hb3, x3, q3⟩ => ⟨Hb3, d, x1.trans (x2.trans x3.b), x3.in_, Stb.st w2 x3, z, q3⟩)
/-- the arguments of a call, keeping W -/
def EWs (X : Cx) (W : As) (ρ : En) (es : List Expr) (Φ : List D → Prop) : Prop := ∃ ta, PA X es ta ∧ ∀ Hb H σ, Evl.Ex Hb H → IsE X.K Hb σ ρ → W Hb H → ∀ Q : List V → Hp → Prop, (∀ vs H' Hb' ds, Evl.Ex Hb Hb' → Evl.Ex Hb' H' → W Hb' H' → Φ ds → IsL X.K Hb' ds vs → Q vs H') → ta σ H Q
theorem ews_nil : EWs X W ρ [] (· = []) := ⟨_, pa_nil, fun Hb H σ e I w Q q => q [] H Hb [] (.refl _) e w rfl (isL_nil.mpr rfl)⟩
theorem ews_cons {Φ Ψ : List D → Prop} (h : EW X W ρ e P) (hr : EWs X W ρ es Φ) (hΨ : ∀ d ds, P d → Φ ds → Ψ (d :: ds)) (hs : starEach (e :: es) X.env = (false, eval e X.env) :: starEach es X.env := by rfl) : EWs X W ρ (e :: es) Ψ := by
  obtain ⟨ta, hp, q⟩ := hr
  refine ⟨_, pa_cons pe_sm hp hs, fun Hb H σ x I w Q k => ?_⟩
  refine (h Hb H σ x I w).mono fun v H1 ⟨Hb1, d, x1, i1, w1, p1, q1⟩ => ?_
  exact q Hb1 H1 σ i1 (I.mono x1) w1 _ fun vs H2 Hb2 ds x2 i2 w2 p2 q2 => k _ _ Hb2 (d :: ds) (x1.trans x2) i2 w2 (hΨ _ _ p1 p2) (isL_cons.mpr ⟨v, vs, rfl, q1.mono x2, q2⟩)
theorem ews_es [Stb W] (h : ES X ρ es ds) : EWs X W ρ es (· = ds) := by
  obtain ⟨ta, hp, q⟩ := h
  exact ⟨ta, hp, fun Hb H σ x I w Q k => q Hb H σ x I _ fun vs H1 Hb1 x1 q1 => k _ _ Hb1 ds x1.b x1.in_ (Stb.st w x1) rfl q1⟩
theorem EWs.imp {Φ Ψ : List D → Prop} (h : EWs X W ρ es Φ) (k : ∀ ds, Φ ds → Ψ ds) : EWs X W ρ es Ψ := by
  obtain ⟨ta, hp, q⟩ := h
  exact ⟨ta, hp, fun Hb H σ x I w Q k2 => q Hb H σ x I w _ fun vs H1 Hb1 ds a1 a2 a3 a4 a5 => k2 _ _ _ ds a1 a2 a3 (k _ a4) a5⟩
theorem ew_tcb {r : List V → Hp → VK → Prop} {Φ : List D → Prop} [Stb W] (hs : EWs X W ρ es Φ) (h : ∀ ta, PA X es ta → PE X e (tCB r ta)) (hr : ∀ ds, Φ ds → ∃ d, Z d ∧ RCD X.K r ds d) : EW X W ρ e Z := fun Hb H σ x I w => by
  obtain ⟨ta, hp, q⟩ := hs
  refine .of (h ta hp) (q Hb H σ x I w _ fun vs H1 Hb1 ds x1 i1 w1 p1 q1 => ?_)
  obtain ⟨d, z, hr⟩ := hr ds p1
  exact hr Hb1 H1 vs i1 q1 _ fun v' H' ⟨Hb2, x2, q2⟩ => ⟨Hb2, d, x1.trans x2.b, x2.in_, Stb.st w1 x2, z, q2⟩
theorem ew_callB {id : String} {r : List V → Hp → VK → Prop} {Φ : List D → Prop} [Stb W] (hc : CallR X (.builtin id) r) (hm : X.mg x = none) (hv : bootBuiltins x = some (.builtin id)) (hs : EWs X W ρ (e :: es) Φ) (hr : ∀ ds, Φ ds → ∃ d, Z d ∧ RCD X.K r ds d) (hg : Gl X x := by rfl) (hn : x ≠ "__name__" := by decide) (hdb : (x == ("__debug__" : Str)) = false := by decide)
    (he : starEach (e :: es) X.env = (false, eval e X.env) :: starEach es X.env := by rfl) (hpl : (backTo pos (starEach es X.env)).any (·.1) = false := by rfl) : EW X W ρ (.Call (.Name x p) (e :: es) [] pos) Z :=
  ew_tcb hs (fun _ hp => pe_callB hc hg hm hv hp hn hdb he hpl) hr
theorem ew_callTy {T : String} {r : List V → Hp → VK → Prop} {Φ : List D → Prop} [Stb W] (hc : CallR X (.type T) r) (hm : X.mg x = none) (hv : bootBuiltins x = some (.type T)) (hs : EWs X W ρ (e :: es) Φ) (hr : ∀ ds, Φ ds → ∃ d, Z d ∧ RCD X.K r ds d) (hg : Gl X x := by rfl) (hn : x ≠ "__name__" := by decide) (hdb : (x == ("__debug__" : Str)) = false := by decide)
    (he : starEach (e :: es) X.env = (false, eval e X.env) :: starEach es X.env := by rfl) (hpl : (backTo pos (starEach es X.env)).any (·.1) = false := by rfl) : EW X W ρ (.Call (.Name x p) (e :: es) [] pos) Z :=
  ew_tcb hs (fun _ hp => pe_callTy hc hg hm hv hp hn hdb he hpl) hr
theorem rc_sum {K : PySem.W.Frag} (ns : List Int) : RCD K (fun xs H Q => ∃ (p : Addr) (ns : List Int), xs = [.ref p] ∧ SqL K H p (ns.map V.int) ∧ Q (.int ns.sum) H) [.lst (ns.map .int)] (.int ns.sum) := fun Hb H vs x q Q k => by
  obtain ⟨v, rfl, h1⟩ := es_one q
  obtain ⟨a, ws, rfl, ha, hw⟩ := is_lst.mp h1
  rw [isL_ints.mp hw] at ha
  exact ⟨a, ns, rfl, SqL.of (x _ _ ha), k _ _ (gd_int x)⟩
theorem ew_sum [Stb W] (ns : List Int) (hc : X.calm = true) (g : X.mg "sum" = none) (h : EW X W ρ e P) (hP : ∀ d, P d → d = .lst (ns.map .int)) (hg : Gl X "sum" := by rfl) (he : starEach [e] X.env = (false, eval e X.env) :: starEach [] X.env := by rfl) : EW X W ρ (.Call (.Name "sum" p) [e] [] pos) (· = .int ns.sum) :=
  ew_callB (Φ := (· = [.lst (ns.map .int)])) (cr_sum hc) g (by decide +kernel) (ews_cons h ews_nil (fun d ds p q => by rw [q, hP d p]) he) (fun ds e => ⟨_, rfl, by rw [e]; exact rc_sum ns⟩) hg (by decide) (by decide) he
end
end Sm
set_option maxHeartbeats 4000000
/-! Sm13: a def that begins with super().__init__(..). -/
namespace Sm
open PySem PySem.Spec PyProof.Rows L2

/-- what super() asks of the text -/
structure SupF (P : Program) (K : PySem.W.Frag) (mg : Str → Option Value) (C D : Addr) (m : Str) (g cc cda : Addr) : Prop where
  cell : ∃ cl cld csl, K.lookup cc = some ⟨cl, cld, .cell (some (.ref D)), csl⟩
  code : ∃ ccl cdd vs ccs file tf, K.lookup cda = some ⟨ccl, cdd, .fields vs, ccs⟩ ∧ vs[2]? = some (.str file tf) ∧ ((P.main.file : Str) == file) = true
  cls : ∃ cd, PySem.W.clsIn K D = some cd
  clsC : ∃ cd, PySem.W.clsIn K C = some cd
  sub : PySem.W.mroIn K C (.ref D) = some true
  met : PySem.W.ks_superIn K C D m = some (some (.ref g))
  ty : PySem.W.typeIn K (.ref g) = some (.type "function")
  fi : PySem.W.fnIn K g = true
  ms : mg "super" = none
  tp : PySem.W.nsIn K cStatics "thirdparty.any" = some none
  top : (P.main.scope.names.lookup ("super" : Str)).isSome = false
/-- the scope of such a def -/
structure SScope (N ps : List Str) (sc : Scope) : Prop where
  kind : sc.kind = .function
  co : sc.isCoroutine = false
  gen : sc.isGenerator = false
  nd : N.Nodup
  pre : N.take ps.length = ps
  par : ∀ x ∈ ps, sc.names.lookup x = some .local
  cell : ∀ y ∈ sc.names, y.2 ≠ .cell
  free : ∀ y, sc.names.lookup y = some .free → y = "__class__"
  ks : sc.names.lookup ("super" : Str) = some .globalImplicit
  kc : sc.names.lookup ("__class__" : Str) = some .free
abbrev envS (qual : Str) (scope : Scope) (L f : Addr) (cd : Value) (cc : Addr) : Env := PySem.W.ksEnv qual scope L f cd cc
/-- the context of its body -/
def cxS (P : Program) (w : World) (K : PySem.W.Frag) (mg : Str → Option Value) (base : Heap) (N : List Str) (qual : Str) (scope : Scope) (f : Addr) (cd : Value) (cc : Addr) (A : Around) (outer : List Env) (s : Shared) (H : Hp) : Cx where
  prog := P
  w := w
  K := K
  mg := mg
  base := base
  A := A.deeper (envS qual scope s.heap.objs.size f cd cc)
  N := N
  s_0 := s
  H_0 := H
  env := envS qual scope s.heap.objs.size f cd cc
  outer := outer
  stack := envS qual scope s.heap.objs.size f cd cc :: outer
  ex := []
  calm := true
  fn := fun _ => false
  pn := []
  xe := fun _ _ => False
theorem look1 {cc c : Addr} {x : Str} (h : ([("__class__", cc)] : List (Str × Addr)).lookup x = some c) : x = "__class__" ∧ c = cc := by
  by_cases e : x = "__class__"
  · subst e
    simp [List.lookup] at h
    exact ⟨rfl, h.symm⟩
  · have : (x == ("__class__" : Str)) = false := by simpa using e
    simp [List.lookup, this] at h
theorem look_mem {α : Type} {x : Str} {u : α} : ∀ {l : List (Str × α)}, (l.map (·.1)).Nodup → (x, u) ∈ l → l.lookup x = some u
  | [], _, h => by cases h
  | (y, v) :: l, nd, h => by
    rw [List.map_cons, List.nodup_cons] at nd
    rcases List.mem_cons.mp h with e | e
    · cases e
      simp [List.lookup]
    · have ne : x ≠ y := fun z => nd.1 (List.mem_map.mpr ⟨(x, u), e, z⟩)
      have : (x == y) = false := by simpa using ne
      rw [List.lookup_cons, this]
      exact look_mem nd.2 e
theorem zip_sub {α β : Type} : ∀ {ps : List α} {us : List β}, ((ps.zip us).map (·.1)).Sublist ps
  | [], _ => by simp
  | p :: ps, [] => by simp
  | p :: ps, u :: us => by rw [List.zip_cons_cons, List.map_cons]; exact zip_sub.cons_cons _
theorem zip_look {x : Str} {u : Value} : ∀ {ps : List Str} {us : List Value} {i : Nat}, ps.Nodup → ps[i]? = some x → us[i]? = some u → (ps.zip us).reverse.lookup x = some u := by
  intro ps us i nd h1 h2
  refine look_mem ?_ ?_
  · rw [List.map_reverse]
    refine List.pairwise_reverse.mpr (List.Pairwise.imp (fun h => Ne.symm h) (List.Nodup.sublist ?_ nd))
    exact zip_sub
  · rw [List.mem_reverse]
    exact List.mem_of_getElem? (i := i) (by rw [List.getElem?_zip_eq_some]; exact ⟨h1, h2⟩)
theorem inv_startS {P : Program} {w : World} {K : PySem.W.Frag} {mg : Str → Option Value} {base : Heap} {N ps : List Str} {qual : Str} {scope : Scope} {f cc D : Addr} {cd cl : Value} {cld : Option Addr} {csl : Array (Option Value)} {A : Around} {outer : List Env} {s : Shared} {h1 : Heap} {tk : Nat} {H : Hp} {us : List Value} {vs : List V}
    (S : SScope N ps scope) (hd : A.handled = none) (e0 : Env0 P w K mg base A outer s H) (hl : vs.length = ps.length) (r : Vals vs us) (hcc : K.lookup cc = some ⟨cl, cld, .cell (some (.ref D)), csl⟩)
    (hns : h1.Ns s.heap.objs.size (fun x => (ps.zip us).reverse.lookup x)) (hk : ∀ b o, s.heap.get? b = some o → h1.get? b = some o) :
    Inv (cxS P w K mg base N qual scope f cd cc A outer s H) [] (start N vs) H { s with heap := h1, toks := tk } := by
  have hpl : ps.length ≤ N.length := by have := congrArg List.length S.pre; rw [List.length_take] at this; omega
  have noA : ∀ b : Addr, b ∉ (cxS P w K mg base N qual scope f cd cc A outer s H).ex := fun b z => absurd (show b ∈ ([] : List Addr) from z) (by simp)
  have hb : base.get? cc = some ⟨cl, cld, .cell (some (.ref D)), csl⟩ := e0.mod.kin _ _ hcc
  refine ⟨⟨e0.mod, S.kind, rfl, rfl, Nat.le_refl _, fun y z c h1 h2 => ?_, fun y hy => ?_, fun y c h => ?_, fun _ => hd, Around.frames_deeper e0.frames, .inr ⟨rfl, rfl⟩, fun b z => absurd z (noA b), e0.bs, e0.bsz, fun b _ _ => noA b, fun b z => absurd z (noA b), e0.funs, e0.frf⟩,
    rfl, e0.bare, Un.kept hk, ⟨_, hns, fun i y v h1 h2 h3 => ?_⟩, fun y c h => ?_, e0.hok.fresh (Nat.le_refl _), fun y c h => ?_, fun p hp => absurd (show p ∈ ([] : List (Addr × Obj)) from hp) (by simp), e0.hok.kept hk, ?_⟩
  · exact (look1 h1).1.trans (look1 h2).1.symm
  · have hy : scope.names.lookup y = some .cell ∨ scope.names.lookup y = some .free := hy
    rcases hy with hy | hy
    · exact absurd rfl (S.cell _ (PySem.mem_of_lookup hy))
    · rw [S.free y hy]
      exact ⟨cc, rfl⟩
  · exact (nomatch h)
  · have hi : i < vs.length := by
      unfold L2.start at h2
      by_cases hi : i < vs.length
      · exact hi
      · rw [List.getElem?_append_right (by simpa using hi)] at h2
        rw [List.getElem?_replicate] at h2
        split at h2 <;> cases h2
    have ha : vs[i]? = some v := by
      unfold L2.start at h2
      rw [List.getElem?_append_left (by simpa using hi), List.getElem?_map] at h2
      cases e : vs[i]? with
      | none => rw [e] at h2; cases h2
      | some a => rw [e] at h2; cases h2; rfl
    obtain ⟨u, hu, rv⟩ := r.get ha
    have hp : ps[i]? = some y := by
      rw [← S.pre, List.getElem?_take_of_lt (by omega)]; exact h1
    have ndP : ps.Nodup := by rw [← S.pre]; exact S.nd.sublist (List.take_sublist _ _)
    exact ⟨u, rv, .inl ⟨S.par y (List.mem_of_getElem? hp), zip_look ndP hp hu⟩⟩
  · obtain ⟨e1, e2⟩ := look1 (show ([("__class__", cc)] : List (Str × Addr)).lookup y = some c from h)
    subst e2
    exact ⟨_, _, hk _ _ (e0.bs _ _ hb).1, rfl⟩
  · obtain ⟨e1, e2⟩ := look1 (show ([("__class__", cc)] : List (Str × Addr)).lookup y = some c from h)
    subst e2
    exact (e0.bs _ _ hb).2
  · unfold L2.start
    show _ = N.length
    rw [List.length_append, List.length_map, List.length_replicate]
    omega
/-- THE RULE: a def whose body begins with super().m(e, ..) -/
theorem fnS_of {P : Program} {w : World} {K : PySem.W.Frag} {mg : Str → Option Value} {base : Heap} {k : Nat} {f C D g cc cda : Addr} {gd : FuncData} {psg : List Str} {name qual m : Str} {params : Arguments} {rest : List Stmt} {scope : Scope} {dV kV doc pm ct oc : Value} {an od : Option Addr}
    {osl : Array (Option Value)} {N ps : List Str} {sp spG : Sp} {ar : Arg} {e : Expr} {es : List Expr} {p0 p1 apos cpos spos : Pos}
    (lk : K.lookup f = some ⟨oc, od, .func (PySem.W.ksFn name qual params (.Expr (.Call (.Attribute (.Call (.Name "super" p0) [] [] p1) m apos) (e :: es) [] cpos) spos :: rest) scope dV kV doc pm an (.ref cda) ct cc), osl⟩) (hcd : PySem.W.codeIn K (.ref cda) qual = true) (S : SScope N ps scope)
    (U : SupF P K mg C D m g cc cda) (har : (params.posonlyargs ++ params.args).head? = some ar) (hN0 : N[0]? = some ar.arg) (hps : ps[0]? = some ar.arg) (len : ∀ vs H Q E, sp vs H Q E → vs.length = ps.length)
    (G : FnOk P w K mg base CX0 k g gd psg spG) (bG : Binds K gd psg [])
    (hpl : ∀ (L : Addr), (backTo cpos (starEach es (envS qual scope L f (.ref cda) cc))).any (·.1) = false) (hsw : ∀ (L : Addr), swapsWith (.Call (.Attribute (.Call (.Name "super" p0) [] [] p1) m apos) (e :: es) [] cpos) none spos.line (envS qual scope L f (.ref cda) cc) = pure false)
    (hst : ∀ (L : Addr), starEach (e :: es) (envS qual scope L f (.ref cda) cc) = (false, eval e (envS qual scope L f (.ref cda) cc)) :: starEach es (envS qual scope L f (.ref cda) cc))
    (pl : Sem Bool) (hev : ∀ (L : Addr), eval (.Call (.Attribute (.Call (.Name "super" p0) [] [] p1) m apos) (e :: es) [] cpos) (envS qual scope L f (.ref cda) cc) = (do
      let ov ← attributeBase (.Call (.Name "super" p0) [] [] p1) m (envS qual scope L f (.ref cda) cc) (eval (.Call (.Name "super" p0) [] [] p1) (envS qual scope L f (.ref cda) cc))
      standAt apos.atName
      let (fg, first) ← holding [ov] (getMethod ov m pl)
      callWith cpos fg first (backTo cpos (starEach (e :: es) (envS qual scope L f (.ref cda) cc))) []))
    (hbody : ∀ (A : Around) (outer : List Env) (s : Shared) (H : Hp) (vs : List V) (Q : VK) (E : XK), Room k (A.deeper (envS qual scope s.heap.objs.size f (.ref cda) cc)) → sp vs H Q E →
      ∃ a dx fs ws ta tr, vs = .ref a :: ws ∧ H a = some (.ins C dx fs) ∧ PA (cxS P w K mg base N qual scope f (.ref cda) cc A outer s H) (e :: es) ta ∧ PSs (cxS P w K mg base N qual scope f (.ref cda) cc A outer s H) rest tr ∧
        ta (start N vs) H fun us H1 => spG (.ref a :: us) H1 (fun _ H2 => tr { nx := fun _ H' => Q .non H', rt := Q } (start N vs) H2) E0)
    (hat : (m == ("__class__" : Str)) = false := by decide) (hi : ∀ (L : Addr), interactive (envS qual scope L f (.ref cda) cc) = false := by exact fun _ => rfl) :
    FnOk P w K mg base CX0 (k + 1) f (PySem.W.ksFn name qual params (.Expr (.Call (.Attribute (.Call (.Name "super" p0) [] [] p1) m apos) (e :: es) [] cpos) spos :: rest) scope dV kV doc pm an (.ref cda) ct cc) ps sp := by
  refine ⟨len, fun A outer s H args us vs Q E hr e0 hb r hsp => ?_⟩
  have hl := len _ _ _ _ hsp
  have KX : K.In s.heap := e0.mod.kin.keeps fun b o e => (e0.bs b o e).1
  have lim : s.heap.NoLimit := e0.mod.nolimit.keeps fun b o e => (e0.bs b o e).1
  obtain ⟨cl, cld, csl, hcc⟩ := U.cell
  obtain ⟨ccl, cdd, cvs, ccs, file, tf, hcda, hvs, hfile⟩ := U.code
  obtain ⟨cdD, hD⟩ := U.cls
  obtain ⟨cdC, hC⟩ := U.clsC
  obtain ⟨a, dx, fs, ws, ta, tr, rfl, hins, hpa, hpr, hq⟩ := hbody A outer s H vs Q E (hr.deeper _) hsp
  refine PySem.ks_codeAny_call_defAt hr.depth (KX _ _ lk) rfl lim (PySem.W.codeRec_of KX hcd) rfl hb S.cell (fun x hx => S.par _ (List.of_mem_zip hx).1) (fun h1 hns hk => ?_) S.co S.gen S.kind
  have I : Inv (cxS P w K mg base N qual scope f (.ref cda) cc A outer s H) [] (start N (.ref a :: ws)) H { s with heap := h1, toks := s.toks + (ps.zip us).length } := inv_startS S hr.hd e0 hl r hcc hns hk
  have hdpl : us[0]? = some (.ref a) := by
    cases r with
    | cons r1 r2 => rw [List.getElem?_cons_zero, show _ = _ from r1]
  have ndP : ps.Nodup := by rw [← S.pre]; exact S.nd.sublist (List.take_sublist _ _)
  have X1 : K.In h1 := KX.keeps hk
  obtain ⟨mA, O, _, _, _, _⟩ := ins_get I.hok hins
  obtain ⟨odd, J, _⟩ := O.look
  have GR : FnR P w K mg base CX0 k g spG := (G.raw bG .nil).imp fun vs H Q E q => by rw [List.append_nil]; exact q
  refine PySem.ks_wpAt_execs_cons ?_
  refine PySem.ks_wpAt_Expr_any ?_ (hi _) (hsw _)
  refine PySem.ks_wpAt_MethodCall (pl := pl) ?_ (hev _)
  refine PySem.ks_wpAt_super_base S.ks S.kc hat rfl (X1 _ _ lk) rfl har rfl (X1 _ _ hcda) rfl hvs hfile U.top ?_
  obtain ⟨mb, b1, b2⟩ := e0.mod.blt
  refine PySem.W.ks_loadName_global S.kind S.ks (Calls.loadGlobal_builtin (by exact e0.mod.glob.keeps I.bk) U.ms (by exact b1.keeps I.bk) ((b2 "super" (by decide)).trans (by rfl)) ⟨rfl, ?_⟩)
  refine wpAny_loadName_free S.kind S.kc rfl ⟨_, X1 _ _ hcc, rfl⟩ ?_
  refine wpAny_loadName_local S.kind (S.par _ (List.mem_of_getElem? hps)) hns (zip_look ndP hps hdpl) ?_
  obtain ⟨oD, hD1, hD2⟩ : ∃ oD, h1.get? D = some oD ∧ oD.data = .cls cdD := by
    unfold PySem.W.clsIn at hD
    split at hD
    · rename_i c d cd' sl ho
      cases hD
      exact ⟨_, X1 _ _ ho, rfl⟩
    · cases hD
  refine PySem.ks_wpAny_isType_cls hD1 hD2 ⟨rfl, ?_⟩
  refine PySem.ks_wpAny_call_super hD1 hD2 J.at_ J.cls (fun c ec => ?_) (PySem.W.looks_mroIn X1 U.sub) (fun h2 hso k2 => ?_)
  · have := J.no
    unfold PySem.W.notCls at this
    rw [ec] at this
    exact Bool.noConfusion this
  have I2 : Inv (cxS P w K mg base N qual scope f (.ref cda) cc A outer s H) [(h1.objs.size, PySem.W.ks_superObj D a C)] (L2.start N (.ref a :: ws)) H { s with heap := h2, toks := s.toks + (ps.zip us).length } := ClX.pin_new (s := { s with heap := h1, toks := s.toks + (ps.zip us).length }) I k2 (Nat.le_refl _) hso (fun v z => nomatch z)
  obtain ⟨odd2, J2, _⟩ := (ins_get I2.hok hins).choose_spec.1.look
  obtain ⟨og, hg1, hg2⟩ : ∃ of, h2.get? g = some of ∧ of.cls = .type "function" := by
    have ht' : (K.lookup g).map (·.cls) = some (.type "function") := U.ty
    cases z : K.lookup g with
    | none => rw [z] at ht'; cases ht'
    | some of => rw [z] at ht'; exact ⟨of, k2 _ _ (X1 _ _ z), Option.some.inj ht'⟩
  have X2 : K.In h2 := X1.keeps k2
  have hmet : PySem.W.alongIn K m ((cdC.mro.dropWhile (· != .ref D)).drop 1) = some (some (.ref g)) := by
    have := U.met
    unfold PySem.W.ks_superIn at this
    rw [hC] at this
    exact this
  refine PySem.ks_wpAny_getMethod_super hso (PySem.W.looks_opaque X2 U.tp) (l₀ := cdC.mro) (fun A Q E s k q => wpAny_bind ((PySem.W.looks_clsIn X2 hC) A _ E s k (wpAny_pure q))) rfl X2 hmet hg1 hg2 (PySem.W.ks_ne X2 J2 hC) hat ?_
  have I3 := ClX.met_new (g := g) (C := a) I2
  refine wpAny_mono (E := fun _ _ => False) (Q := EP (cxS P w K mg base N qual scope f (.ref cda) cc A outer s H) [(h1.objs.size, PySem.W.ks_superObj D a C)] (L2.start N (.ref a :: ws)) (fun _ H2 => tr { nx := fun _ H' => Q .non H', rt := Q } (L2.start N (.ref a :: ws)) H2))
    (ClX.callwith_cm I3 (ClX.base_none I2 (Nat.le_refl _)) U.fi (thn (hpa.run cpos _ _ _ H _ I3 hq) fun us2 s3 ⟨vs2, H2, I4, rv, q2⟩ => ⟨⟨ClX.pin_at I4, I4.kIn⟩, ClX.run_cm GR (hr.deeper _) pass0 I4 rv q2⟩) (hst _) (hpl _)) (fun u s4 ⟨v, H3, I5, _, q3⟩ => ?_) fun e s' z => z.elim
  refine wpAt_of_wpAny (wpAny_mono (E := fun _ _ => False) (hpr.run _ s4 _ H3 _ I5 q3) (fun fl s' hs => ?_) fun e s' z => z.elim)
  have fin : ∀ {σ' : L2.St} {H' : Hp} {v : V} {u : Value}, Inv (cxS P w K mg base N qual scope f (.ref cda) cc A outer s H) [(h1.objs.size, PySem.W.ks_superObj D a C)] σ' H' s' → RelV v u → Q v H' → CE outer P w H s Q u s' :=
    fun {σ' H' v u} J rv q => ⟨v, H', J.os, J.bare, J.base, J.hok, rv, q⟩
  cases fl with
  | ret u =>
    obtain ⟨v, σ', H', J, rv, q⟩ := hs
    exact fin J rv q
  | next =>
    obtain ⟨σ', H', J, q⟩ := hs
    exact fin (v := V.non) (u := Value.none) J rfl q
  | brk =>
    obtain ⟨_, _, _, q⟩ := hs
    exact False.elim q
  | cont =>
    obtain ⟨_, _, _, q⟩ := hs
    exact False.elim q
end Sm
set_option maxHeartbeats 4000000
/-! Sm14: an __init__ that begins with super().__init__(..), on data. -/
namespace Sm
open PySem PySem.Spec PyProof.Rows L2

/-- such a def of the text -/
structure FunS (K : PySem.W.Frag) (x qual : Str) (st : Stmt) (f : Addr) (fd : FuncData) (cc cda : Addr) : Prop where
  ex : ∃ (oc : Value) (od : Option Addr) (dV kV doc pm : Value) (an : Option Addr) (ct : Value) (osl : Array (Option Value)),
    fd = PySem.W.ksFn x qual (defArgs st) (defBody st) (defScope st) dV kV doc pm an (.ref cda) ct cc ∧ K.lookup f = some ⟨oc, od, .func fd, osl⟩ ∧ PySem.W.codeIn K (.ref cda) qual = true
theorem fn_initS {P : Program} {w : World} {K : PySem.W.Frag} {mg : Str → Option Value} {base : Heap} {k : Nat} {f C B g cc cda : Addr} {fd gd : FuncData} {psg : List Str} {x qual m : Str} {st : Stmt} {rest : List Stmt}
    {N ps : List Str} {φ ψ : List D → (Addr → List (Str × D)) → Prop} {ar : Arg} {e : Expr} {es : List Expr} {p0 p1 apos cpos spos : Pos}
    (F : FunS K x qual st f fd cc cda) (hst0 : defBody st = .Expr (.Call (.Attribute (.Call (.Name "super" p0) [] [] p1) m apos) (e :: es) [] cpos) spos :: rest) (S : SScope N ps (defScope st))
    (U : SupF P K mg C B m g cc cda) (har : ((defArgs st).posonlyargs ++ (defArgs st).args).head? = some ar) (hN0 : N[0]? = some ar.arg) (hps : ps[0]? = some ar.arg) (len : ∀ ds fs, φ ds fs → ds.length + 1 = ps.length)
    (G : FnOk P w K mg base CX0 k g gd psg (spIN P w K C ψ)) (bG : Binds K gd psg [])
    (hpl : ∀ (L : Addr), (backTo cpos (starEach es (envS qual (defScope st) L f (.ref cda) cc))).any (·.1) = false) (hsw : ∀ (L : Addr), swapsWith (.Call (.Attribute (.Call (.Name "super" p0) [] [] p1) m apos) (e :: es) [] cpos) none spos.line (envS qual (defScope st) L f (.ref cda) cc) = pure false)
    (hst : ∀ (L : Addr), starEach (e :: es) (envS qual (defScope st) L f (.ref cda) cc) = (false, eval e (envS qual (defScope st) L f (.ref cda) cc)) :: starEach es (envS qual (defScope st) L f (.ref cda) cc))
    (pl : Sem Bool) (hev : ∀ (L : Addr), eval (.Call (.Attribute (.Call (.Name "super" p0) [] [] p1) m apos) (e :: es) [] cpos) (envS qual (defScope st) L f (.ref cda) cc) = (do
      let ov ← attributeBase (.Call (.Name "super" p0) [] [] p1) m (envS qual (defScope st) L f (.ref cda) cc) (eval (.Call (.Name "super" p0) [] [] p1) (envS qual (defScope st) L f (.ref cda) cc))
      standAt apos.atName
      let (fg, first) ← holding [ov] (getMethod ov m pl)
      callWith cpos fg first (backTo cpos (starEach (e :: es) (envS qual (defScope st) L f (.ref cda) cc))) []))
    (hbody : ∀ (A : Around) (outer : List Env) (s : Shared) (H : Hp), Room k (A.deeper (envS qual (defScope st) s.heap.objs.size f (.ref cda) cc)) → ∀ ds fs, φ ds fs → ∃ ds2 fs2, ψ ds2 fs2 ∧ ∀ a,
      ES (cxS P w K mg base N qual (defScope st) f (.ref cda) cc A outer s H) (st0 N (.adr a :: ds)) (e :: es) ds2 ∧ ∀ Hb0 H0 d,
      EB (cxS P w K mg base N qual (defScope st) f (.ref cda) cc A outer s H) (FramI K (FrC (GN K P w d fun xs => xs = []) d (Xt Hb0 H0)) a C (fs2 d)) (st0 N (.adr a :: ds)) rest (fun _ Hb H => FramI K (FrC (GN K P w d fun xs => xs = []) d (Xt Hb0 H0)) a C (fs d) Hb H) (fun _ _ _ => False) No No)
    (hat : (m == ("__class__" : Str)) = false := by decide) (hi : ∀ (L : Addr), interactive (envS qual (defScope st) L f (.ref cda) cc) = false := by exact fun _ => rfl) :
    FnOk P w K mg base CX0 (k + 1) f fd ps (spIN P w K C φ) := by
  obtain ⟨oc, od, dV, kV, doc, pm, an, ct, osl, rfl, lk, hcd⟩ := F.ex
  have e0 : defBody st = _ := hst0
  rw [hst0] at lk ⊢
  refine fnS_of (spG := spIN P w K C ψ) lk hcd S U har hN0 hps (fun vs H Q E ⟨Hb, a, dx, us, ds, fs, h1, _, _, _, h5, h6, _⟩ => by rw [h1, List.length_cons, h5.length]; exact len ds fs h6) G bG hpl hsw hst pl hev (fun A outer s H vs Q E hr ⟨Hb, a, dx, us, ds, fs, h1, h2, h3, h4, h5, h6, h7⟩ => ?_) hat hi
  subst h1
  obtain ⟨ds2, fs2, hψ, hb⟩ := hbody A outer s H hr ds fs h6
  obtain ⟨⟨ta, hp, q⟩, hB⟩ := hb a
  have w0 : FramI K (Xt Hb (hid H a)) a C [] Hb H := ⟨h3, ⟨dx, [], h4, isF_nil.mpr rfl⟩, .refl (ex_hid h2 h3)⟩
  have I0 : IsE K Hb (L2.start N (.ref a :: us)) (st0 N (.adr a :: ds)) := start_is (isL_cons.mpr ⟨_, _, rfl, is_adr.mpr rfl, h5⟩)
  refine ⟨a, dx, [], us, ta, _, rfl, h4, hp, pss_sm, q Hb H _ h2 I0 _ fun vs2 H1 Hb1 x1 q1 => ?_⟩
  obtain ⟨c1, ⟨dx2, ys, c2, c3⟩, c4⟩ : FramI K (Xt Hb (hid H a)) a C [] Hb1 H1 := Stb.st w0 x1
  rw [isF_nil.mp c3] at c2
  refine ⟨Hb1, a, dx2, vs2, ds2, fs2, rfl, x1.in_, c1, c2, q1, hψ, fun Hb' H' d e3 wv => ?_⟩
  have ebb : Evl.Ex Hb1 Hb' := by
    obtain ⟨_, _, _, _, _, x5⟩ := wv
    exact x5.b
  refine (hB Hb1 (hid H1 a) d Hb' H' _ e3 ((I0.mono x1.b).mono ebb) wv).mono (fun σ H'' ⟨ρ', Hb'', a1, a2, a3, a4⟩ => ?_) (fun v H'' ⟨d', Hb'', a1, a2, a3, z⟩ => z.elim) (fun σ H'' ⟨ρ', Hb'', a1, a2, a3, z⟩ => z.elim) fun σ H'' ⟨ρ', Hb'', a1, a2, a3, z⟩ => z.elim
  obtain ⟨f1, f2, f3, f4, f5, f6⟩ := a4
  exact h7 Hb'' H'' d a2 ⟨f1, f2, f3, f4, f5, c4.trans f6⟩
end Sm
set_option maxHeartbeats 4000000
/-! Sm15: lists that a def changes; None or a number; chains of comparisons. -/
namespace Sm
open PySem PySem.Spec PyProof.Rows L2

/-! ### None or a whole number -/
abbrev oI : Option Int → D
  | none => .non
  | some i => .int i
def Eqd.opt : Eqd oI where
  py o := match o with | none => .none | some i => .int i
  dp {K H x v} h := by
    cases x with
    | none => rw [is_non.mp h]; exact .non
    | some i => rw [is_int.mp h]; exact .int _
  eq x y := by cases x <;> cases y <;> simp [PyData.eqv]
  lay x := by cases x <;> simp [PyData.canLay0]
  dep := 0
  hdep x := by cases x <;> simp [PyData.depth]
section
variable {X : Cx} {W : As} {ρ : En} {a b c e o : Expr} {es : List Expr} {d : D} {ds : List D} {pos p apos cpos : Pos} {i j k : Int} {r r' : R2} {op op' : CmpOp}
/-! ### a < b < c -/
theorem ed_chain {b1 b2 : Bool} {d1 d2 d3 : D} (ho : OpR X (compareOp op) r) (ho' : OpR X (compareOp op') r') (ha : ED X ρ a d1) (hb : ED X ρ b d2) (hc : ED X ρ c d3) (h1 : R2D X.K r d1 d2 (.bl b1)) (h2 : R2D X.K r' d2 d3 (.bl b2))
    (hm : lastMarks [op, op'] [b, c] = false := by with_unfolding_all rfl) : ED X ρ (.Compare a [op, op'] [b, c] pos) (.bl (b1 && b2)) := fun Hb H σ x I => by
  refine .of (pe_chain ho ho' pe_sm pe_sm pe_sm hm) ?_
  refine (ha Hb H σ x I).mono fun v H1 ⟨Hb1, x1, q1⟩ => (hb Hb1 H1 σ x1.in_ (I.mono x1.b)).mono fun u H2 ⟨Hb2, x2, q2⟩ => ?_
  refine h1 Hb2 H2 v u x2.in_ (q1.mono x2.b) q2 _ fun z H3 ⟨Hb3, x3, q3⟩ => ⟨b1, is_bl.mp q3, ?_⟩
  cases b1 with
  | false => exact iteF ⟨Hb3, x1.trans (x2.trans x3), is_bl.mpr rfl⟩
  | true =>
    refine iteT ((hc Hb3 H3 σ x3.in_ (((I.mono x1.b).mono x2.b).mono x3.b)).mono fun y H4 ⟨Hb4, x4, q4⟩ => ?_)
    refine h2 Hb4 H4 u y x4.in_ ((q2.mono x3.b).mono x4.b) q4 _ fun z H5 ⟨Hb5, x5, q5⟩ => ⟨Hb5, x1.trans (x2.trans (x3.trans (x4.trans x5))), ?_⟩
    exact q5
theorem et_chain {b1 b2 : Bool} {d1 d2 d3 : D} (ho : OpR X (compareOp op) r) (ho' : OpR X (compareOp op') r') (ha : ED X ρ a d1) (hb : ED X ρ b d2) (hc : ED X ρ c d3) (h1 : R2D X.K r d1 d2 (.bl b1)) (h2 : R2D X.K r' d2 d3 (.bl b2))
    (hm : lastMarks [op, op'] [b, c] = false := by with_unfolding_all rfl) : ET X ρ (.Compare a [op, op'] [b, c] pos) (b1 && b2) := fun Hb H σ x I => by
  refine .of (pt_chain ho ho' pe_sm pe_sm pe_sm hm) ?_
  refine (ha Hb H σ x I).mono fun v H1 ⟨Hb1, x1, q1⟩ => (hb Hb1 H1 σ x1.in_ (I.mono x1.b)).mono fun u H2 ⟨Hb2, x2, q2⟩ => ?_
  refine h1 Hb2 H2 v u x2.in_ (q1.mono x2.b) q2 _ fun z H3 ⟨Hb3, x3, q3⟩ => ⟨b1, is_bl.mp q3, ?_⟩
  cases b1 with
  | false => exact iteF ⟨false, rfl, rfl, Hb3, x1.trans (x2.trans x3)⟩
  | true =>
    refine iteT ((hc Hb3 H3 σ x3.in_ (((I.mono x1.b).mono x2.b).mono x3.b)).mono fun y H4 ⟨Hb4, x4, q4⟩ => ?_)
    refine h2 Hb4 H4 u y x4.in_ ((q2.mono x3.b).mono x4.b) q4 _ fun z H5 ⟨Hb5, x5, q5⟩ => ⟨b2, is_bl.mp q5, rfl, Hb5, x1.trans (x2.trans (x3.trans (x4.trans x5)))⟩
end
/-! ### lists that change -/
/-- without objects -/
def Sc (d : D) : Prop := ∀ (K : PySem.W.Frag) (H H' : Hp) (v : V), Is K H d v → Is K H' d v
theorem sc_int {i : Int} : Sc (.int i) := fun K H H' v h => is_int.mpr (is_int.mp h)
theorem sc_bl {i : Bool} : Sc (.bl i) := fun K H H' v h => is_bl.mpr (is_bl.mp h)
theorem sc_non : Sc .non := fun K H H' v h => is_non.mpr (is_non.mp h)
theorem IsE.known {K : PySem.W.Frag} {H : Hp} {σ : L2.St} {ρ : En} {i : Nat} {v : V} {d : D} (h : IsE K H σ ρ) (hv : σ[i]? = some (some v)) (g : Is K H d v) : IsE K H σ (ρ.set i (some d)) := by
  have : σ.set i (some v) = σ := by
    apply List.ext_getElem?
    intro j
    by_cases e : i = j
    · subst e
      have hi : i < σ.length := (List.getElem?_eq_some_iff.mp hv).1
      rw [List.getElem?_set_self hi, hv]
    · rw [List.getElem?_set_ne e]
  have q := h.set i g
  rwa [this] at q
section
variable {X : Cx} {W : As} {ρ : En} {a b c e o : Expr} {es : List Expr} {d : D} {ds : List D} {pos p apos cpos : Pos} {l : Addr} {fs : List D} {rest : List Stmt} {N : En → As} {R : D → As} {B C : En → As} {x : Str} {P : D → Prop}
theorem frz {K : PySem.W.Frag} {Hb H Hb2 H2 : Hp} [Stb W] {ys : List V} (h1 : Hb l = none) (h2 : H l = some (.lst ys)) (h3 : IsL K Hb fs ys) (h4 : W Hb (hid H l)) (x : Xt (upd Hb l (.lst ys)) H Hb2 H2) :
    Evl.Ex Hb (hid Hb2 l) ∧ Evl.Ex (hid Hb2 l) H2 ∧ Fram K W l fs (hid Hb2 l) H2 := by
  have eb : Evl.Ex Hb (hid Hb2 l) := fun q o z => by
    have ne : q ≠ l := fun y => by rw [y, h1] at z; cases z
    rw [hid_ne ne]
    exact x.b q o (by rw [upd_ne ne]; exact z)
  refine ⟨eb, hid_ex.trans x.in_, hid_same, ⟨ys, x.h _ _ h2, h3.mono eb⟩, Stb.st h4 ⟨fun q o z => ?_, eb, fun q o z => ?_, fun q z1 z2 => ?_⟩⟩
  · have ne : q ≠ l := fun y => by rw [y, hid_same] at z; cases z
    rw [hid_ne ne] at z ⊢
    exact x.h q o z
  · have ne : q ≠ l := fun y => by rw [y, hid_same] at z; cases z
    rw [hid_ne ne] at z ⊢
    exact x.in_ q o z
  · have ne : q ≠ l := fun y => z1 (by rw [y, hid_same])
    rw [hid_ne ne] at z1 ⊢
    exact x.new q z1 (by rw [upd_ne ne]; exact z2)
/-- what is read of the list, while it stands -/
theorem ew_frz [Stb W] (i : Nat) (h : ED X (ρ.set i (some (.lst fs))) e d) (hs : Sc d) (hi : ρ[i]? = some (some (.adr l)) := by rfl) : EW X (Fram X.K W l fs) ρ e (· = d) := fun Hb H σ x I ⟨h1, ⟨ys, h2, h3⟩, h4⟩ => by
  obtain ⟨v, e1, e2⟩ := I.at_ i _ hi
  rw [is_adr.mp e2] at e1
  have x1 : Evl.Ex (upd Hb l (.lst ys)) H := fun q o z => by
    by_cases y : q = l
    · rw [y, upd_same] at z; rw [y, h2]; exact z
    · rw [upd_ne y] at z; exact x q o z
  have eb : Evl.Ex Hb (upd Hb l (.lst ys)) := Evl.Ex.new h1
  refine (h _ H σ x1 ((I.mono eb).known e1 (is_lst.mpr ⟨l, ys, rfl, upd_same, h3.mono eb⟩))).mono fun v H2 ⟨Hb2, x2, q2⟩ => ?_
  obtain ⟨z1, z2, z3⟩ := frz (W := W) h1 h2 h3 h4 x2
  exact ⟨_, d, z1, z2, z3, rfl, hs _ _ _ _ q2⟩
theorem tw_frz {u : Bool} [Stb W] (i : Nat) (h : ET X (ρ.set i (some (.lst fs))) e u) (hi : ρ[i]? = some (some (.adr l)) := by rfl) : TW X (Fram X.K W l fs) ρ e (· = u) := fun Hb H σ x I ⟨h1, ⟨ys, h2, h3⟩, h4⟩ => by
  obtain ⟨v, e1, e2⟩ := I.at_ i _ hi
  rw [is_adr.mp e2] at e1
  have x1 : Evl.Ex (upd Hb l (.lst ys)) H := fun q o z => by
    by_cases y : q = l
    · rw [y, upd_same] at z; rw [y, h2]; exact z
    · rw [upd_ne y] at z; exact x q o z
  have eb : Evl.Ex Hb (upd Hb l (.lst ys)) := Evl.Ex.new h1
  refine (h _ H σ x1 ((I.mono eb).known e1 (is_lst.mpr ⟨l, ys, rfl, upd_same, h3.mono eb⟩))).mono fun v H2 ⟨q2, Hb2, x2⟩ => ?_
  obtain ⟨z1, z2, z3⟩ := frz (W := W) h1 h2 h3 h4 x2
  exact ⟨_, z1, z2, z3, q2⟩
/-- it changes no more -/
theorem eb_frz [Stb W] (i : Nat) (k : EB X W (ρ.set i (some (.lst fs))) rest N R B C) (hi : ρ[i]? = some (some (.adr l)) := by rfl) : EB X (Fram X.K W l fs) ρ rest N R B C := fun Hb H σ x I w => by
  obtain ⟨v, e1, e2⟩ := I.at_ i _ hi
  rw [is_adr.mp e2] at e1
  obtain ⟨Hb', y1, y2, y3, y4⟩ := w.done x
  exact EbD.widen y1 (k Hb' H σ y2 ((I.mono y1).known e1 y4) y3)
/-- x = [e, ..] -/
theorem eb_newL (i : Nat) (hN : X.N.Nodup) [Stb W] (hs : ES X ρ es ds) (hz : ds.length ≤ sizeLine) (k : ∀ l, EB X (Fram X.K W l ds) (ρ.set i (some (.adr l))) rest N R B C) (hi : X.N[i]? = some x := by rfl) (hx : Loc X.env.scope x := by first | exact Or.inl rfl | exact Or.inr rfl)
    (hsw : swapsWith (.List es p) (some (.Name x apos)) pos.line X.env = pure false := by rfl) (hf : X.fn x = true ∨ X.env.scope.names.lookup x = some .local := by first | exact .inl rfl | exact .inr rfl) : EB X W ρ (.Assign [.Name x apos] (.List es p) pos :: rest) N R B C := by
  refine eb_st (N1 := fun ρ' Hb H => ∃ l, ρ' = ρ.set i (some (.adr l)) ∧ Fram X.K W l ds Hb H) (ps_set hN hi hx pe_sm hsw hf) (fun Hb H σ x1 I w Nx kk => ?_) fun ρ' Hb H σ x I ⟨l, e, w⟩ => by subst e; exact k l Hb H σ x I w
  obtain ⟨ta, hp, q⟩ := hs
  refine SmE.of (pe_lst hp) (q Hb H σ x1 I _ fun vs H1 Hb1 x2 q1 => ⟨by rw [q1.length]; exact hz, fun l hl => ?_⟩)
  have w1 : W Hb1 H1 := Stb.st w x2
  have hb : Hb1 l = none := Evl.fresh_back x2.in_ hl
  refine kk _ _ _ Hb1 x2.b (Evl.Ex.mut x2.in_ hb) ((I.mono x2.b).set i (is_adr.mpr rfl)) ⟨l, rfl, hb, ⟨vs, upd_same, q1⟩, ?_⟩
  rw [hid_upd, hid_of_none hl]
  exact w1
/-- x.append(e) -/
theorem eb_appW [Stb W] (he : EW X (Fram X.K W l fs) ρ e P) (hz : fs.length < sizeLine) (ho : ED X ρ o (.adr l)) (k : ∀ d, P d → EB X (Fram X.K W l (fs ++ [d])) ρ rest N R B C)
    (hbase : attributeBase o "append" X.env (eval o X.env) = eval o X.env := by rfl)
    (hfew : ((backTo cpos (starEach [e] X.env)).all (fun x => !x.1) && (backToKw cpos (keywordEach [] X.env)).all (fun x => x.1.isSome)
      && decide ([e].length + ([] : List Keyword).length + (if ([] : List Keyword).isEmpty then 0 else 1) < 30)) = true := by rfl)
    (hline : (apos.endLine == cpos.line) = true := by rfl) (hs : starEach [e] X.env = (false, eval e X.env) :: starEach [] X.env := by rfl) (hpl : (backTo cpos (starEach [] X.env)).any (·.1) = false := by rfl) (hsw : swapsWith (.Call (.Attribute o "append" apos) [e] [] cpos) none pos.line X.env = pure false := by rfl) :
    EB X (Fram X.K W l fs) ρ (.Expr (.Call (.Attribute o "append" apos) [e] [] cpos) pos :: rest) N R B C := by
  refine eb_st (N1 := fun ρ' Hb H => ∃ d, P d ∧ ρ' = ρ ∧ Fram X.K W l (fs ++ [d]) Hb H) (ps_expr (pe_bm PySem.F.plainAttrs_list PySem.F.slot_list_append PySem.F.type_list_append (mt_append : MtR X "list.append" rAppend) pe_sm (pa_cons pe_sm pa_nil hs) hbase hfew hline hs hpl) hsw) (fun Hb H σ x1 I w Nx kk => ?_) fun ρ' Hb H σ x I ⟨d, hd, e, w⟩ => by subst e; exact k d hd Hb H σ x I w
  refine (ho Hb H σ x1 I).mono fun v H1 ⟨Hb1, x2, q1⟩ => ?_
  obtain rfl := is_adr.mp q1
  have w1 : Fram X.K W l fs Hb1 H1 := Stb.st w x2
  refine ⟨.inl ⟨rfl, w1.2.1.choose, SqL.of w1.2.1.choose_spec.1⟩, ?_⟩
  refine (he Hb1 H1 σ x2.in_ (I.mono x2.b) w1).mono fun u H2 ⟨Hb2, d, a1, a2, a3, a4, a5⟩ => ?_
  obtain ⟨b1, ⟨ys, b2, b3⟩, b4⟩ := id a3
  exact ⟨l, ys, u, rfl, rfl, b2, by rw [b3.length]; exact hz, kk _ _ ρ Hb2 (x2.b.trans a1) (Evl.Ex.mut a2 b1) ((I.mono x2.b).mono a1) ⟨d, a4, rfl, a3.put (b3.snoc a5)⟩⟩
end
end Sm
set_option maxHeartbeats 4000000
/-! Sm16: new lists, items set, extend, while, two names at once. -/
namespace Sm
open PySem PySem.Spec PyProof.Rows L2

section
variable {X : Cx} {W : As} {ρ : En} {a b c e o i : Expr} {es : List Expr} {d : D} {ds : List D} {pos p p2 pos2 apos cpos pt px py pt2 : Pos} {l : Addr} {fs : List D} {rest body : List Stmt} {N : En → As} {R : D → As} {B C : En → As} {x y : Str} {P Q Z : D → Prop} {kt k2 : Nat}
/-- a new list that nothing else knows -/
def EN (X : Cx) (ρ : En) (e : Expr) (ds : List D) : Prop := ∀ Hb H σ, Evl.Ex Hb H → IsE X.K Hb σ ρ → SmE X e σ H fun v H' => ∃ l Hb' H1 ys, v = .ref l ∧ Xt Hb H Hb' H1 ∧ H1 l = none ∧ H' = upd H1 l (.lst ys) ∧ IsL X.K Hb' ds ys
theorem en_fram [Stb W] {Hb H Hb' H1 H' : Hp} {ys : List V} {K : PySem.W.Frag} (w : W Hb H) (x : Xt Hb H Hb' H1) (hl : H1 l = none) (e : H' = upd H1 l (.lst ys)) (h : IsL K Hb' ds ys) : Evl.Ex Hb' H' ∧ Fram K W l ds Hb' H' := by
  subst e
  have hb : Hb' l = none := Evl.fresh_back x.in_ hl
  refine ⟨Evl.Ex.mut x.in_ hb, hb, ⟨ys, upd_same, h⟩, ?_⟩
  rw [hid_upd, hid_of_none hl]
  exact Stb.st w x
theorem en_lst (h : ES X ρ es ds) (hz : ds.length ≤ sizeLine) : EN X ρ (.List es pos) ds := fun Hb H σ x I => by
  obtain ⟨ta, hp, q⟩ := h
  exact .of (pe_lst hp) (q Hb H σ x I _ fun vs H1 Hb1 x2 q1 => ⟨by rw [q1.length]; exact hz, fun l hl => ⟨l, Hb1, H1, vs, rfl, x2, hl, rfl, q1⟩⟩)
theorem en_listRg {n : Nat} (hc : X.calm = true) (g : X.mg "list" = none) (g2 : X.mg "range" = none) (h : ED X ρ e (.int (n : Int))) (hn : n ≤ 1000) (hg : Gl X "list" := by rfl) (hg2 : Gl X "range" := by rfl) (na : starEach [e] X.env = (false, eval e X.env) :: starEach [] X.env := by rfl)
    (na2 : starEach [.Call (.Name "range" p2) [e] [] pos2] X.env = (false, eval (.Call (.Name "range" p2) [e] [] pos2) X.env) :: starEach [] X.env := by rfl) : EN X ρ (.Call (.Name "list" p) [.Call (.Name "range" p2) [e] [] pos2] [] pos) ((List.range n).map fun i : Nat => .int (i : Int)) := fun Hb H σ x I =>
  .of (pe_listRg hc hg g (prg_1 hg2 g2 pe_sm na) na2) ((h Hb H σ x I).mono fun v H1 ⟨Hb1, x1, q⟩ => ⟨n, is_int.mp q, .of_le (by omega) (by omega) (by omega) (by omega), fun l hl => ⟨l, Hb1, H1, _, rfl, x1, hl, rfl, isL_rg n⟩⟩)
theorem en_listL (g : X.mg "list" = none) (h : ED X ρ e (.lst ds)) (hg : Gl X "list" := by rfl) (he : starEach [e] X.env = (false, eval e X.env) :: starEach [] X.env := by rfl) : EN X ρ (.Call (.Name "list" p) [e] [] pos) ds := fun Hb H σ x I => by
  obtain ⟨ta, hp, q⟩ := es_cons h es_nil he
  refine .of (pe_callTy call_list_of hg g (by decide +kernel) hp (by decide) (by decide) he) (q Hb H σ x I _ fun vs H1 Hb1 x2 q1 => ?_)
  obtain ⟨v, rfl, h1⟩ := es_one q1
  obtain ⟨t, ws, rfl, ha, hw⟩ := is_lst.mp h1
  exact ⟨t, ws, rfl, .inl (SqL.of (x2.in_ _ _ ha)), fun l hl => ⟨l, Hb1, H1, ws, rfl, x2, hl, rfl, hw⟩⟩
theorem isL_rep {K : PySem.W.Frag} {H : Hp} {v : V} (h : Is K H d v) : ∀ n, IsL K H (List.replicate n d) (List.replicate n [v]).flatten
  | 0 => isL_nil.mpr rfl
  | n + 1 => by rw [List.replicate_succ, List.replicate_succ, List.flatten_cons]; exact isL_cons.mpr ⟨v, _, rfl, h, isL_rep h n⟩
/-- [e] * n -/
theorem en_rep {n : Nat} (ha : ED X ρ a d) (hb : ED X ρ b (.int (n : Int))) (hz : n ≤ 1000) (hs : starEach [a] X.env = (false, eval a X.env) :: starEach [] X.env := by rfl) : EN X ρ (.BinOp (.List [a] p) .Mult b pos) (List.replicate n d) := fun Hb H σ x I => by
  refine .of (pe_op op_rep pe_sm pe_sm) ((ed_lst (es_cons ha es_nil hs) (Nat.le_of_lt (small1000 (by simp))) Hb H σ x I).mono fun v H1 ⟨Hb1, x1, q1⟩ => (hb Hb1 H1 σ x1.in_ (I.mono x1.b)).mono fun w H2 ⟨Hb2, x2, q2⟩ => ?_)
  obtain ⟨t, ws, rfl, ha, hw⟩ := is_lst.mp q1
  obtain ⟨v, rfl, hv⟩ := es_one hw
  rw [is_int.mp q2]
  refine ⟨t, n, [v], rfl, rfl, x2.in_ _ _ (x2.b _ _ ha), by omega, by omega, ?_, fun l hl => ⟨l, Hb2, H2, _, rfl, x1.trans x2, hl, rfl, ?_⟩⟩
  · rw [Int.toNat_natCast]
    exact Nat.le_of_lt (small1000 (by simp; omega))
  · rw [Int.toNat_natCast]
    exact isL_rep (hv.mono x2.b) n
/-- x = e, e a new list -/
theorem eb_newN (j : Nat) (hN : X.N.Nodup) [Stb W] (he : EN X ρ e ds) (k : ∀ l, EB X (Fram X.K W l ds) (ρ.set j (some (.adr l))) rest N R B C) (hi : X.N[j]? = some x := by rfl) (hx : Loc X.env.scope x := by first | exact Or.inl rfl | exact Or.inr rfl)
    (hsw : swapsWith e (some (.Name x apos)) pos.line X.env = pure false := by rfl) (hf : X.fn x = true ∨ X.env.scope.names.lookup x = some .local := by first | exact .inl rfl | exact .inr rfl) : EB X W ρ (.Assign [.Name x apos] e pos :: rest) N R B C := by
  refine eb_st (N1 := fun ρ' Hb H => ∃ l, ρ' = ρ.set j (some (.adr l)) ∧ Fram X.K W l ds Hb H) (ps_set hN hi hx pe_sm hsw hf) (fun Hb H σ x1 I w Nx kk => ?_) fun ρ' Hb H σ x I ⟨l, e, w⟩ => by subst e; exact k l Hb H σ x I w
  refine (he Hb H σ x1 I).mono fun v H' ⟨l, Hb', H1, ys, ev, x2, hl, eh, h⟩ => ?_
  subst ev
  obtain ⟨z1, z2⟩ := en_fram (W := W) w x2 hl eh h
  exact kk _ _ _ Hb' x2.b z1 ((I.mono x2.b).set j (is_adr.mpr rfl)) ⟨l, rfl, z2⟩
/-- return e, e a new list -/
theorem eb_retN [Stb W] (he : EN X ρ e ds) (k : ∀ l Hb H, Fram X.K W l ds Hb H → R (.adr l) Hb H) : EB X W ρ (.Return (some e) pos :: rest) N R B C := fun Hb H σ x I w =>
  eb_cons (Nx := fun _ _ => False) Hb (.of (ps_ret pe_sm) ((he Hb H σ x I).mono fun v H' ⟨l, Hb', H1, ys, ev, x2, hl, eh, h⟩ => by
    subst ev
    obtain ⟨z1, z2⟩ := en_fram (W := W) w x2 hl eh h
    exact ⟨.adr l, Hb', x2.b, z1, is_adr.mpr rfl, k l _ _ z2⟩)) fun _ _ z => z.elim
/-- x[i] = e -/
theorem eb_putW {n : Nat} [Stb W] (he : EW X (Fram X.K W l fs) ρ e P) (ho : ED X ρ o (.adr l)) (hi : ED X ρ i (.int (n : Int))) (hn : n < fs.length) (k : ∀ d, P d → EB X (Fram X.K W l (fs.set n d)) ρ rest N R B C)
    (hs : swapsWithSole [.Subscript o i p] e pos.line X.env = pure false := by rfl) (hw : swappedStores [.Subscript o i p] e X.env = pure none := by rfl) (h1 : (assignEach [.Subscript o i p] X.env).map (·.2) = [assign (.Subscript o i p) X.env] := by rfl)
    (ha : ∀ v, assign (.Subscript o i p) X.env v = (do
      let ov ← holding [v] (eval o X.env)
      let iv ← holding [v, ov] (eval i X.env)
      standAt p
      holding [v, ov, iv] (setItem ov iv v)
      release [v, ov, iv] []) := by intro _; rfl) :
    EB X (Fram X.K W l fs) ρ (.Assign [.Subscript o i p] e pos :: rest) N R B C := by
  refine eb_st (N1 := fun ρ' Hb H => ∃ d, P d ∧ ρ' = ρ ∧ Fram X.K W l (fs.set n d) Hb H) (ps_asg pe_sm (pg_sub pe_sm pe_sm set_list ha) hs hw h1) (fun Hb H σ x1 I w Nx kk => ?_) fun ρ' Hb H σ x I ⟨d, hd, e, w⟩ => by subst e; exact k d hd Hb H σ x I w
  refine (he Hb H σ x1 I w).mono fun v H1 ⟨Hb1, d, a1, a2, a3, a4, a5⟩ => (ho Hb1 H1 σ a2 (I.mono a1)).mono fun u H2 ⟨Hb2, x2, q2⟩ => (hi Hb2 H2 σ x2.in_ ((I.mono a1).mono x2.b)).mono fun z H3 ⟨Hb3, x3, q3⟩ => ?_
  obtain rfl := is_adr.mp q2
  obtain rfl := is_int.mp q3
  have w3 : Fram X.K W l fs Hb3 H3 := Stb.st a3 (x2.trans x3)
  obtain ⟨b1, ⟨ys, b2, b3⟩, b4⟩ := id w3
  refine ⟨l, ys, n, n, rfl, rfl, b2, ?_, kk _ _ ρ Hb3 (a1.trans (x2.b.trans x3.b)) (Evl.Ex.mut x3.in_ b1) (((I.mono a1).mono x2.b).mono x3.b) ⟨d, a4, rfl, w3.put (b3.set n ((a5.mono x2.b).mono x3.b))⟩⟩
  unfold ixN
  rw [if_pos (by omega), if_pos (by rw [b3.length]; omega), Int.toNat_natCast]
/-- x.extend(e) -/
theorem eb_extW {es2 : List D} [Stb W] (he : ED X ρ e (.lst es2)) (hz : fs.length + es2.length ≤ sizeLine) (ho : ED X ρ o (.adr l)) (k : EB X (Fram X.K W l (fs ++ es2)) ρ rest N R B C)
    (hbase : attributeBase o "extend" X.env (eval o X.env) = eval o X.env := by rfl)
    (hfew : ((backTo cpos (starEach [e] X.env)).all (fun x => !x.1) && (backToKw cpos (keywordEach [] X.env)).all (fun x => x.1.isSome)
      && decide ([e].length + ([] : List Keyword).length + (if ([] : List Keyword).isEmpty then 0 else 1) < 30)) = true := by rfl)
    (hline : (apos.endLine == cpos.line) = true := by rfl) (hs : starEach [e] X.env = (false, eval e X.env) :: starEach [] X.env := by rfl) (hpl : (backTo cpos (starEach [] X.env)).any (·.1) = false := by rfl) (hsw : swapsWith (.Call (.Attribute o "extend" apos) [e] [] cpos) none pos.line X.env = pure false := by rfl) :
    EB X (Fram X.K W l fs) ρ (.Expr (.Call (.Attribute o "extend" apos) [e] [] cpos) pos :: rest) N R B C := by
  refine eb_st (N1 := fun ρ' Hb H => ρ' = ρ ∧ Fram X.K W l (fs ++ es2) Hb H) (ps_expr (pe_bm PySem.F.plainAttrs_list PySem.F.slot_list_extend PySem.F.type_list_extend (mt_extend : MtR X "list.extend" rExtend) pe_sm (pa_cons pe_sm pa_nil hs) hbase hfew hline hs hpl) hsw) (fun Hb H σ x1 I w Nx kk => ?_) fun ρ' Hb H σ x I ⟨e, w⟩ => by subst e; exact k Hb H σ x I w
  refine (ho Hb H σ x1 I).mono fun v H1 ⟨Hb1, x2, q1⟩ => ?_
  obtain rfl := is_adr.mp q1
  have w1 : Fram X.K W l fs Hb1 H1 := Stb.st w x2
  refine ⟨.inl ⟨rfl, w1.2.1.choose, SqL.of w1.2.1.choose_spec.1⟩, ?_⟩
  refine (he Hb1 H1 σ x2.in_ (I.mono x2.b)).mono fun u H2 ⟨Hb2, x3, q3⟩ => ?_
  have w2 : Fram X.K W l fs Hb2 H2 := Stb.st w1 x3
  obtain ⟨b1, ⟨ys, b2, b3⟩, b4⟩ := id w2
  obtain ⟨t, zs, rfl, ht, hz2⟩ := is_lst.mp q3
  exact ⟨l, t, ys, zs, rfl, rfl, b2, x3.in_ _ _ ht, by rw [b3.length, hz2.length]; exact hz, kk _ _ ρ Hb2 (x2.b.trans x3.b) (Evl.Ex.mut x3.in_ b1) ((I.mono x2.b).mono x3.b) ⟨rfl, w2.put (b3.append hz2)⟩⟩
/-- while c: Iv by what is left -/
theorem eb_while (Iv : Nat → En → As) (hp : PassesOwn (model X.prog X.w) X.A X.env X.xe) (T : Nat → Bool → Prop) (m : Nat) (h0 : ∀ Hb H, W Hb H → Iv m ρ Hb H) (ht : ∀ m ρ', TW X (Iv m ρ') ρ' c (T m))
    (turn : ∀ m, T m true → ∀ ρ', ∃ m', m' < m ∧ EB X (Iv m ρ') ρ' body (Iv m') R No (Iv m')) (k : ∀ m, T m false → ∀ ρ', EB X (Iv m ρ') ρ' rest N R B C) : EB X W ρ (.While c body [] pos :: rest) N R B C := fun Hb H σ x I w => by
  refine eb_cons (Nx := fun σ' H' => ∃ m ρ' Hb', T m false ∧ Evl.Ex Hb Hb' ∧ Evl.Ex Hb' H' ∧ IsE X.K Hb' σ' ρ' ∧ Iv m ρ' Hb' H') Hb (.of (ps_while hp pt_sm pss_sm) ?_) fun σ' H' ⟨m, ρ', Hb', a0, a1, a2, a3, a4⟩ => EbD.widen a1 (k m a0 ρ' Hb' H' σ' a2 a3 a4)
  refine ⟨fun m σ' H' => ∃ ρ' Hb', Evl.Ex Hb Hb' ∧ Evl.Ex Hb' H' ∧ IsE X.K Hb' σ' ρ' ∧ Iv m ρ' Hb' H', ⟨m, ρ, Hb, .refl _, x, I, h0 _ _ w⟩, fun m σ' H' ⟨ρ', Hb', a1, a2, a3, a4⟩ => ?_⟩
  refine (ht m ρ' Hb' H' σ' a2 a3 a4).mono fun u H2 ⟨Hb2, b1, b2, b3, b4⟩ => ?_
  cases u with
  | false => exact iteF ⟨m, ρ', Hb2, b4, a1.trans b1, b2, a3.mono b1, b3⟩
  | true =>
    refine iteT ?_
    obtain ⟨m', lt, hb⟩ := turn m b4 ρ'
    refine ⟨fun σ'' H'' => ∃ ρ'' Hb'', Evl.Ex Hb Hb'' ∧ Evl.Ex Hb'' H'' ∧ IsE X.K Hb'' σ'' ρ'' ∧ Iv m' ρ'' Hb'' H'', fun σ'' H'' q => ⟨m', lt, q⟩, ?_⟩
    have ee := a1.trans b1
    exact (hb Hb2 H2 σ' b2 (a3.mono b1) b3).mono (fun σ3 H3 ⟨ρ3, Hb3, c1, c2, c3, c4⟩ => ⟨ρ3, Hb3, ee.trans c1, c2, c3, c4⟩) (fun v H3 ⟨d, Hb3, c1, c2, c3, c4⟩ => ⟨d, Hb3, ee.trans c1, c2, c3, c4⟩) (fun σ3 H3 ⟨ρ3, Hb3, c1, c2, c3, c4⟩ => c4.elim) fun σ3 H3 ⟨ρ3, Hb3, c1, c2, c3, c4⟩ => ⟨ρ3, Hb3, ee.trans c1, c2, c3, c4⟩
/-- x, y = a, b -/
theorem eb_par (j1 j2 : Nat) {d1 d2 : D} [Stb W] (hc : X.calm = true) (hN : X.N.Nodup) (hs : ES X ρ [a, b] [d1, d2]) (k : EB X W ((ρ.set j1 (some d1)).set j2 (some d2)) rest N R B C) (hi : X.N[j1]? = some x := by rfl) (hj : X.N[j2]? = some y := by rfl) (hij : j1 ≠ j2 := by decide)
    (hx : X.env.scope.names.lookup x = some .local := by rfl) (hy : X.env.scope.names.lookup y = some .local := by rfl) (hw : swappedStores [.Tuple [.Name x px, .Name y py] kt pt] (.Tuple [a, b] k2 pt2) X.env = pure (some [x, y]) := by rfl)
    (hsw : swapsWithSole [.Tuple [.Name x px, .Name y py] kt pt] (.Tuple [a, b] k2 pt2) pos.line X.env = pure false := by rfl) : EB X W ρ (.Assign [.Tuple [.Name x px, .Name y py] kt pt] (.Tuple [a, b] k2 pt2) pos :: rest) N R B C := by
  obtain ⟨ta, hp, q⟩ := hs
  refine eb_st (N1 := fun ρ' Hb H => ρ' = ((ρ.set j1 (some d1)).set j2 (some d2)) ∧ W Hb H) (ps_par hc hN hi hj hij hx hy hp hw hsw) (fun Hb H σ x1 I w Nx kk => ?_) fun ρ' Hb H σ x I ⟨e, w⟩ => by subst e; exact k Hb H σ x I w
  refine q Hb H σ x1 I _ fun vs H1 Hb1 x2 q1 => ?_
  obtain ⟨v, w', rfl, h1, h2⟩ := es_two q1
  exact ⟨v, w', rfl, kk _ _ _ Hb1 x2.b x2.in_ (((I.mono x2.b).set j1 h1).set j2 h2) ⟨rfl, Stb.st w x2⟩⟩
/-- .., both new lists -/
theorem eb_parN (j1 j2 : Nat) {ds1 ds2 : List D} [Stb W] (hc : X.calm = true) (hN : X.N.Nodup) (ha : EN X ρ a ds1) (hb : EN X ρ b ds2) (k : ∀ l1 l2, EB X (Fram X.K (Fram X.K W l1 ds1) l2 ds2) ((ρ.set j1 (some (.adr l1))).set j2 (some (.adr l2))) rest N R B C) (hi : X.N[j1]? = some x := by rfl) (hj : X.N[j2]? = some y := by rfl) (hij : j1 ≠ j2 := by decide)
    (hx : X.env.scope.names.lookup x = some .local := by rfl) (hy : X.env.scope.names.lookup y = some .local := by rfl) (hw : swappedStores [.Tuple [.Name x px, .Name y py] kt pt] (.Tuple [a, b] k2 pt2) X.env = pure (some [x, y]) := by rfl)
    (hsw : swapsWithSole [.Tuple [.Name x px, .Name y py] kt pt] (.Tuple [a, b] k2 pt2) pos.line X.env = pure false := by rfl) (hs : starEach [a, b] X.env = (false, eval a X.env) :: starEach [b] X.env := by rfl) (hs2 : starEach [b] X.env = (false, eval b X.env) :: starEach [] X.env := by rfl) : EB X W ρ (.Assign [.Tuple [.Name x px, .Name y py] kt pt] (.Tuple [a, b] k2 pt2) pos :: rest) N R B C := by
  refine eb_st (N1 := fun ρ' Hb H => ∃ l1 l2, ρ' = ((ρ.set j1 (some (.adr l1))).set j2 (some (.adr l2))) ∧ Fram X.K (Fram X.K W l1 ds1) l2 ds2 Hb H) (ps_par hc hN hi hj hij hx hy (pa_cons pe_sm (pa_cons pe_sm pa_nil hs2) hs) hw hsw) (fun Hb H σ x1 I w Nx kk => ?_) fun ρ' Hb H σ x I ⟨l1, l2, e, w⟩ => by subst e; exact k l1 l2 Hb H σ x I w
  refine (ha Hb H σ x1 I).mono fun v H' ⟨l1, Hb', H1, ys, ev, x2, hl, eh, h⟩ => ?_
  subst ev
  obtain ⟨z1, z2⟩ := en_fram (W := W) w x2 hl eh h
  refine (hb Hb' H' σ z1 (I.mono x2.b)).mono fun v H'' ⟨l2, Hb'', H2, zs, ev, x3, hl3, eh3, h3⟩ => ?_
  subst ev
  obtain ⟨y1, y2⟩ := en_fram (W := Fram X.K W l1 ds1) z2 x3 hl3 eh3 h3
  exact ⟨_, _, rfl, kk _ _ _ Hb'' (x2.b.trans x3.b) y1 ((((I.mono x2.b).mono x3.b).set j1 (is_adr.mpr rfl)).set j2 (is_adr.mpr rfl)) ⟨l1, l2, rfl, y2⟩⟩
end
end Sm
set_option maxHeartbeats 4000000
/-! Sm17: expressions that change a list. -/
namespace Sm
open PySem PySem.Spec PyProof.Rows L2

theorem IsL.eraseIdx {K : PySem.W.Frag} {H : Hp} : ∀ {ds : List D} {vs : List V} (i : Nat), IsL K H ds vs → IsL K H (ds.eraseIdx i) (vs.eraseIdx i)
  | [], vs, i, h => by rw [isL_nil.mp h]; exact isL_nil.mpr rfl
  | d :: ds, vs, i, h => by
    obtain ⟨v, r, rfl, h1, h2⟩ := isL_cons.mp h
    cases i with
    | zero => exact h2
    | succ i => exact isL_cons.mpr ⟨v, _, rfl, h1, IsL.eraseIdx i h2⟩
/-- for some one of them -/
def Exs {ι : Type} (V : ι → As) : As := fun Hb H => ∃ i, V i Hb H
instance exsStb {ι : Type} {V : ι → As} [∀ i, Stb (V i)] : Stb (Exs V) := ⟨fun ⟨i, h⟩ x => ⟨i, Stb.st h x⟩⟩
section
variable {X : Cx} {W : As} {ρ : En} {e : Expr} {P : D → Prop} {T : Bool → Prop} {ι : Type} {V : ι → As} {Φ : Prop} {rest : List Stmt} {N : En → As} {R : D → As} {B C : En → As}
theorem TW.exs (h : ∀ i, TW X (V i) ρ e T) : TW X (Exs V) ρ e T := fun Hb H σ x I ⟨i, w⟩ => (h i Hb H σ x I w).mono fun v H' ⟨Hb', a1, a2, a3, a4⟩ => ⟨Hb', a1, a2, ⟨i, a3⟩, a4⟩
theorem TW.pr (h : Φ → TW X W ρ e T) : TW X (Pr Φ W) ρ e T := fun Hb H σ x I ⟨p, w⟩ => (h p Hb H σ x I w).mono fun v H' ⟨Hb', a1, a2, a3, a4⟩ => ⟨Hb', a1, a2, ⟨p, a3⟩, a4⟩
theorem EW.exs (h : ∀ i, EW X (V i) ρ e P) : EW X (Exs V) ρ e P := fun Hb H σ x I ⟨i, w⟩ => (h i Hb H σ x I w).mono fun v H' ⟨Hb', d, a1, a2, a3, a4, a5⟩ => ⟨Hb', d, a1, a2, ⟨i, a3⟩, a4, a5⟩
theorem EW.pr (h : Φ → EW X W ρ e P) : EW X (Pr Φ W) ρ e P := fun Hb H σ x I ⟨p, w⟩ => (h p Hb H σ x I w).mono fun v H' ⟨Hb', d, a1, a2, a3, a4, a5⟩ => ⟨Hb', d, a1, a2, ⟨p, a3⟩, a4, a5⟩
theorem eb_exs (h : ∀ i, EB X (V i) ρ rest N R B C) : EB X (Exs V) ρ rest N R B C := fun Hb H σ x I ⟨i, w⟩ => h i Hb H σ x I w
end
def EWc (X : Cx) (W : As) (ρ : En) (e : Expr) (Z : D → As) : Prop := ∀ Hb H σ, Evl.Ex Hb H → IsE X.K Hb σ ρ → W Hb H → SmE X e σ H fun v H' => ∃ Hb' d, Evl.Ex Hb Hb' ∧ Evl.Ex Hb' H' ∧ Z d Hb' H' ∧ Is X.K Hb' d v
section
variable {X : Cx} {W : As} {ρ : En} {a b c e o i : Expr} {es : List Expr} {d : D} {ds : List D} {pos p apos cpos : Pos} {l t : Addr} {fs : List D} {rest body : List Stmt} {N : En → As} {R : D → As} {B C : En → As} {x y : Str} {P Q : D → Prop} {Z : D → As}
theorem EWc.of (h : EW X W ρ e P) (hz : ∀ d Hb H, P d → W Hb H → Z d Hb H) : EWc X W ρ e Z := fun Hb H σ x I w => (h Hb H σ x I w).mono fun v H' ⟨Hb', d, a1, a2, a3, a4, a5⟩ => ⟨Hb', d, a1, a2, hz d _ _ a4 a3, a5⟩
theorem EWc.imp {W' : As} {Z' : D → As} (h : EWc X W ρ e Z) (h1 : ∀ Hb H, W' Hb H → W Hb H) (h2 : ∀ d Hb H, Z d Hb H → Z' d Hb H) : EWc X W' ρ e Z' := fun Hb H σ x I w => (h Hb H σ x I (h1 _ _ w)).mono fun v H' ⟨Hb', d, a1, a2, a3, a4⟩ => ⟨Hb', d, a1, a2, h2 d _ _ a3, a4⟩
theorem EW.pre {W' : As} (h : EW X W ρ e P) (h1 : ∀ Hb H, W' Hb H → W Hb H) (h2 : ∀ Hb H, W Hb H → W' Hb H) : EW X W' ρ e P := fun Hb H σ x I w => (h Hb H σ x I (h1 _ _ w)).mono fun v H' ⟨Hb', d, a1, a2, a3, a4, a5⟩ => ⟨Hb', d, a1, a2, h2 _ _ a3, a4, a5⟩
theorem TW.pre {B : Bool → Prop} {W' : As} (h : TW X W ρ e B) (h1 : ∀ Hb H, W' Hb H → W Hb H) (h2 : ∀ Hb H, W Hb H → W' Hb H) : TW X W' ρ e B := fun Hb H σ x I w => (h Hb H σ x I (h1 _ _ w)).mono fun v H' ⟨Hb', a1, a2, a3, a4⟩ => ⟨Hb', a1, a2, h2 _ _ a3, a4⟩
/-- o.pop(e) -/
theorem ewc_pop [Stb W] (he : EW X (Fram X.K W l fs) ρ e fun d => ∃ n : Nat, n < fs.length ∧ d = .int (n : Int)) (hz : fs.length ≤ 1000) (ho : ED X ρ o (.adr l))
    (hbase : attributeBase o "pop" X.env (eval o X.env) = eval o X.env := by rfl)
    (hfew : ((backTo cpos (starEach [e] X.env)).all (fun x => !x.1) && (backToKw cpos (keywordEach [] X.env)).all (fun x => x.1.isSome)
      && decide ([e].length + ([] : List Keyword).length + (if ([] : List Keyword).isEmpty then 0 else 1) < 30)) = true := by rfl)
    (hline : (apos.endLine == cpos.line) = true := by rfl) (hs : starEach [e] X.env = (false, eval e X.env) :: starEach [] X.env := by rfl) (hpl : (backTo cpos (starEach [] X.env)).any (·.1) = false := by rfl) :
    EWc X (Fram X.K W l fs) ρ (.Call (.Attribute o "pop" apos) [e] [] cpos) (fun d Hb H => ∃ n, fs[n]? = some d ∧ Fram X.K W l (fs.eraseIdx n) Hb H) := fun Hb H σ x1 I w => by
  refine .of (pe_bm PySem.F.plainAttrs_list PySem.F.slot_list_pop PySem.F.type_list_pop (mt_popAt : MtR X "list.pop" rPopAt) pe_sm (pa_cons pe_sm pa_nil hs) hbase hfew hline hs hpl) ?_
  refine (ho Hb H σ x1 I).mono fun v H1 ⟨Hb1, x2, q1⟩ => ?_
  obtain rfl := is_adr.mp q1
  have w1 : Fram X.K W l fs Hb1 H1 := Stb.st w x2
  refine ⟨.inl ⟨rfl, w1.2.1.choose, SqL.of w1.2.1.choose_spec.1⟩, ?_⟩
  refine (he Hb1 H1 σ x2.in_ (I.mono x2.b) w1).mono fun u H2 ⟨Hb2, d, a1, a2, a3, ⟨n, hn, e4⟩, a5⟩ => ?_
  subst e4
  obtain rfl := is_int.mp a5
  obtain ⟨b1, ⟨ys, b2, b3⟩, b4⟩ := id a3
  have hd : fs[n]? = some fs[n] := List.getElem?_eq_getElem hn
  obtain ⟨v, g1, g2⟩ := b3.get hd
  refine ⟨l, ys, n, n, v, rfl, rfl, b2, by omega, by omega, ?_, g1, Hb2, fs[n], x2.b.trans a1, Evl.Ex.mut a2 b1, ⟨n, hd, a3.put (b3.eraseIdx n)⟩, g2⟩
  rw [b3.length]
  show (if (decide (0 ≤ (if ((n : Nat) : Int) < 0 then (n : Int) + (fs.length : Int) else (n : Int))) && decide ((if ((n : Nat) : Int) < 0 then (n : Int) + (fs.length : Int) else (n : Int)) < (fs.length : Int))) = true then some (if ((n : Nat) : Int) < 0 then (n : Int) + (fs.length : Int) else (n : Int)).toNat else none) = some n
  rw [if_neg (show ¬ ((n : Nat) : Int) < 0 by omega), decide_eq_true (show (0 : Int) ≤ (n : Int) by omega), decide_eq_true (show (n : Int) < (fs.length : Int) by omega)]
  rfl
/-- x.append(e), e changing other things -/
theorem eb_appC {ι : Type} {Φ : ι → D → Prop} {V : ι → As} [Stb W] (he : EWc X W ρ e fun d Hb H => ∃ n : ι, Φ n d ∧ Fram X.K (V n) l fs Hb H) (hl : ∀ Hb H, W Hb H → ∃ ys, H l = some (.lst ys)) (hz : fs.length < sizeLine) (ho : ED X ρ o (.adr l)) (k : ∀ n d, Φ n d → EB X (Fram X.K (V n) l (fs ++ [d])) ρ rest N R B C)
    (hbase : attributeBase o "append" X.env (eval o X.env) = eval o X.env := by rfl)
    (hfew : ((backTo cpos (starEach [e] X.env)).all (fun x => !x.1) && (backToKw cpos (keywordEach [] X.env)).all (fun x => x.1.isSome)
      && decide ([e].length + ([] : List Keyword).length + (if ([] : List Keyword).isEmpty then 0 else 1) < 30)) = true := by rfl)
    (hline : (apos.endLine == cpos.line) = true := by rfl) (hs : starEach [e] X.env = (false, eval e X.env) :: starEach [] X.env := by rfl) (hpl : (backTo cpos (starEach [] X.env)).any (·.1) = false := by rfl) (hsw : swapsWith (.Call (.Attribute o "append" apos) [e] [] cpos) none pos.line X.env = pure false := by rfl) :
    EB X W ρ (.Expr (.Call (.Attribute o "append" apos) [e] [] cpos) pos :: rest) N R B C := by
  refine eb_st (N1 := fun ρ' Hb H => ∃ n d, Φ n d ∧ ρ' = ρ ∧ Fram X.K (V n) l (fs ++ [d]) Hb H) (ps_expr (pe_bm PySem.F.plainAttrs_list PySem.F.slot_list_append PySem.F.type_list_append (mt_append : MtR X "list.append" rAppend) pe_sm (pa_cons pe_sm pa_nil hs) hbase hfew hline hs hpl) hsw) (fun Hb H σ x1 I w Nx kk => ?_) fun ρ' Hb H σ x I ⟨n, d, hd, e, w⟩ => by subst e; exact k n d hd Hb H σ x I w
  refine (ho Hb H σ x1 I).mono fun v H1 ⟨Hb1, x2, q1⟩ => ?_
  obtain rfl := is_adr.mp q1
  have w1 : W Hb1 H1 := Stb.st w x2
  obtain ⟨ys0, hy0⟩ := hl _ _ w1
  refine ⟨.inl ⟨rfl, ys0, SqL.of hy0⟩, ?_⟩
  refine (he Hb1 H1 σ x2.in_ (I.mono x2.b) w1).mono fun u H2 ⟨Hb2, d, a1, a2, ⟨n, a3, a4⟩, a5⟩ => ?_
  obtain ⟨b1, ⟨ys, b2, b3⟩, b4⟩ := id a4
  exact ⟨l, ys, u, rfl, rfl, b2, by rw [b3.length]; exact hz, kk _ _ ρ Hb2 (x2.b.trans a1) (Evl.Ex.mut a2 b1) ((I.mono x2.b).mono a1) ⟨n, d, a3, rfl, a4.put (b3.snoc a5)⟩⟩
/-- a def that changes the one at t, its arguments keeping W -/
theorem ew_caW {k : Nat} {φ : List D → Addr → As → (D → Prop) → Prop} {G : As} {R' : D → Prop} {Φ : List D → Prop} [Stb W] [Cell t G W] (F : CaC X.prog X.w X.K X.mg X.base k x φ) (hr : Room k X.A) (hs : EWs X W ρ (e :: es) Φ) (hφ : ∀ ds, Φ ds → φ ds t G R') (hg : Gl X x := by rfl) (hdb : (x == ("__debug__" : Str)) = false := by decide) (he : starEach (e :: es) X.env = (false, eval e X.env) :: starEach es X.env := by rfl)
    (hpl : (backTo pos (starEach es X.env)).any (·.1) = false := by rfl) : EW X W ρ (.Call (.Name x p) (e :: es) [] pos) R' := fun Hb H σ x1 I w0 => by
  obtain ⟨f, fd, ps, F, h1, h2, h3⟩ := F
  obtain ⟨ta, hp, q⟩ := hs
  refine .of (pe_call F hr hg h1 h2 h3 .nil pass0 hp hdb he hpl) (q Hb H σ x1 I w0 _ fun vs H1 Hb1 ds y1 y2 y3 y4 q1 => ?_)
  rw [List.append_nil]
  exact spC_of (W := W) (a := t) (G := G) y2 y3 q1 (hφ ds y4) fun Hb' H' d v e1 e2 w' r i => ⟨Hb', d, y1.trans e1, e2, w', r, i⟩
/-- f(..), f changing nothing, its arguments keeping W -/
theorem ew_caP {k : Nat} {φ : List D → D → Prop} {Φ : List D → Prop} {P' : D → Prop} [Stb W] (F : Ca X.prog X.w X.K X.mg X.base k x φ) (hr : Room k X.A) (hs : EWs X W ρ (e :: es) Φ) (hφ : ∀ ds, Φ ds → ∃ d, P' d ∧ φ ds d) (hg : Gl X x := by rfl) (hdb : (x == ("__debug__" : Str)) = false := by decide) (he : starEach (e :: es) X.env = (false, eval e X.env) :: starEach es X.env := by rfl)
    (hpl : (backTo pos (starEach es X.env)).any (·.1) = false := by rfl) : EW X W ρ (.Call (.Name x p) (e :: es) [] pos) P' := fun Hb H σ x1 I w0 => by
  obtain ⟨f, fd, ps, F, h1, h2, h3⟩ := F
  obtain ⟨ta, hp, q⟩ := hs
  refine .of (pe_call F hr hg h1 h2 h3 .nil pass0 hp hdb he hpl) (q Hb H σ x1 I w0 _ fun vs H1 Hb1 ds y1 y2 y3 y4 q1 => ?_)
  rw [List.append_nil]
  obtain ⟨d, z1, z2⟩ := hφ ds y4
  exact spP_of y2 q1 z2 fun v H' ⟨Hb', x2, q2⟩ => ⟨Hb', d, y1.trans x2.b, x2.in_, Stb.st y3 x2, z1, q2⟩
end
end Sm
set_option maxHeartbeats 4000000
/-! Sm18: tests and values that are known in part. -/
namespace Sm
open PySem PySem.Spec PyProof.Rows L2

def Eqd.bl : Eqd D.bl where
  py := .bool
  dp h := by rw [is_bl.mp h]; exact .bl _
  eq x y := by simp [PyData.eqv]
  lay _ := by simp [PyData.canLay0]
  dep := 0
  hdep _ := by simp [PyData.depth]
section
variable {α : Type} {enc : α → D} (E : Eqd enc) {X : Cx} {ρ : En} {a b : Expr} {pos : Pos} [DecidableEq α]
theorem Eqd.mem (x : α) (ys : List α) : ((ys.map E.py).any fun z => PyData.eqv z (E.py x)) = decide (x ∈ ys) := by
  rw [Bool.eq_iff_iff, List.any_eq_true, decide_eq_true_iff]
  constructor
  · rintro ⟨z, hz, e⟩
    obtain ⟨y, hy, rfl⟩ := List.mem_map.mp hz
    rw [← (E.eq y x).mp e]
    exact hy
  · exact fun h => ⟨E.py x, List.mem_map_of_mem h, (E.eq x x).mpr rfl⟩
theorem Eqd.et_notin (hu : X.A.units + 65 < cLine) (h : E.dep + 1 ≤ 64) (x : α) (ys : List α) (ha : ED X ρ a (enc x)) (hb : ED X ρ b (.lst (ys.map enc))) (hm : behindInMarks .NotIn b = false := by first | exact nobehind _ (by decide) (by decide) | rfl) : ET X ρ (.Compare a [.NotIn] [b] pos) (!decide (x ∈ ys)) :=
  et_cmp (op_notInD hu) ha hb (fun Hb H v w e h1 h2 Q q => by
    refine ⟨E.py x, ys.map E.py, E.dp (h1.mono e), E.lst.dp (h2.mono e), E.shaped (by omega) x, E.lst.shaped h ys, ?_⟩
    rw [E.mem]
    exact q _ _ (gd_bl e)) hm
theorem Eqd.et_in (hu : X.A.units + 65 < cLine) (h : E.dep + 1 ≤ 64) (x : α) (ys : List α) (ha : ED X ρ a (enc x)) (hb : ED X ρ b (.lst (ys.map enc))) (hm : behindInMarks .In b = false := by first | exact nobehind _ (by decide) (by decide) | rfl) : ET X ρ (.Compare a [.In] [b] pos) (decide (x ∈ ys)) :=
  et_cmp (op_inD hu) ha hb (fun Hb H v w e h1 h2 Q q => by
    refine ⟨E.py x, ys.map E.py, E.dp (h1.mono e), E.lst.dp (h2.mono e), E.shaped (by omega) x, E.lst.shaped h ys, ?_⟩
    rw [E.mem]
    exact q _ _ (gd_bl e)) hm
end
section
variable {X : Cx} {W : As} {ρ : En} {a b c e o i : Expr} {es : List Expr} {d : D} {ds : List D} {pos p apos cpos : Pos} {t : Bool} {x y : Str} {P Q : D → Prop} {T : Bool → Prop} {op : CmpOp} {r : R2}
/-- some number -/
def anI (d : D) : Prop := ∃ i : Int, d = .int i
def anB (d : D) : Prop := ∃ i : Bool, d = .bl i
theorem tw_cmp [Stb W] (ho : OpR X (compareOp op) r) (ha : EW X W ρ a P) (hb : EW X W ρ b Q) (hr : ∀ d1 d2, P d1 → Q d2 → ∃ u, T u ∧ R2D X.K r d1 d2 (.bl u)) (hm : behindInMarks op b = false) : TW X W ρ (.Compare a [op] [b] pos) T := fun Hb H σ x I w => .of (pt_cmpR ho pe_sm pe_sm hm) (by
  refine (ha Hb H σ x I w).mono fun v H1 ⟨Hb1, d1, x1, i1, w1, p1, q1⟩ => ?_
  refine (hb Hb1 H1 σ i1 (I.mono x1) w1).mono fun w H2 ⟨Hb2, d2, x2, i2, w2, p2, q2⟩ => ?_
  obtain ⟨u, z, hr⟩ := hr d1 d2 p1 p2
  exact hr Hb2 H2 v w i2 (q1.mono x2) q2 _ fun v' H' ⟨Hb3, x3, q3⟩ => ⟨u, is_bl.mp q3, Hb3, x1.trans (x2.trans x3.b), x3.in_, Stb.st w2 x3, z⟩)
/-- a == b of numbers, whatever it tells -/
theorem tw_eqI [Stb W] (ha : EW X W ρ a anI) (hb : EW X W ρ b anI) : TW X W ρ (.Compare a [.Eq] [b] pos) fun _ => True :=
  tw_cmp op_eq ha hb (fun d1 d2 ⟨i, e1⟩ ⟨j, e2⟩ => ⟨decide (i = j), trivial, by subst e1 e2; exact rd_eqI⟩) (nomark _)
theorem tw_gtI [Stb W] (ha : EW X W ρ a anI) (hb : EW X W ρ b anI) : TW X W ρ (.Compare a [.Gt] [b] pos) fun _ => True :=
  tw_cmp op_gt ha hb (fun d1 d2 ⟨i, e1⟩ ⟨j, e2⟩ => ⟨decide (j < i), trivial, by subst e1 e2; exact rd_I0 fun _ => is_bl.mpr rfl⟩) (nomark _)
theorem ew_gtI [Stb W] (ha : EW X W ρ a anI) (hb : EW X W ρ b anI) : EW X W ρ (.Compare a [.Gt] [b] pos) anB :=
  ew_2 (pe_cmpR op_gt pe_sm pe_sm (nomark _)) ha hb (fun d1 d2 ⟨i, e1⟩ ⟨j, e2⟩ => ⟨.bl (decide (j < i)), ⟨_, rfl⟩, by subst e1 e2; exact rd_I0 fun _ => is_bl.mpr rfl⟩)
theorem tw_and2 [Stb W] (ha : ET X ρ a t) (hb : t = true → TW X W ρ b fun _ => True) : TW X W ρ (.BoolOp .And [a, b] pos) fun u => u = true → t = true := fun Hb H σ x I w => by
  refine .of (PW.pt (pw_and pt_sm (pw_and1 pt_sm))) ((ha Hb H σ x I).mono fun v H' ⟨e1, Hb', x1⟩ => ?_)
  subst e1
  cases v with
  | true => exact iteT ((hb rfl Hb' H' σ x1.in_ (I.mono x1.b) (Stb.st w x1)).mono fun u H2 ⟨Hb2, a1, a2, a3, _⟩ => ⟨Hb2, x1.b.trans a1, a2, a3, fun _ => rfl⟩)
  | false => exact iteF ⟨Hb', x1.b, x1.in_, Stb.st w x1, fun z => nomatch z⟩
theorem ew_ite (hc : TW X W ρ c T) (ha : T true → EW X W ρ a P) (hb : T false → EW X W ρ b P) : EW X W ρ (.IfExp c a b pos) P := fun Hb H σ x I w =>
  .of (pe_ifExp pt_sm pe_sm pe_sm) ((hc Hb H σ x I w).mono fun v H' ⟨Hb', x1, x2, w1, t1⟩ => by
    cases v with
    | true => exact iteT ((ha t1 Hb' H' σ x2 (I.mono x1) w1).mono fun v' H'' ⟨Hb2, d, a1, a2, a3, a4, a5⟩ => ⟨Hb2, d, x1.trans a1, a2, a3, a4, a5⟩)
    | false => exact iteF ((hb t1 Hb' H' σ x2 (I.mono x1) w1).mono fun v' H'' ⟨Hb2, d, a1, a2, a3, a4, a5⟩ => ⟨Hb2, d, x1.trans a1, a2, a3, a4, a5⟩))
theorem ew_tup {x1} {Φ : List D → Prop} [Stb W] (h : EWs X W ρ es Φ) (hz : ∀ ds, Φ ds → ds.length ≤ sizeLine) : EW X W ρ (.Tuple es x1 pos) (fun d => ∃ ds, Φ ds ∧ d = .tup ds) := fun Hb H σ x I w => by
  obtain ⟨ta, hp, q⟩ := h
  refine .of (pe_tup hp) (q Hb H σ x I w _ fun vs H1 Hb1 ds y1 y2 y3 y4 q1 => ⟨by rw [q1.length]; exact hz ds y4, fun p hp => ?_⟩)
  obtain ⟨Hb2, x2, q2⟩ := gd_tup y2 hp q1
  exact ⟨Hb2, _, y1.trans x2.b, x2.in_, Stb.st y3 x2, ⟨ds, y4, rfl⟩, q2⟩
theorem ew_catL {Z : D → Prop} [Stb W] (ha : EW X W ρ a P) (hb : EW X W ρ b Q) (hr : ∀ d1 d2, P d1 → Q d2 → ∃ ds1 ds2, d1 = .lst ds1 ∧ d2 = .lst ds2 ∧ ds1.length + ds2.length ≤ sizeLine ∧ Z (.lst (ds1 ++ ds2))) : EW X W ρ (.BinOp a .Add b pos) Z :=
  ew_2 (pe_op op_cat pe_sm pe_sm) ha hb fun d1 d2 p1 p2 => by
    obtain ⟨ds1, ds2, rfl, rfl, hz, z⟩ := hr d1 d2 p1 p2
    refine ⟨_, z, fun Hb H v w e h1 h2 Q q => ?_⟩
    obtain ⟨a, vs, rfl, ha, hv⟩ := is_lst.mp h1
    obtain ⟨b, ws, rfl, hb, hw⟩ := is_lst.mp h2
    exact ⟨a, b, vs, ws, rfl, rfl, e _ _ ha, e _ _ hb, by rw [hv.length, hw.length]; exact hz, fun p hp => q _ _ (gd_lst e hp (hv.append hw))⟩
/-- int(e), e True or False -/
theorem ew_intB [Stb W] (g : X.mg "int" = none) (h : EW X W ρ e anB) (hg : Gl X "int" := by rfl) (he : starEach [e] X.env = (false, eval e X.env) :: starEach [] X.env := by rfl) : EW X W ρ (.Call (.Name "int" p) [e] [] pos) (fun d => d = .int 0 ∨ d = .int 1) :=
  ew_callTy (Φ := fun ds => ∃ t, ds = [.bl t]) call_int1 g (by decide +kernel) (ews_cons h ews_nil (fun d ds ⟨t, e1⟩ e2 => ⟨t, by rw [e1, e2]⟩) he) (fun ds ⟨t, e⟩ => ⟨.int (if t then 1 else 0), by cases t; exact .inl rfl; exact .inr rfl, fun Hb H vs x q Q k => by
    subst e
    obtain ⟨v, rfl, h1⟩ := es_one q
    rw [is_bl.mp h1]
    exact .inr ⟨t, rfl, k _ _ (gd_int x)⟩⟩) hg (by decide) (by decide) he
end
section
variable {X : Cx} {W : As} {ρ : En} {body rest : List Stmt} {N N1 : En → As} {R : D → As} {B C : En → As} {pos : Pos}
/-- for tg in e, e a list that comes with effects; what it holds is known in part -/
theorem eb_forW {α : Type} {Ψ : List α → Prop} (enc : α → D) {tg iter : Expr} {g : TG} {τ : En → α → En} (Iv : List α → Nat → En → As) (hp : PassesOwn (model X.prog X.w) X.A X.env X.xe) (hc : X.calm = true) (hi : EW X W ρ iter fun d => ∃ xs, Ψ xs ∧ d = .lst (xs.map enc)) (hg : PG X tg g) [∀ xs i ρ, Stb (Iv xs i ρ)]
    (hτ : ∀ xs, Ψ xs → ∀ d ∈ xs, ∀ ρ Hb H σ x, Evl.Ex Hb H → IsE X.K Hb σ ρ → Is X.K Hb (enc d) x → ∀ Q : L2.St → Hp → Prop, (∀ σ', IsE X.K Hb σ' (τ ρ d) → Q σ' H) → g x σ H Q)
    (h0 : ∀ xs, Ψ xs → ∀ Hb H, W Hb H → Iv xs 0 ρ Hb H) (turn : ∀ xs, Ψ xs → ∀ (i : Nat) (d : α), xs[i]? = some d → ∀ ρ', EB X (Iv xs i ρ') (τ ρ' d) body (Iv xs (i + 1)) R No (Iv xs (i + 1)))
    (k : ∀ xs, Ψ xs → ∀ ρ', EB X (Iv xs xs.length ρ') ρ' rest N R B C) (hs : ∀ x, foldedSetIterable iter X.env x = pure x := by intro _; rfl) : EB X W ρ (.For tg iter body [] pos :: rest) N R B C := fun Hb H σ x I w => by
  refine eb_cons (Nx := fun σ' H' => ∃ xs ρ' Hb', Ψ xs ∧ Evl.Ex Hb Hb' ∧ Evl.Ex Hb' H' ∧ IsE X.K Hb' σ' ρ' ∧ Iv xs xs.length ρ' Hb' H') Hb (.of (ps_for hp hc (pi_list pe_sm) hg pss_sm hs) ?_) fun σ' H' ⟨xs, ρ', Hb', a0, a1, a2, a3, a4⟩ => EbD.widen a1 (k xs a0 ρ' Hb' H' σ' a2 a3 a4)
  refine (hi Hb H σ x I w).mono fun v H1 ⟨Hb1, dl, e1, e2, w1, ⟨xs, ψ, e3⟩, q⟩ => ?_
  subst e3
  obtain ⟨l, vs, rfl, hl, hv⟩ := is_lst.mp q
  refine ⟨l, rfl, ⟨vs, SqL.of (e2 _ _ hl)⟩, ?_⟩
  obtain ⟨wk1, wk2, wk3⟩ := wk_list (K := X.K) hl hv
  refine ⟨fun i m σ' H' => m = xs.length - i ∧ i ≤ xs.length ∧ ∃ ρ' Hi, Evl.Ex Hb1 Hi ∧ Evl.Ex Hi H' ∧ IsE X.K Hi σ' ρ' ∧ Iv xs i ρ' Hi H', ⟨xs.length, by simp, Nat.zero_le _, ρ, Hb1, Evl.Ex.refl _, e2, I.mono e1, h0 xs ψ _ _ w1⟩, ?_⟩
  rintro i m σ' H' ⟨rfl, hi, ρ', Hi, a1, a2, a3, a4⟩
  by_cases hlt : i < xs.length
  · refine .inr ⟨wk1 i H' (a1.trans a2) (by rw [List.length_map]; exact hlt), fun σ'' H'' => i + 1 ≤ xs.length ∧ ∃ ρ' Hi, Evl.Ex Hb1 Hi ∧ Evl.Ex Hi H'' ∧ IsE X.K Hi σ'' ρ' ∧ Iv xs (i + 1) ρ' Hi H'', fun σ'' H'' ⟨b1, b2⟩ => ⟨xs.length - (i + 1), by omega, rfl, b1, b2⟩, fun y H2 hy => ?_⟩
    have hd : xs[i]? = some xs[i] := List.getElem?_eq_getElem hlt
    obtain ⟨H2b, x2, q2⟩ := wk3 i Hi H' y H2 (enc xs[i]) a1 a2 (by rw [List.getElem?_map, hd]; rfl) hy
    refine hτ xs ψ _ (List.getElem_mem hlt) ρ' H2b H2 σ' y x2.in_ (a3.mono x2.b) q2 _ fun σ2 I2 => ?_
    have ee : Evl.Ex Hb1 H2b := a1.trans x2.b
    refine (turn xs ψ i _ hd ρ' H2b H2 σ2 x2.in_ I2 (Stb.st a4 x2)).mono (fun σ3 H3 ⟨ρ3, H3b, c1, c2, c3, c4⟩ => ⟨hlt, ρ3, H3b, ee.trans c1, c2, c3, c4⟩) (fun v H3 ⟨d, H3b, c1, c2, c3, c4⟩ => ⟨d, H3b, e1.trans (ee.trans c1), c2, c3, c4⟩)
      (fun σ3 H3 ⟨ρ3, H3b, c1, c2, c3, c4⟩ => c4.elim) fun σ3 H3 ⟨ρ3, H3b, c1, c2, c3, c4⟩ => ⟨hlt, ρ3, H3b, ee.trans c1, c2, c3, c4⟩
  · have e : i = xs.length := by omega
    subst e
    exact .inl ⟨wk2 _ H' (a1.trans a2) (by rw [List.length_map]; exact Nat.le_refl _), xs, ρ', Hi, ψ, e1.trans a1, a2, a3, a4⟩
end
/-- what such a list holds -/
theorem Trn.rel {α β : Type} {T : α → Option D → Prop} {enc : β → D} {Q : β → Prop} : ∀ {xs : List α} {es : List D}, Trn T xs es → (∀ x ∈ xs, ∀ r, T x (some r) → ∃ y, Q y ∧ r = enc y) → ∃ ys : List β, es = ys.map enc ∧ (∀ y ∈ ys, Q y) ∧ ys.length ≤ xs.length
  | _, _, .nil, _ => ⟨[], rfl, (fun y h => nomatch h), Nat.le_refl _⟩
  | x :: xs, es, .skip t h, k => by
    obtain ⟨ys, e, q, l⟩ := h.rel (enc := enc) (Q := Q) fun z hz => k z (List.mem_cons_of_mem _ hz)
    exact ⟨ys, e, q, Nat.le_succ_of_le l⟩
  | x :: xs, _, .take (r := r) t h, k => by
    obtain ⟨ys, e, q, l⟩ := h.rel (enc := enc) (Q := Q) fun z hz => k z (List.mem_cons_of_mem _ hz)
    obtain ⟨y, q1, e1⟩ := k x List.mem_cons_self r t
    exact ⟨y :: ys, by rw [e, e1]; rfl, fun z hz => by
      rcases List.mem_cons.mp hz with e | e
      · rw [e]; exact q1
      · exact q z e, Nat.succ_le_succ l⟩
theorem Trn.len_eq {α : Type} {T : α → Option D → Prop} : ∀ {xs : List α} {es : List D}, Trn T xs es → (∀ x ∈ xs, ¬ T x none) → es.length = xs.length
  | _, _, .nil, _ => rfl
  | x :: xs, es, .skip t h, k => absurd t (k x List.mem_cons_self)
  | x :: xs, _, .take t h, k => by rw [List.length_cons, List.length_cons, h.len_eq fun z hz => k z (List.mem_cons_of_mem _ hz)]
end Sm
set_option maxHeartbeats 4000000
/-! Sm19: sorted(set(..)) of pairs. -/
namespace Sm
open PySem PySem.Spec PyProof.Rows L2

abbrev dP (t : Nat × Nat) : D := .tup [.int (t.1 : Int), .int (t.2 : Int)]
def ltP2 (s t : Nat × Nat) : Prop := s.1 < t.1 ∨ (s.1 = t.1 ∧ s.2 < t.2)
/-- the one ascending list -/
theorem asc_eq : ∀ {us vs : List (Nat × Nat)}, us.Pairwise ltP2 → vs.Pairwise ltP2 → (∀ t, t ∈ us ↔ t ∈ vs) → us = vs := by
  intro us
  induction us with
  | nil =>
    intro vs _ _ h
    cases vs with
    | nil => rfl
    | cons v vs => exact absurd ((h v).mpr List.mem_cons_self) (by simp)
  | cons u us ih =>
    intro vs h1 h2 h
    cases vs with
    | nil => exact absurd ((h u).mp List.mem_cons_self) (by simp)
    | cons v vs =>
      rw [List.pairwise_cons] at h1 h2
      have irr : ∀ t, ¬ ltP2 t t := fun t z => by unfold ltP2 at z; omega
      have asym : ∀ s t, ltP2 s t → ¬ ltP2 t s := fun s t y z => by unfold ltP2 at y z; omega
      have e : u = v := by
        rcases List.mem_cons.mp ((h u).mp List.mem_cons_self) with z | z
        · exact z
        · rcases List.mem_cons.mp ((h v).mpr List.mem_cons_self) with y | y
          · exact y.symm
          · exact absurd (h1.1 v y) (asym _ _ (h2.1 u z))
      subst e
      congr 1
      refine ih h1.2 h2.2 fun t => ⟨fun z => ?_, fun z => ?_⟩
      · rcases List.mem_cons.mp ((h t).mp (List.mem_cons_of_mem _ z)) with y | y
        · subst y; exact absurd (h1.1 t z) (irr t)
        · exact y
      · rcases List.mem_cons.mp ((h t).mpr (List.mem_cons_of_mem _ z)) with y | y
        · subst y; exact absurd (h2.1 t z) (irr t)
        · exact y
section
variable {X : Cx} {ρ : En} {e : Expr} {pos p p2 pos2 : Pos} {K : PySem.W.Frag}
/-- the pairs and where they stand -/
theorem isL_pairs {H : Hp} : ∀ {ts : List (Nat × Nat)} {vs : List V}, IsL K H (ts.map dP) vs → ∃ ks : List (Addr × List Int), vs = ks.map (fun q => V.ref q.1) ∧ (∀ q ∈ ks, SqT K H q.1 (q.2.map V.int)) ∧ ks.map (·.2) = ts.map fun t => [(t.1 : Int), (t.2 : Int)]
  | [], vs, h => ⟨[], isL_nil.mp h, (fun q z => nomatch z), rfl⟩
  | t :: ts, vs, h => by
    obtain ⟨v, r, rfl, h1, h2⟩ := isL_cons.mp h
    obtain ⟨ks, e1, e2, e3⟩ := isL_pairs h2
    obtain ⟨a, ys, rfl, ha, hy⟩ := is_tup.mp h1
    obtain ⟨x, y, rfl, hx, hy⟩ := es_two hy
    rw [is_int.mp hx, is_int.mp hy] at ha
    refine ⟨(a, [(t.1 : Int), (t.2 : Int)]) :: ks, by rw [e1]; rfl, fun q hq => ?_, by rw [List.map_cons, List.map_cons, e3]⟩
    rcases List.mem_cons.mp hq with z | z
    · subst z; exact ha
    · exact e2 q z
theorem isL_of_pairs {H : Hp} : ∀ {ks : List (Addr × List Int)} {us : List (Nat × Nat)}, (∀ q ∈ ks, SqT K H q.1 (q.2.map V.int)) → ks.map (·.2) = us.map (fun t => [(t.1 : Int), (t.2 : Int)]) → IsL K H (us.map dP) (ks.map fun q => V.ref q.1)
  | [], [], _, _ => isL_nil.mpr rfl
  | [], _ :: _, _, e => by simp at e
  | _ :: _, [], _, e => by simp at e
  | (a, ns) :: ks, t :: us, h, e => by
    rw [List.map_cons, List.map_cons, List.cons.injEq] at e
    obtain ⟨e1, e2⟩ := e
    have ha := h (a, ns) List.mem_cons_self
    have e1 : ns = [(t.1 : Int), (t.2 : Int)] := e1
    subst e1
    exact isL_cons.mpr ⟨.ref a, _, rfl, is_tup.mpr ⟨a, _, rfl, ha, isL_cons.mpr ⟨_, _, rfl, is_int.mpr rfl, isL_cons.mpr ⟨_, _, rfl, is_int.mpr rfl, isL_nil.mpr rfl⟩⟩⟩, isL_of_pairs (fun q hq => h q (List.mem_cons_of_mem _ hq)) e2⟩
abbrev fP (t : Nat × Nat) : List Int := [(t.1 : Int), (t.2 : Int)]
theorem fP_inj {s t : Nat × Nat} (h : fP s = fP t) : s = t := by
  have h : [(s.1 : Int), (s.2 : Int)] = [(t.1 : Int), (t.2 : Int)] := h
  rw [List.cons.injEq, List.cons.injEq] at h
  exact Prod.ext (by omega) (by omega)
theorem pre_map {ts : List (Nat × Nat)} : ∀ {L : List (Addr × List Int)}, (∀ q ∈ L, ∃ t ∈ ts, q.2 = fP t) → ∃ us : List (Nat × Nat), L.map (·.2) = us.map fP ∧ ∀ t ∈ us, t ∈ ts
  | [], _ => ⟨[], rfl, fun t h => nomatch h⟩
  | q :: L, h => by
    obtain ⟨t, ht, e⟩ := h q List.mem_cons_self
    obtain ⟨us, e2, h2⟩ := pre_map (L := L) fun z hz => h z (List.mem_cons_of_mem _ hz)
    refine ⟨t :: us, by rw [List.map_cons, List.map_cons, e, e2], fun z hz => ?_⟩
    rcases List.mem_cons.mp hz with y | y
    · rw [y]; exact ht
    · exact h2 z y
theorem asc_of {us : List (Nat × Nat)} {L : List (Addr × List Int)} (e : L.map (·.2) = us.map fP) (nd : (L.map (·.2)).Nodup) (hs : L.Pairwise (fun q r => TS.code 1000 q.2 ≤ TS.code 1000 r.2)) (hB : ∀ t ∈ us, t.1 < 1000 ∧ t.2 < 1000) : us.Pairwise ltP2 := by
  have h1 : (us.map fP).Pairwise (fun a b => TS.code 1000 a ≤ TS.code 1000 b) := by
    rw [← e]; exact List.pairwise_map.mpr hs
  rw [e] at nd
  have h2 := List.pairwise_map.mp h1
  have h3 : us.Pairwise (fun a b => fP a ≠ fP b) := List.pairwise_map.mp nd
  refine List.Pairwise.imp_of_mem (R := fun a b => TS.code 1000 (fP a) ≤ TS.code 1000 (fP b) ∧ fP a ≠ fP b) (fun {a b} ha hb ⟨c, d⟩ => ?_) (h2.and h3)
  have bd : ∀ t ∈ us, TS.Bd 1000 (fP t) := fun t ht m hm => by
    have := hB t ht
    rcases List.mem_cons.mp hm with z | z
    · omega
    · rw [List.mem_singleton.mp z]; omega
  have ne : a ≠ b := fun z => d (by rw [z])
  rcases L2.code_lex (bd a ha) (bd b hb) c with z | ⟨z1, z2⟩
  · exact .inl (by omega)
  · refine .inr ⟨by omega, ?_⟩
    have : a.2 ≠ b.2 := fun y => ne (Prod.ext (by omega) y)
    omega
theorem ed_sortSet (ts us : List (Nat × Nat)) (hc : X.calm = true) (hu : X.A.units + 64 < cLine) (g : X.mg "sorted" = none) (g2 : X.mg "set" = none) (h : ED X ρ e (.lst (ts.map dP))) (hz : ts.length < 64) (hB : ∀ t ∈ ts, t.1 < 1000 ∧ t.2 < 1000) (hm : ∀ t, t ∈ us ↔ t ∈ ts) (hs : us.Pairwise ltP2)
    (hg : Gl X "sorted" := by rfl) (hg2 : Gl X "set" := by rfl) (he : starEach [e] X.env = (false, eval e X.env) :: starEach [] X.env := by rfl)
    (he2 : starEach [.Call (.Name "set" p2) [e] [] pos2] X.env = (false, eval (.Call (.Name "set" p2) [e] [] pos2) X.env) :: starEach [] X.env := by rfl) : ED X ρ (.Call (.Name "sorted" p) [.Call (.Name "set" p2) [e] [] pos2] [] pos) (.lst (us.map dP)) := fun Hb H σ x I => by
  refine .of (pe_callB (cr_sortedT hc) hg g (by decide +kernel) (pa_cons (pe_callTy (cr_setOfT hc hu) hg2 g2 (by decide +kernel) (pa_cons pe_sm pa_nil he) (by decide) (by decide) he) pa_nil he2) (by decide) (by decide) he2) ?_
  refine (h Hb H σ x I).mono fun v H1 ⟨Hb1, x1, q1⟩ => ?_
  obtain ⟨l, vs, rfl, hl, hv⟩ := is_lst.mp q1
  obtain ⟨ks, e1, e2, e3⟩ := isL_pairs hv
  subst e1
  have hkl : ks.length = ts.length := by have := congrArg List.length e3; rwa [List.length_map, List.length_map] at this
  refine ⟨l, ks, rfl, SqL.of (x1.in_ _ _ hl), fun q hq => Evl.ex_t x1.in_ (e2 q hq), by omega, fun s L hs0 hL1 hL2 => ?_⟩
  have hks : ∀ q ∈ ks, ∃ t ∈ ts, q.2 = fP t := fun q hq => by
    have : q.2 ∈ ts.map fP := by rw [← e3]; exact List.mem_map_of_mem hq
    obtain ⟨t, ht, e⟩ := List.mem_map.mp this
    exact ⟨t, ht, e.symm⟩
  have ex : Evl.Ex H1 (upd H1 s (SetTO X.prog X.w s L)) := Evl.Ex.new hs0
  refine ⟨s, L, 2, 1000, rfl, upd_same, fun q hq => Evl.ex_t (x1.in_.trans ex) (e2 q (hL1 q hq)), by decide, fun q hq => ?_, fun L' r hp nd hl' hs' hr => ?_⟩
  · obtain ⟨t, ht, e⟩ := hks q (hL1 q hq)
    rw [e]
    have := hB t ht
    refine ⟨rfl, fun m hm => ?_⟩
    rcases List.mem_cons.mp hm with z | z
    · omega
    · rw [List.mem_singleton.mp z]; omega
  · obtain ⟨vs, f1, f2⟩ := pre_map (ts := ts) (L := L') fun q hq => hks q (hL1 q (hp.mem_iff.mp hq))
    have hvs : vs = us := by
      refine asc_eq (asc_of f1 nd hs' fun t ht => hB t (f2 t ht)) hs fun t => ⟨fun z => (hm t).mpr (f2 t z), fun z => ?_⟩
      have z1 : fP t ∈ ks.map (·.2) := by rw [e3]; exact List.mem_map_of_mem ((hm t).mp z)
      obtain ⟨q, hq, e⟩ := List.mem_map.mp z1
      have z2 := hL2 q hq
      rw [e] at z2
      obtain ⟨q', hq', e'⟩ := List.mem_map.mp z2
      have z3 : fP t ∈ L'.map (·.2) := by rw [← e']; exact List.mem_map_of_mem (hp.mem_iff.mpr hq')
      rw [f1] at z3
      obtain ⟨t', ht', e''⟩ := List.mem_map.mp z3
      rw [← fP_inj e'']
      exact ht'
    subst hvs
    have x2 : Xt Hb H Hb1 (upd H1 s (SetTO X.prog X.w s L)) := ⟨x1.h.trans ex, x1.b, x1.in_.trans ex, fun a h1 h2 => x1.new a h1 h2⟩
    exact (gd_lst x2.in_ hr (isL_of_pairs (fun q hq => e2 q (hL1 q (hp.mem_iff.mp hq))) f1)).trans x2
end
end Sm
set_option maxHeartbeats 4000000
/-! Sm20: {k: v, l: w}. -/
namespace Sm
open PySem PySem.Spec PyProof.Rows L2
section
variable {X : Cx} {ρ : En} {pos : Pos}
theorem ed_disp2 {k1 k2 v1 v2 : Expr} {K1 K2 : Key} {d1 d2 : D} (h1 : ED X ρ k1 (keyD K1)) (g1 : ED X ρ v1 d1) (h2 : ED X ρ k2 (keyD K2)) (g2 : ED X ρ v2 d2) (ne : K1 ≠ K2) : ED X ρ (.Dict [some k1, some k2] [v1, v2] pos) (.dct [(K1, d1), (K2, d2)]) := fun Hb H σ x I => by
  refine .of (pe_disp (pps_cons pe_sm pe_sm (pps_cons pe_sm pe_sm pps_nil)) rfl rfl (by simp) (by simp)) fun p hp => ?_
  have hb : Hb p = none := Evl.fresh_back x hp
  have x0 : Evl.Ex Hb (upd H p (.dK [])) := Evl.Ex.mut x hb
  refine (h1 Hb _ σ x0 I).mono fun a1 H1 ⟨Hb1, y1, q1⟩ => (g1 Hb1 H1 σ y1.in_ (I.mono y1.b)).mono fun w1 H2 ⟨Hb2, y2, q2⟩ => ?_
  refine (h2 Hb2 H2 σ y2.in_ ((I.mono y1.b).mono y2.b)).mono fun a2 H3 ⟨Hb3, y3, q3⟩ => (g2 Hb3 H3 σ y3.in_ (((I.mono y1.b).mono y2.b).mono y3.b)).mono fun w2 H4 ⟨Hb4, y4, q4⟩ => ?_
  have xx : Xt Hb (upd H p (.dK [])) Hb4 H4 := y1.trans (y2.trans (y3.trans y4))
  have hp4 : Hb4 p = none := xx.new p (by rw [upd_same]; exact fun z => nomatch z) hb
  have e4 : H4 p = some (.dK []) := xx.h _ _ upd_same
  refine ⟨e4, [(K1, w1), (K2, w2)], by rw [is_key.mp q1, is_key.mp q3]; rfl, by simp, ?_⟩
  have em : mergeK [] [(K1, w1), (K2, w2)] = [(K1, w1), (K2, w2)] := by
    simp [mergeK, putK, ne]
  rw [em]
  refine ⟨upd Hb4 p (.dK [(K1, w1), (K2, w2)]), ⟨fun a o q => ?_, fun a o q => ?_, fun a o q => ?_, fun a z1 z2 => ?_⟩, is_dct.mpr ⟨p, _, rfl, upd_same, ?_⟩⟩
  · have n : a ≠ p := fun z => by rw [z, hp] at q; cases q
    rw [upd_ne n]
    exact xx.h a o (by rw [upd_ne n]; exact q)
  · have n : a ≠ p := fun z => by rw [z, hb] at q; cases q
    rw [upd_ne n]
    exact xx.b a o q
  · by_cases n : a = p
    · rw [n, upd_same] at q ⊢; exact q
    · rw [upd_ne n] at q ⊢; exact xx.in_ a o q
  · have n : a ≠ p := fun z => z1 (by rw [z, hp])
    rw [upd_ne n]
    exact xx.new a (by rw [upd_ne n]; exact z1) z2
  · have e5 : Evl.Ex Hb4 (upd Hb4 p (.dK [(K1, w1), (K2, w2)])) := Evl.Ex.new hp4
    exact isK_cons.mpr ⟨w1, _, rfl, (q2.mono (y3.b.trans y4.b)).mono e5, isK_cons.mpr ⟨w2, _, rfl, q4.mono e5, isK_nil.mpr rfl⟩⟩
end
end Sm
set_option maxHeartbeats 4000000
/-! Sm21: several lists that change, in one list. -/
namespace Sm
open PySem PySem.Spec PyProof.Rows L2

/-- lists at as, that hold rows -/
def MFr (K : PySem.W.Frag) (W : As) : List Addr → List (List D) → As
  | [], [] => W
  | a :: as, r :: rs => Fram K (MFr K W as rs) a r
  | _, _ => fun _ _ => False
theorem mfrStb {K : PySem.W.Frag} {W : As} [Stb W] : ∀ (as : List Addr) (rs : List (List D)), Stb (MFr K W as rs)
  | [], [] => by show Stb W; infer_instance
  | a :: as, r :: rs => by
    have := mfrStb (K := K) (W := W) as rs
    show Stb (Fram K (MFr K W as rs) a r)
    infer_instance
  | [], _ :: _ => ⟨fun h _ => h.elim⟩
  | _ :: _, [] => ⟨fun h _ => h.elim⟩
instance mfrStbI {K : PySem.W.Frag} {W : As} [Stb W] {as : List Addr} {rs : List (List D)} : Stb (MFr K W as rs) := mfrStb as rs
theorem mfr_len {K : PySem.W.Frag} {W : As} {Hb H : Hp} : ∀ {as : List Addr} {rs : List (List D)}, MFr K W as rs Hb H → as.length = rs.length
  | [], [], _ => rfl
  | a :: as, r :: rs, h => by rw [List.length_cons, List.length_cons, mfr_len (rs := rs) h.2.2]
  | [], _ :: _, h => h.elim
  | _ :: _, [], h => h.elim
theorem Fram.imp {K : PySem.W.Frag} {W W' : As} {l : Addr} {es : List D} (h : ∀ Hb H, W Hb H → W' Hb H) {Hb H : Hp} (w : Fram K W l es Hb H) : Fram K W' l es Hb H := ⟨w.1, w.2.1, h _ _ w.2.2⟩
/-- the i-th on top -/
theorem mfr_out {K : PySem.W.Frag} {W : As} : ∀ {as : List Addr} {rs : List (List D)} {i : Nat} {a : Addr} {r : List D}, as[i]? = some a → rs[i]? = some r → ∀ {Hb H : Hp}, MFr K W as rs Hb H → Fram K (MFr K W (as.eraseIdx i) (rs.eraseIdx i)) a r Hb H
  | [], _, i, a, r, h, _, _, _, _ => by cases h
  | _ :: _, [], i, a, r, _, h, _, _, _ => by cases h
  | a' :: as, r' :: rs, 0, a, r, h1, h2, Hb, H, w => by
    cases h1; cases h2
    exact w
  | a' :: as, r' :: rs, i + 1, a, r, h1, h2, Hb, H, w => by
    have h1' : as[i]? = some a := h1
    have h2' : rs[i]? = some r := h2
    exact Fram.swap (Fram.imp (fun Hb H z => mfr_out h1' h2' z) w)
theorem mfr_in {K : PySem.W.Frag} {W : As} : ∀ {as : List Addr} {rs : List (List D)} {i : Nat} {a : Addr} {r : List D}, as[i]? = some a → i < rs.length → ∀ {Hb H : Hp}, Fram K (MFr K W (as.eraseIdx i) (rs.eraseIdx i)) a r Hb H → MFr K W as (rs.set i r) Hb H
  | [], _, i, a, r, h, _, _, _, _ => by cases h
  | _ :: _, [], i, a, r, _, h, _, _, _ => by simp at h
  | a' :: as, r' :: rs, 0, a, r, h1, h2, Hb, H, w => by
    cases h1
    exact w
  | a' :: as, r' :: rs, i + 1, a, r, h1, h2, Hb, H, w => by
    have h1' : as[i]? = some a := h1
    have h2' : i < rs.length := by simpa using h2
    exact Fram.imp (fun Hb H z => mfr_in h1' h2' z) (Fram.swap w)
/-- all are known for good from now on -/
theorem mfr_done {K : PySem.W.Frag} {W : As} [Stb W] : ∀ {as : List Addr} {rs : List (List D)} {Hb H : Hp}, MFr K W as rs Hb H → Evl.Ex Hb H → ∃ Hb', Evl.Ex Hb Hb' ∧ Evl.Ex Hb' H ∧ W Hb' H ∧ IsL K Hb' (rs.map .lst) (as.map .ref)
  | [], [], Hb, H, w, e => ⟨Hb, .refl _, e, w, isL_nil.mpr rfl⟩
  | a :: as, r :: rs, Hb, H, w, e => by
    obtain ⟨Hb1, e1, e2, w1, q⟩ := Fram.done (W := MFr K W as rs) w e
    obtain ⟨Hb2, f1, f2, w2, q2⟩ := mfr_done w1 e2
    exact ⟨Hb2, e1.trans f1, f2, w2, isL_cons.mpr ⟨_, _, rfl, q.mono f1, q2⟩⟩
  | [], _ :: _, _, _, w, _ => w.elim
  | _ :: _, [], _, _, w, _ => w.elim
end Sm
set_option maxHeartbeats 4000000
/-! Sm22: x = [[] for ..]. -/
namespace Sm
open PySem PySem.Spec PyProof.Rows L2

theorem mfr_snoc {K : PySem.W.Frag} {W : As} : ∀ {as : List Addr} {rs : List (List D)} {p : Addr} {r : List D} {Hb H : Hp}, Fram K (MFr K W as rs) p r Hb H → MFr K W (as ++ [p]) (rs ++ [r]) Hb H
  | [], [], p, r, Hb, H, h => h
  | a :: as, r0 :: rs, p, r, Hb, H, h => Fram.imp (fun Hb H z => mfr_snoc z) (Fram.swap h)
  | [], _ :: _, _, _, _, _, h => h.2.2.elim
  | _ :: _, [], _, _, _, _, h => h.2.2.elim
/-- n empty lists -/
def RowsF (K : PySem.W.Frag) (W : As) (es : List D) : As := fun Hb H => ∃ as : List Addr, es = as.map .adr ∧ MFr K W as (List.replicate as.length []) Hb H
instance rowsFStb {K : PySem.W.Frag} {W : As} [Stb W] {es : List D} : Stb (RowsF K W es) := ⟨fun ⟨as, e, h⟩ x => ⟨as, e, Stb.st h x⟩⟩
section
variable {X : Cx} {W : As} {ρ : En} {tg iter : Expr} {scope : Scope} {own : List (Str × Nat)} {pos : Pos} {ds : List D} {g : TG} {rest : List Stmt} {N : En → As} {R : D → As} {B C : En → As}
theorem eb_setRows {α : Type} {xs : List α} (enc : α → D) (i : Nat) {y : Str} {py spos ep : Pos} {τ : α → En} [Stb W] (hc : X.calm = true) (hN : X.N.Nodup) (hi : EI X ρ tg iter (xs.map enc)) (ok : BlkOk X.N X.env.scope scope own) (hz : xs.length ≤ sizeLine)
    (hg : InB X scope fun Y => PG Y tg g) (hτ : ∀ d ∈ xs, TgD X.K g (own.map (·.2)) (wipeD ρ (own.map (·.2))) (enc d) (τ d))
    (k : ∀ as : List Addr, as.length = xs.length → EB X (MFr X.K W as (List.replicate as.length [])) (ρ.set i (some (.lst (as.map .adr)))) rest N R B C)
    (hy : X.N[i]? = some y := by rfl) (hyl : X.env.scope.names.lookup y = some .local := by rfl)
    (hsw : swapsWith (.ListComp (.List [] ep) [⟨tg, iter, [], 0⟩] scope pos) (some (.Name y py)) spos.line X.env = pure true := by exact sw_true rfl rfl rfl (by decide +kernel)) (hs : ∀ x, foldedSetIterable iter X.env x = pure x := by intro _; rfl) :
    EB X W ρ (.Assign [.Name y py] (.ListComp (.List [] ep) [⟨tg, iter, [], 0⟩] scope pos) spos :: rest) N R B C := fun Hb H σ x I w => by
  refine eb_cons (Nx := fun σ' H' => ∃ ρ' Hb', Evl.Ex Hb Hb' ∧ Evl.Ex Hb' H' ∧ IsE X.K Hb' σ' ρ' ∧ ∃ as : List Addr, as.length = xs.length ∧ ρ' = ρ.set i (some (.lst (as.map .adr))) ∧ MFr X.K W as (List.replicate as.length []) Hb' H') Hb ?_
    fun σ' H' ⟨ρ', Hb', a1, a2, a3, as, a4, a5, a6⟩ => by subst a5; exact EbD.widen a1 (k as a4 Hb' H' σ' a2 a3 a6)
  obtain ⟨wi, hpi, hwi⟩ := hi
  refine .of (ps_setLc (g := g) hc hN hy hyl hsw hpi ok hg (fun _ _ _ _ _ => pts_nil) (fun s H C cl fp => pe_lst (X := X.blk s H scope (compEnvC scope cl C X.env) fp) pa_nil) hs) ?_
  refine hwi Hb H σ x I _ fun J H1 Hb1 x1 wk => fun Dl hD => ?_
  obtain ⟨wk1, wk2, wk3⟩ := wk
  refine ⟨fun i m H => m = xs.length - i ∧ i ≤ xs.length ∧ ∃ Hi es, Evl.Ex Hb1 Hi ∧ Evl.Ex Hi H ∧ es.length = i ∧ Fram X.K (RowsF X.K W es) Dl es Hi H, ⟨xs.length, by simp, Nat.zero_le _, Hb1, [], Evl.Ex.refl _, Evl.Ex.mut x1.in_ (Evl.fresh_back x1.in_ hD), rfl, Fram.new (o := .lst []) ⟨[], rfl, Stb.st w x1⟩ x1.in_ hD⟩, ?_⟩
  rintro i' m H2 ⟨rfl, hi, Hi, es, a1, a2, tr, fr⟩
  by_cases hlt : i' < xs.length
  · refine .inr ⟨wk1 i' H2 (a1.trans a2) (by rw [List.length_map]; exact hlt), fun H' => i' + 1 ≤ xs.length ∧ ∃ Hi es, Evl.Ex Hb1 Hi ∧ Evl.Ex Hi H' ∧ es.length = i' + 1 ∧ Fram X.K (RowsF X.K W es) Dl es Hi H', fun H' ⟨b1, b2⟩ => ⟨xs.length - (i' + 1), by omega, rfl, b1, b2⟩, fun x' H3 hy => ?_⟩
    have hd : xs[i']? = some xs[i'] := List.getElem?_eq_getElem hlt
    have hm : xs[i'] ∈ xs := List.getElem_mem hlt
    obtain ⟨H3b, x3, q3⟩ := wk3 i' Hi H2 x' H3 (enc xs[i']) a1 a2 (by rw [List.getElem?_map, hd]; rfl) hy
    have IW : IsE X.K H3b (L2.wipe σ (own.map (·.2))) (wipeD ρ (own.map (·.2))) := ((I.mono x1.b).mono (a1.trans x3.b)).wipe _
    refine hτ _ hm H3b H3 _ x' x3.in_ IW q3 _ fun σ' I' hw => ⟨hw.trans wipe_wipe, ?_⟩
    simp only [tYes, if_true]
    refine ⟨Nat.zero_le _, fun p hp => ?_⟩
    have fr3 := Stb.st fr x3
    obtain ⟨k1, ⟨ys, k2, k3⟩, as, k4, k5⟩ := id fr3
    have hb : H3b p = none := Evl.fresh_back x3.in_ hp
    have hpD : Dl ≠ p := fun e => by rw [e, hp] at k2; cases k2
    refine ⟨ys, by rw [upd_ne hpD]; exact k2, by rw [k3.length, tr]; omega, hlt, H3b, es ++ [.adr p], a1.trans x3.b, ?_, by rw [List.length_append, tr]; rfl, ?_⟩
    · exact Evl.Ex.mut (Evl.Ex.mut x3.in_ hb) k1
    · have f1 : Fram X.K (Fram X.K (RowsF X.K W es) Dl es) p [] H3b (upd H3 p (.lst [])) := Fram.new (o := .lst []) fr3 x3.in_ hp
      have f2 := Fram.swap f1
      have f3 : Fram X.K (RowsF X.K W (es ++ [.adr p])) Dl es H3b (upd H3 p (.lst [])) := Fram.imp (fun Hb H ⟨z1, z2, as, z3, z4⟩ => ⟨as ++ [p], by rw [z3, List.map_append]; rfl, by
        rw [List.length_append, show as.length + [p].length = as.length + 1 from rfl, List.replicate_succ']
        exact mfr_snoc ⟨z1, z2, z4⟩⟩) f2
      exact f3.put (k3.snoc (is_adr.mpr rfl))
  · have e : i' = xs.length := by omega
    subst e
    obtain ⟨Hb', f1, f2, ⟨as, f3, f4⟩, f5⟩ := fr.done a2
    refine .inl ⟨wk2 _ H2 (a1.trans a2) (by rw [List.length_map]; exact Nat.le_refl _), ?_⟩
    subst f3
    exact ⟨_, Hb', x1.b.trans (a1.trans f1), f2, (I.mono (x1.b.trans (a1.trans f1))).set i f5, as, by rw [List.length_map] at tr; exact tr, rfl, f4⟩
/-- the lists change no more -/
theorem isL_adr {K : PySem.W.Frag} {H : Hp} : ∀ {as : List Addr} {vs : List V}, IsL K H (as.map .adr) vs → vs = as.map .ref
  | [], vs, h => isL_nil.mp h
  | a :: as, vs, h => by
    obtain ⟨v, r, rfl, h1, h2⟩ := isL_cons.mp h
    rw [is_adr.mp h1, isL_adr h2]; rfl
theorem eb_frzM [Stb W] (i : Nat) {as : List Addr} {rs : List (List D)} (k : EB X W (ρ.set i (some (.lst (rs.map .lst)))) rest N R B C) (hi : ρ[i]? = some (some (.lst (as.map .adr))) := by rfl) : EB X (MFr X.K W as rs) ρ rest N R B C := fun Hb H σ x I w => by
  obtain ⟨v, e1, e2⟩ := I.at_ i _ hi
  obtain ⟨l, vs, rfl, h1, h2⟩ := is_lst.mp e2
  obtain ⟨Hb', y1, y2, y3, y4⟩ := mfr_done w x
  have e3 := isL_adr h2
  subst e3
  exact EbD.widen y1 (k Hb' H σ y2 ((I.mono y1).known e1 (is_lst.mpr ⟨l, _, rfl, y1 _ _ h1, y4⟩)) y3)
/-- the i-th of them -/
theorem eb_mfr {as : List Addr} {rs : List (List D)} {j : Nat} {a : Addr} {r : List D} (h1 : as[j]? = some a) (h2 : rs[j]? = some r) (k : EB X (Fram X.K (MFr X.K W (as.eraseIdx j) (rs.eraseIdx j)) a r) ρ rest N R B C) : EB X (MFr X.K W as rs) ρ rest N R B C := k.pre fun _ _ w => mfr_out h1 h2 w
end
end Sm
set_option maxHeartbeats 4000000
/-! Sm23: x, y = e. -/
namespace Sm
open PySem PySem.Spec PyProof.Rows L2

section
variable {X : Cx} {W : As} {ρ : En} {e : Expr} {d1 d2 : D} {pos px py pt : Pos} {kt : Nat} {x y : Str} {rest : List Stmt} {N : En → As} {R : D → As} {B C : En → As}
theorem eb_unp2 (i j : Nat) [Stb W] (hc : X.calm = true) (hN : X.N.Nodup) (he : ED X ρ e (.tup [d1, d2])) (k : EB X W ((ρ.set i (some d1)).set j (some d2)) rest N R B C)
    (hg1 : PG X (.Name x px) (gName i)) (hg2 : PG X (.Name y py) (gName j)) (hn : (assignEach [.Name x px, .Name y py] X.env).length = 2 := by rfl) (hst : (assignEach [.Name x px, .Name y py] X.env).findIdx? (·.1) = none := by rfl)
    (hs : swapsWithSole [.Tuple [.Name x px, .Name y py] kt pt] e pos.line X.env = pure false := by rfl) (hw : swappedStores [.Tuple [.Name x px, .Name y py] kt pt] e X.env = pure none := by rfl)
    (h1 : (assignEach [.Tuple [.Name x px, .Name y py] kt pt] X.env).map (·.2) = [assign (.Tuple [.Name x px, .Name y py] kt pt) X.env] := by rfl) : EB X W ρ (.Assign [.Tuple [.Name x px, .Name y py] kt pt] e pos :: rest) N R B C := by
  refine eb_st (N1 := fun ρ' Hb H => ρ' = ((ρ.set i (some d1)).set j (some d2)) ∧ W Hb H) (ps_asg pe_sm (pg_tup hc (pgs_cons hg1 (pgs_cons hg2 pgs_nil)) hn hst) hs hw h1) (fun Hb H σ x1 I w Nx kk => ?_) fun ρ' Hb H σ x I ⟨e, w⟩ => by subst e; exact k Hb H σ x I w
  refine (he Hb H σ x1 I).mono fun v H1 ⟨Hb1, x2, q1⟩ => ?_
  obtain ⟨a, ys, rfl, ha, hy⟩ := is_tup.mp q1
  obtain ⟨v, u, rfl, z1, z2⟩ := es_two hy
  exact ⟨a, [v, u], rfl, Evl.ex_t x2.in_ ha, rfl, v, [u], rfl, u, [], rfl, rfl, kk _ _ _ Hb1 x2.b x2.in_ (((I.mono x2.b).set i z1).set j z2) ⟨rfl, Stb.st w x2⟩⟩
end
end Sm
set_option maxHeartbeats 4000000
/-! Sm24: the last of a list; a new dict for a call. -/
namespace Sm
open PySem PySem.Spec PyProof.Rows L2

section
variable {X : Cx} {ρ : En} {a b e : Expr} {i : Int} {ds : List D} {d : D} {pos p p2 : Pos}
theorem ed_neg (h : ED X ρ e (.int i)) : ED X ρ (.UnaryOp .USub e pos) (.int (-i)) := fun Hb H σ x I => .of (pe_un un_neg pe_sm) ((h Hb H σ x I).mono fun v H1 ⟨Hb1, x1, q1⟩ => ⟨i, is_int.mp q1, Hb1, x1, is_int.mpr rfl⟩)
theorem ed_lastL (ha : ED X ρ a (.lst (ds ++ [d]))) (hb : ED X ρ b (.int (-1))) (hs : PlainIx b := by exact fun _ _ => rfl) : ED X ρ (.Subscript a b pos) d := ed_2 (pe_ix ix_list pe_sm pe_sm hs) ha hb fun Hb H v w e h1 h2 Q q => by
  rw [is_int.mp h2]
  obtain ⟨a, vs, rfl, ha, hv⟩ := is_lst.mp h1
  obtain ⟨v, g1, g2⟩ := hv.get (i := ds.length) (d := d) (by rw [List.getElem?_append_right (Nat.le_refl _), Nat.sub_self]; rfl)
  have hl : vs.length = ds.length + 1 := by rw [hv.length, List.length_append]; rfl
  have e1 : vs = vs.take ds.length ++ [v] := by
    have := List.take_append_drop ds.length vs
    rw [← this]
    congr 1
    · rw [this]
    · have h3 : (vs.drop ds.length).length = 1 := by rw [List.length_drop, hl]; omega
      obtain ⟨z, hz⟩ := List.length_eq_one_iff.mp h3
      rw [hz]
      have : vs[ds.length]? = some z := by
        have := congrArg (fun l => l[0]?) hz
        simpa [List.getElem?_drop] using this
      rw [g1] at this
      cases this
      rfl
  exact ⟨a, vs, -1, v, rfl, rfl, SqL.of (e _ _ ha), by rw [e1]; exact atI_last _ _, q _ _ (gd_same e g2)⟩
end
end Sm
set_option maxHeartbeats 4000000
/-! Sm25: dicts under nested keys, held by a name. -/
namespace Sm
open PySem PySem.Spec PyProof.Rows L2

def onePair (Φ : V → V → Hp → Prop) : List (V × V) → Hp → Prop
  | [(y, v)], H => Φ y v H
  | _, _ => False
section
variable {X : Cx} {ke ve : Expr} {pos : Pos} {tk tv : TE}
/-- {k: v} -/
theorem pe_ndisp1 (hu : X.A.units + 16 < cLine) (hk : PE X ke tk) (hv : PE X ve tv) : PE X (.Dict [some ke] [ve] pos) (fun σ H Q => ∀ p, H p = none → tk σ (upd H p (DNo X.prog X.w p [])) fun y H1 => tv σ H1 fun v H2 =>
    H2 p = some (DNo X.prog X.w p []) ∧ ∃ k b, y = .ref b ∧ Is X.K H2 (keyN k) (.ref b) ∧ k.depth ≤ 8 ∧ Q (.ref p) (upd H2 p (DNo X.prog X.w p [(k, b, v)]))) := by
  refine ⟨fun pins s σ H Q I q => ?_⟩
  have hn := I.hok.fresh (Nat.le_refl s.heap.objs.size)
  have I1 : Inv X pins σ (upd H s.heap.objs.size (DNo X.prog X.w s.heap.objs.size [])) { s with heap := s.heap.push { cls := .type "dict", data := .dict #[] } } :=
    I.laid (a := s.heap.objs.size) (o := DNo X.prog X.w s.heap.objs.size []) (t' := s.toks) (fun _ _ q => Heap.get?_push_of_some _ q) (Nat.le_refl _)
      (np_ok ⟨beq_eq_false_iff_ne.mpr (Ne.symm (Nat.ne_of_lt I.big)), Nat.zero_le _, [], .nil, _, #[], 0, Heap.get?_push_size _ rfl, ⟨rfl, rfl, rfl⟩, rfl, rfl, List.nodup_nil⟩)
  have hl : (pairTrees [some ke] [ve] X.env pos).length = 1 := pairTrees_length _ _ _ _ rfl rfl
  rw [arm_eval_Dict, zip_pairTrees [some ke] [ve] X.env pos rfl rfl, dictDisplay_pairs (pairTrees [some ke] [ve] X.env pos) (by intro h; cases h) (by rw [hl]; exact Nat.le_of_lt_succ (by decide))]
  refine wpAny_bind (wpAny_standAt (wpAny_bind (wpAny_subDictH (knd := nestedKind X.prog X.w) (Q := fun d s' => wpAny (model X.prog X.w) X.A (pure (Value.ref d)) (EP X pins σ Q) X.xe s') (show X.A.units + 8 < cLine by omega) (by rw [hl]; decide) ?_)))
  refine thn ((pps_cons (pos := pos) hk hv pps_nil).run pins _ σ _ (onePair fun y v H2 => H2 s.heap.objs.size = some (DNo X.prog X.w s.heap.objs.size []) ∧ ∃ k b, y = .ref b ∧ Is X.K H2 (keyN k) (.ref b) ∧ k.depth ≤ 8 ∧ Q (.ref s.heap.objs.size) (upd H2 s.heap.objs.size (DNo X.prog X.w s.heap.objs.size [(k, b, v)]))) I1 (q _ hn)) fun ws s2 ⟨ps, H2, I2, rel, q2⟩ => ?_
  match ps, q2, rel with
  | [(y, v)], ⟨e0, k, b, ey, hk, hd, q2⟩, rel =>
    subst ey
    cases rel with
    | @cons _ u _ us r1 r2 =>
      cases r2
      obtain ⟨u1, u2⟩ := u
      obtain ⟨r3, r4⟩ := r1
      obtain rfl : u1 = Value.ref b := r3
      have n0 : NAt X.K X.prog X.w H2 s.heap.objs.size [] := ⟨e0, fun x hx => nomatch hx⟩
      obtain ⟨hs0, hz0, us0, pn, dd⟩ := nat_of I2 n0
      cases pn
      refine ⟨[(k, b, u2)], ⟨rfl, rfl, nkey_of I2 hk hd, True.intro⟩, dd, fun h' tk dd' hb => wpAny_pure ?_⟩
      refine ⟨.ref s.heap.objs.size, _, ?_, rfl, q2⟩
      obtain ⟨o, es, ep, ho, h2, h3, h4, _, h5⟩ := dd'
      refine d_write I2 (by rw [e0]; exact True.intro) hb ⟨o, ho⟩ (np_ok ⟨hs0, ?_, _, ?_, o, es, ep, ho, h2, h3, h4, h5⟩)
      · show 1 ≤ sizeLine
        decide
      · exact .cons ⟨rfl, rfl, r4⟩ .nil
  | [], q2, _ => exact q2.elim
  | _ :: _ :: _, q2, _ => exact q2.elim
end
/-! ### two such objects -/
theorem FrC.swap {G G' : As} {a b : Addr} {W : As} [Lcl a G] [Lcl b G'] {Hb H : Hp} (h : FrC G a (FrC G' b W) Hb H) : FrC G' b (FrC G a W) Hb H := by
  obtain ⟨h1, h2, g, h4, h5, g', w⟩ := h
  have ne : b ≠ a := fun e => h5 (by rw [e, hid_same])
  rw [hid_ne ne] at h5
  refine ⟨h4, h5, Lcl.lcl g' (hid_ne ne).symm (Evl.Ex.refl _), h1, by rw [hid_ne ne.symm]; exact h2, Lcl.lcl g (hid_ne ne.symm) (Evl.Ex.refl _), ?_⟩
  rw [hid_swap]; exact w
instance frC2Cell {G G' : As} {a b : Addr} {W : As} [Lcl a G] [Lcl b G'] [Stb W] [Cell a G W] : Cell a G (FrC G' b W) := by
  refine ⟨fun {Hb H} ⟨h1, h2, g', h3⟩ => ?_, fun {Hb H Hb' H'} ⟨h1, h2, g', h3⟩ x n1 n2 g => ?_⟩
  · obtain ⟨g1, g2, g3⟩ := Cell.get (a := a) (G := G) h3
    have ne : a ≠ b := fun z => g2 (by rw [z, hid_same])
    rw [hid_ne ne] at g2
    exact ⟨g1, g2, Lcl.lcl g3 (hid_ne ne).symm (Evl.Ex.refl _)⟩
  · obtain ⟨g1, g2, g3⟩ := Cell.get (a := a) (G := G) h3
    have ne : a ≠ b := fun z => g2 (by rw [z, hid_same])
    have nl : hid H a b ≠ none := by rw [hid_ne ne.symm]; exact h2
    have e : H' b = H b := by
      cases q : H b with
      | none => exact absurd q h2
      | some o =>
        have := x.h b o (by rw [hid_ne ne.symm]; exact q)
        rwa [hid_ne ne.symm] at this
    refine ⟨x.new b nl h1, by rw [e]; exact h2, Lcl.lcl g' e x.b, ?_⟩
    have x2 := x.hid h1 nl
    rw [hid_swap, hid_swap (H := H')] at x2
    exact Cell.step (a := a) (G := G) h3 x2 n1 (by rw [hid_ne ne]; exact n2) (Lcl.lcl g (hid_ne ne) (Evl.Ex.refl _))
theorem FrC.drop {G : As} {a : Addr} {W : As} [Stb W] {Hb H : Hp} (h : FrC G a W Hb H) (e : Evl.Ex Hb H) : W Hb H :=
  Stb.st h.2.2.2 ⟨fun q o z => by
    by_cases ne : q = a
    · rw [ne, hid_same] at z; cases z
    · rwa [hid_ne ne] at z, Evl.Ex.refl _, e, fun q _ z => z⟩
section
variable {X : Cx} {W : As} {ρ : En} {ke ve : Expr} {o e f : Expr} {d : D} {pos p apos cpos : Pos} {x : Str} {rest : List Stmt} {N : En → As} {R : D → As} {B C : En → As} {a : Addr} {G : As} {Ψ Ψ' : XN → Prop} {P : D → Prop}
theorem eb_drop1 [Stb W] (k : EB X W ρ rest N R B C) : EB X (FrC G a W) ρ rest N R B C := fun Hb H σ x I w => k Hb H σ x I (w.drop x)
/-- x = {} -/
theorem eb_setN0 (j : Nat) [Stb W] (hN : X.N.Nodup) (k : ∀ a, EB X (FrC (GN X.K X.prog X.w a fun xs => xs = []) a W) (ρ.set j (some (.adr a))) rest N R B C) (hi : X.N[j]? = some x := by rfl) (hx : Loc X.env.scope x := by first | exact Or.inl rfl | exact Or.inr rfl)
    (hs : swapsWith (.Dict [] [] p) (some (.Name x apos)) pos.line X.env = pure false := by rfl) (hf : X.fn x = true ∨ X.env.scope.names.lookup x = some .local := by first | exact .inl rfl | exact .inr rfl) : EB X W ρ (.Assign [.Name x apos] (.Dict [] [] p) pos :: rest) N R B C := by
  refine eb_st (N1 := fun ρ' Hb H => ∃ a, ρ' = ρ.set j (some (.adr a)) ∧ FrC (GN X.K X.prog X.w a fun xs => xs = []) a W Hb H) (ps_set hN hi hx pe_nnew hs hf) (fun Hb H σ x1 I w Nx kk => fun q hq => ?_) fun ρ' Hb H σ x I ⟨a, e, w⟩ => by subst e; exact k a Hb H σ x I w
  have hb : Hb q = none := Evl.fresh_back x1 hq
  refine kk _ _ _ Hb (.refl _) (Evl.Ex.mut x1 hb) (I.set j (is_adr.mpr rfl)) ⟨q, rfl, hb, by rw [upd_same]; exact (fun z => nomatch z), ⟨[], upd_same, List.nodup_nil, (fun x hx => nomatch hx), rfl⟩, ?_⟩
  rw [hid_upd, hid_of_none hq]
  exact w
/-- x = {k: v} -/
theorem eb_setN1 (j : Nat) {n : Int} {ks : List NestedKey} [Stb W] (hu : X.A.units + 16 < cLine) (hN : X.N.Nodup) (hk : ED X ρ ke (keyN (.tup ks))) (hd : (NestedKey.tup ks).depth ≤ 8) (hv : ED X ρ ve (.int n)) (k : ∀ a, EB X (FrC (GN X.K X.prog X.w a fun xs => ∃ b, xs = [(.tup ks, b, .int n)]) a W) (ρ.set j (some (.adr a))) rest N R B C)
    (hi : X.N[j]? = some x := by rfl) (hx : Loc X.env.scope x := by first | exact Or.inl rfl | exact Or.inr rfl)
    (hs : swapsWith (.Dict [some ke] [ve] p) (some (.Name x apos)) pos.line X.env = pure false := by rfl) (hf : X.fn x = true ∨ X.env.scope.names.lookup x = some .local := by first | exact .inl rfl | exact .inr rfl) : EB X W ρ (.Assign [.Name x apos] (.Dict [some ke] [ve] p) pos :: rest) N R B C := by
  refine eb_st (N1 := fun ρ' Hb H => ∃ a, ρ' = ρ.set j (some (.adr a)) ∧ FrC (GN X.K X.prog X.w a fun xs => ∃ b, xs = [(.tup ks, b, .int n)]) a W Hb H) (ps_set hN hi hx (pe_ndisp1 hu pe_sm pe_sm) hs hf) (fun Hb H σ x1 I w Nx kk => fun q hq => ?_) fun ρ' Hb H σ x I ⟨a, e, w⟩ => by subst e; exact k a Hb H σ x I w
  have hb : Hb q = none := Evl.fresh_back x1 hq
  have x0 : Evl.Ex Hb (upd H q (DNo X.prog X.w q [])) := Evl.Ex.mut x1 hb
  refine (hk Hb _ σ x0 I).mono fun y H1 ⟨Hb1, y1, q1⟩ => (hv Hb1 H1 σ y1.in_ (I.mono y1.b)).mono fun u H2 ⟨Hb2, y2, q2⟩ => ?_
  have xx : Xt Hb (upd H q (DNo X.prog X.w q [])) Hb2 H2 := y1.trans y2
  have nq : (upd H q (DNo X.prog X.w q [])) q ≠ none := by rw [upd_same]; exact fun z => nomatch z
  have hq2 : Hb2 q = none := xx.new q nq hb
  have e2 : H2 q = some (DNo X.prog X.w q []) := xx.h _ _ upd_same
  obtain ⟨b, rfl⟩ := is_tupKey q1
  rw [is_int.mp q2]
  have q3 := q1.mono y2.b
  refine ⟨e2, .tup ks, b, rfl, q3.mono y2.in_, hd, kk _ _ _ Hb2 xx.b (Evl.Ex.mut xx.in_ hq2) ((I.mono xx.b).set j (is_adr.mpr rfl)) ⟨q, rfl, hq2, by rw [upd_same]; exact (fun z => nomatch z), ⟨_, upd_same, by simp, fun z hz => ?_, b, rfl⟩, ?_⟩⟩
  · rw [List.mem_singleton.mp hz]
    exact ⟨q3, hd⟩
  · have x3 := xx.hid hb nq
    rw [hid_upd, hid_of_none hq] at x3
    rw [hid_upd]
    exact Stb.st w x3
/-- d.get(k, n) -/
theorem ew_ngetD [Lcl a (GN X.K X.prog X.w a Ψ)] [Stb W] [hc : Cell a (GN X.K X.prog X.w a Ψ) W] {ks : List NestedKey} {z : Int} (hu : X.A.units + 16 < cLine) (ho : ED X ρ o (.adr a)) (hi : ED X ρ e (keyN (.tup ks))) (hz : ED X ρ f (.int z)) (hd : (NestedKey.tup ks).depth ≤ 8) (hΨ : ∀ xs, Ψ xs → ∃ n, (valN xs (.tup ks)).getD (.int z) = .int n ∧ P (.int n))
    (m : M2 X o "get" apos e f cpos) : EW X W ρ (.Call (.Attribute o "get" apos) [e, f] [] cpos) P := fun Hb H σ x I w0 => by
  refine .of (pe_ngetD hu pe_sm pe_sm pe_sm m) ((ho Hb H σ x I).mono fun v H1 ⟨Hb1, x1, q1⟩ => ?_)
  obtain ⟨m1, m2, ys, f1, f2, f3, f4⟩ := hc.get (Stb.st w0 x1)
  refine ⟨a, ys, is_adr.mp q1, gn_nat x1.in_ f1 f3, (hi Hb1 H1 σ x1.in_ (I.mono x1.b)).mono fun u H2 ⟨Hb2, x2, q2⟩ => (hz Hb2 H2 σ x2.in_ (I.mono (x1.b.trans x2.b))).mono fun t H3 ⟨Hb3, x3, q3⟩ => ?_⟩
  have w2 : W Hb3 H3 := Stb.st w0 (x1.trans (x2.trans x3))
  obtain ⟨n1, n2, xs, g1, g2, g3, g4⟩ := hc.get w2
  obtain ⟨b, rfl⟩ := is_tupKey q2
  obtain ⟨n, e1, e2⟩ := hΨ xs g4
  rw [is_int.mp q3]
  refine ⟨xs, _, b, gn_nat x3.in_ g1 g3, rfl, (q2.mono x3.b).mono x3.in_, hd, Hb3, .int n, (x1.trans (x2.trans x3)).b, x3.in_, w2, e2, by rw [e1]; exact is_int.mpr rfl⟩
/-- list(d) -/
theorem isL_keys {K : PySem.W.Frag} {H : Hp} : ∀ {xs : XN}, (∀ x ∈ xs, Is K H (keyN x.1) (.ref x.2.1) ∧ x.1.depth ≤ 8) → IsL K H (xs.map fun x => keyN x.1) (xs.map fun x => V.ref x.2.1)
  | [], _ => isL_nil.mpr rfl
  | x :: xs, h => isL_cons.mpr ⟨_, _, rfl, (h x List.mem_cons_self).1, isL_keys fun y hy => h y (List.mem_cons_of_mem _ hy)⟩
theorem ew_listN [Lcl a (GN X.K X.prog X.w a Ψ)] [Stb W] [hc : Cell a (GN X.K X.prog X.w a Ψ) W] {ds : List D} (hcm : X.calm = true) (g : X.mg "list" = none) (ho : ED X ρ o (.adr a)) (hΨ : ∀ xs, Ψ xs → (xs.map fun x => keyN x.1) = ds) (hg : Gl X "list" := by rfl)
    (he : starEach [o] X.env = (false, eval o X.env) :: starEach [] X.env := by rfl) : EW X W ρ (.Call (.Name "list" p) [o] [] pos) (· = .lst ds) := fun Hb H σ x I w0 => by
  refine .of (pe_callTy (call_list_N hcm) hg g (by decide +kernel) (pa_cons pe_sm pa_nil he) (by decide) (by decide) he) ?_
  refine (ho Hb H σ x I).mono fun v H1 ⟨Hb1, x1, q1⟩ => ?_
  obtain ⟨n1, n2, xs, g1, g2, g3, g4⟩ := hc.get (Stb.st w0 x1)
  have w1 : W Hb1 H1 := Stb.st w0 x1
  rw [is_adr.mp q1]
  refine ⟨a, xs, rfl, gn_nat x1.in_ g1 g3, fun q hq => ?_⟩
  have hds := hΨ xs g4
  obtain ⟨Hb2, x2, q2⟩ := gd_lst x1.in_ hq (isL_keys g3)
  exact ⟨Hb2, _, x1.b.trans x2.b, x2.in_, Stb.st w1 x2, by rw [← hds], q2⟩
theorem eb_drop2 {G' : As} {b : Addr} [Lcl a G] [Lcl b G'] [Stb W] (k : EB X (FrC G' b W) ρ rest N R B C) : EB X (FrC G' b (FrC G a W)) ρ rest N R B C := fun Hb H σ x I w => k Hb H σ x I ((FrC.swap w).drop x)
theorem eb_retDrop [Stb W] (h : EW X (FrC G a W) ρ e P) (k : ∀ d Hb H, P d → W Hb H → R d Hb H) : EB X (FrC G a W) ρ (.Return (some e) pos :: rest) N R B C := fun Hb H σ x I w =>
  eb_cons (Nx := fun _ _ => False) Hb (.of (ps_ret pe_sm) ((h Hb H σ x I w).mono fun v H' ⟨Hb', d, a1, a2, a3, a4, a5⟩ => ⟨d, Hb', a1, a2, a5, k d _ _ a4 (a3.drop a2)⟩)) fun _ _ z => z.elim
/-! the same, the class, the program and the world by their names -/
variable {K : PySem.W.Frag} {Pg : Program} {w : World}
theorem ew_nget' (hK : X.K = K := by rfl) (hP : X.prog = Pg := by rfl) (hw : X.w = w := by rfl) [Lcl a (GN K Pg w a Ψ)] [Stb W] [hc : Cell a (GN K Pg w a Ψ) W] {ks : List NestedKey} (hu : X.A.units + 16 < cLine) (ho : ED X ρ o (.adr a)) (hi : ED X ρ e (keyN (.tup ks))) (hd : (NestedKey.tup ks).depth ≤ 8) (hΨ : ∀ xs, Ψ xs → ∃ n, valN xs (.tup ks) = some (.int n) ∧ P (.int n)) (hs : NoSl e := by exact fun _ _ => rfl) : EW X W ρ (.Subscript o e pos) P := by
  subst hK hP hw
  exact ew_nget hu ho hi hd hΨ hs
theorem ew_ngetD' (hK : X.K = K := by rfl) (hP : X.prog = Pg := by rfl) (hw : X.w = w := by rfl) [Lcl a (GN K Pg w a Ψ)] [Stb W] [hc : Cell a (GN K Pg w a Ψ) W] {ks : List NestedKey} {z : Int} (hu : X.A.units + 16 < cLine) (ho : ED X ρ o (.adr a)) (hi : ED X ρ e (keyN (.tup ks))) (hz : ED X ρ f (.int z)) (hd : (NestedKey.tup ks).depth ≤ 8) (hΨ : ∀ xs, Ψ xs → ∃ n, (valN xs (.tup ks)).getD (.int z) = .int n ∧ P (.int n))
    (m : M2 X o "get" apos e f cpos) : EW X W ρ (.Call (.Attribute o "get" apos) [e, f] [] cpos) P := by
  subst hK hP hw
  exact ew_ngetD hu ho hi hz hd hΨ m
theorem ew_listN' (hK : X.K = K := by rfl) (hP : X.prog = Pg := by rfl) (hw : X.w = w := by rfl) [Lcl a (GN K Pg w a Ψ)] [Stb W] [hc : Cell a (GN K Pg w a Ψ) W] {ds : List D} (hcm : X.calm = true) (g : X.mg "list" = none) (ho : ED X ρ o (.adr a)) (hΨ : ∀ xs, Ψ xs → (xs.map fun x => keyN x.1) = ds) (hg : Gl X "list" := by rfl)
    (he : starEach [o] X.env = (false, eval o X.env) :: starEach [] X.env := by rfl) : EW X W ρ (.Call (.Name "list" p) [o] [] pos) (· = .lst ds) := by
  subst hK hP hw
  exact ew_listN hcm g ho hΨ hg he
theorem eb_nput' {value : Expr} {i : Expr} {pos' : Pos} (hK : X.K = K := by rfl) (hP : X.prog = Pg := by rfl) (hw : X.w = w := by rfl) [Stb W] [Lcl a (GN K Pg w a Ψ)] {ks : List NestedKey} (hu : X.A.units + 16 < cLine) (hv : EW X (FrC (GN K Pg w a Ψ) a W) ρ value P) (hPd : ∀ d, P d → ∃ n, d = .int n) (ho : ED X ρ o (.adr a)) (hi : ED X ρ i (keyN (.tup ks))) (hd : (NestedKey.tup ks).depth ≤ 8)
    (hΨ : ∀ xs b n, Ψ xs → (xs.map (·.1)).Nodup → P (.int n) → xs.length < sizeLine ∧ Ψ' (putN xs (.tup ks) b (.int n))) (k : EB X (FrC (GN K Pg w a Ψ') a W) ρ rest N R B C) (hs : swapsWith value (some (.Subscript o i pos')) pos.line X.env = pure false := by rfl) :
    EB X (FrC (GN K Pg w a Ψ) a W) ρ (.Assign [.Subscript o i pos'] value pos :: rest) N R B C := by
  subst hK hP hw
  exact eb_nput hu hv hPd ho hi hd hΨ k hs
end
end Sm
set_option maxHeartbeats 4000000
/-! Sm26: {k: v for k in d ..}. -/
namespace Sm
open PySem PySem.Spec PyProof.Rows L2

section
variable {X : Cx} {ρ : En} {pos : Pos}
/-- the reading of a dict's comprehension -/
theorem dc_read {α : Type} {xs : List α} (enc : α → D) {kx vx : Expr} {ifs : List Expr} {scope : Scope} {own : List (Str × Nat)} {g : TG} {pr : α → Bool} {kf : α → Key} {vf : α → D} {τ : α → En} {wi : TI} {Hb H : Hp} {σ : L2.St} {Q : VK} (x : Evl.Ex Hb H) (I : IsE X.K Hb σ ρ)
    (hwi : ∀ R : It → Hp → Prop, (∀ J H1 Hb1, Xt Hb H Hb1 H1 → Wk X.K Hb1 J (xs.map enc) → R J H1) → wi σ H R) (hz : xs.length ≤ sizeLine)
    (hτ : ∀ d ∈ xs, TgD X.K g (own.map (·.2)) (wipeD ρ (own.map (·.2))) (enc d) (τ d))
    (ht : ∀ d ∈ xs, InB X scope fun Y => ETs Y (τ d) ifs (pr d)) (hk : ∀ d ∈ xs, pr d = true → InB X scope fun Y => ED Y (τ d) kx (keyD (kf d))) (he : ∀ d ∈ xs, pr d = true → InB X scope fun Y => ED Y (τ d) vx (vf d)) (hQ : ∀ v H', Gd X.K Hb H (.dct (dcD kf vf (xs.filter pr))) v H' → Q v H') :
    tDc wi g (tBT X scope ifs) (tBE X scope kx) (tBE X scope vx) (own.map (·.2)) σ H Q := by
  refine hwi _ fun J H1 Hb1 x1 ⟨wk1, wk2, wk3⟩ => fun Dl hD => ?_
  refine ⟨fun i m H => m = xs.length - i ∧ i ≤ xs.length ∧ ∃ Hi ws, Xt Hb1 H1 Hi (hid H Dl) ∧ Hi Dl = none ∧ H Dl = some (.dK ws) ∧ IsK X.K Hi (dcD kf vf ((xs.take i).filter pr)) ws, ⟨xs.length, by simp, Nat.zero_le _, Hb1, [], ?_, Evl.fresh_back x1.in_ hD, upd_same, isK_nil.mpr rfl⟩, ?_⟩
  · rw [hid_upd, hid_of_none hD]; exact .refl x1.in_
  rintro i m H2 ⟨rfl, hi, Hi, ws, a1, a2, a3, a4⟩
  have a5 : Evl.Ex Hi H2 := a1.in_.trans hid_ex
  by_cases hlt : i < xs.length
  · refine .inr ⟨wk1 i H2 (a1.b.trans a5) (by rw [List.length_map]; exact hlt), fun H' => i + 1 ≤ xs.length ∧ ∃ Hi ws, Xt Hb1 H1 Hi (hid H' Dl) ∧ Hi Dl = none ∧ H' Dl = some (.dK ws) ∧ IsK X.K Hi (dcD kf vf ((xs.take (i + 1)).filter pr)) ws, fun H' ⟨b1, b2⟩ => ⟨xs.length - (i + 1), by omega, rfl, b1, b2⟩, fun x H3 hy => ?_⟩
    have hd : xs[i]? = some xs[i] := List.getElem?_eq_getElem hlt
    have hm : xs[i] ∈ xs := List.getElem_mem hlt
    have htk : xs.take (i + 1) = xs.take i ++ [xs[i]] := by rw [List.take_add_one, hd]; rfl
    obtain ⟨H3b, x3, q3⟩ := wk3 i Hi H2 x H3 (enc xs[i]) a1.b a5 (by rw [List.getElem?_map, hd]; rfl) hy
    have n2 : H2 Dl ≠ none := by rw [a3]; exact fun z => nomatch z
    have IW : IsE X.K H3b (L2.wipe σ (own.map (·.2))) (wipeD ρ (own.map (·.2))) := ((I.mono x1.b).mono (a1.b.trans x3.b)).wipe _
    refine hτ _ hm H3b H3 _ x x3.in_ IW q3 _ fun σ' I' hw => ⟨hw.trans wipe_wipe, fun s H0 C cl fp => ?_⟩
    intro pins ss J1
    refine (ht _ hm s H0 C cl fp (Xt H3b H3) H3b H3 σ' x3.in_ I' (.refl x3.in_) pins ss J1 |> fun z => thn z fun b s' ⟨H4, J4, H4b, c1, c2, c3, c4⟩ => ⟨H4, J4, ?_⟩)
    have x4 : Xt Hi H2 H4b H4 := x3.trans c3
    subst c4
    by_cases hp : pr xs[i] = true
    · rw [hp]
      refine iteT ?_
      intro s2 H02 C2 cl2 fp2
      refine (hk _ hm hp s2 H02 C2 cl2 fp2 H4b H4 σ' c2 (I'.mono c1)).mono fun v H5 ⟨H5b, x5, q5⟩ => ?_
      intro s3 H03 C3 cl3 fp3
      refine (he _ hm hp s3 H03 C3 cl3 fp3 H5b H5 σ' x5.in_ (I'.mono (c1.trans x5.b))).mono fun w H6 ⟨H6b, x6, q6⟩ => ?_
      have x7 : Xt Hi H2 H6b H6 := (x4.trans x5).trans x6
      have hD6 : H6 Dl = some (.dK ws) := x7.h _ _ a3
      have hn6 : H6b Dl = none := x7.new Dl n2 a2
      have hws : ws.length < sizeLine := by
        have h1 := a4.length
        have h2 := dcD_length (kf := kf) (vf := vf) ((xs.take i).filter pr)
        have h3 := List.length_filter_le pr (xs.take i)
        rw [List.length_take] at h3
        omega
      refine ⟨ws, _, is_key.mp q5, hD6, hws, hlt, H6b, _, ?_, hn6, upd_same, ?_⟩
      · rw [hid_upd]; exact a1.trans (x7.hid a2 n2)
      · rw [htk, List.filter_append, List.filter_cons, hp, if_pos rfl, List.filter_nil, dcD_snoc]
        exact (a4.mono x7.b).put q6
    · rw [Bool.eq_false_iff.mpr hp]
      refine iteF ?_
      refine ⟨hlt, H4b, ws, a1.trans (x4.hid a2 n2), x4.new Dl n2 a2, x4.h _ _ a3, ?_⟩
      rw [htk, List.filter_append, List.filter_cons, Bool.eq_false_iff.mpr hp, if_neg Bool.false_ne_true, List.filter_nil, List.append_nil]
      exact a4.mono x4.b
  · have e : i = xs.length := by omega
    subst e
    rw [List.take_length] at a4
    have x5 : Xt Hi (hid H2 Dl) (upd Hi Dl (.dK ws)) H2 := ⟨hid_ex, Evl.Ex.new a2, fun a o q => by
      by_cases z : a = Dl
      · rw [z, upd_same] at q; rw [z, a3]; exact q
      · rw [upd_ne z] at q; exact a5 a o q, fun a g1 g2 => by
      by_cases z : a = Dl
      · rw [z, hid_same] at g1; exact absurd rfl g1
      · rw [upd_ne z]; exact g2⟩
    exact .inl ⟨wk2 _ H2 (a1.b.trans a5) (by rw [List.length_map]; exact Nat.le_refl _), hQ _ _ ⟨_, x1.trans (a1.trans x5), is_dct.mpr ⟨Dl, ws, rfl, upd_same, a4.mono x5.b⟩⟩⟩

theorem wk_keys {K : PySem.W.Frag} {Hb : Hp} {d : Addr} {o : Obj} {ws : List (Key × V)} {ks : List Key} (h : Hb d = some (.frz o (.dK ws))) (e : ws.map (·.1) = ks) : Wk K Hb (Itk d o ws) (ks.map keyD) := by
  have hl : ws.length = (ks.map keyD).length := by rw [List.length_map, ← e, List.length_map]
  refine ⟨fun i H x hi => ⟨x _ _ h, by rw [hl]; exact hi⟩, fun i H x hi => ⟨x _ _ h, by rw [hl]; exact hi⟩, fun i Hi H y H' dd x1 x2 hd hy => ?_⟩
  obtain ⟨e1, k, v, hk, e2⟩ := hy
  subst e1 e2
  subst e
  rw [List.map_map, List.getElem?_map, hk] at hd
  cases hd
  exact gd_same x2 (is_key.mpr rfl)
theorem isK_bl {K : PySem.W.Frag} {H H' : Hp} : ∀ {kvs : List (Key × D)} {ws : List (Key × V)}, (∀ p ∈ kvs, ∃ b, p.2 = .bl b) → IsK K H kvs ws → IsK K H' kvs ws
  | [], ws, _, h => isK_nil.mpr (isK_nil.mp h)
  | (k, d) :: kvs, ws, hh, h => by
    obtain ⟨v, r, rfl, h1, h2⟩ := isK_cons.mp h
    obtain ⟨b, e⟩ := hh (k, d) List.mem_cons_self
    have e : d = .bl b := e
    subst e
    exact isK_cons.mpr ⟨v, r, rfl, is_bl.mpr (is_bl.mp h1), isK_bl (fun p hp => hh p (List.mem_cons_of_mem _ hp)) h2⟩
theorem putD_bl {k : Key} {b : Bool} {kvs : List (Key × D)} (h : ∀ p ∈ kvs, ∃ b, p.2 = .bl b) : ∀ p ∈ putD kvs k (.bl b), ∃ b, p.2 = .bl b := by
  unfold putD
  split
  · intro p hp
    obtain ⟨q, hq, rfl⟩ := List.mem_map.mp hp
    by_cases e : q.1 = k
    · rw [if_pos e]; exact ⟨b, rfl⟩
    · rw [if_neg e]; exact h q hq
  · intro p hp
    rcases List.mem_append.mp hp with z | z
    · exact h p z
    · rw [List.mem_singleton.mp z]; exact ⟨b, rfl⟩
theorem dcD_bl {α : Type} {kf : α → Key} {b : Bool} (xs : List α) : ∀ p ∈ dcD kf (fun _ => .bl b) xs, ∃ b, p.2 = .bl b := by
  have h : ∀ (xs : List α) (acc : List (Key × D)), (∀ p ∈ acc, ∃ b, p.2 = .bl b) → ∀ p ∈ xs.foldl (fun acc d => putD acc (kf d) (.bl b)) acc, ∃ b, p.2 = .bl b := by
    intro xs
    induction xs with
    | nil => intro acc h; exact h
    | cons x xs ih => intro acc h; exact ih _ (putD_bl h)
  exact h xs [] fun p hp => nomatch hp
theorem ed_dcKeys {xs : List Int} {Φ : Addr → En → Prop} {kx vx tg iter : Expr} {ifs : List Expr} {scope : Scope} {own : List (Str × Nat)} {g : TG} {pr : Int → Bool} {kf : Int → Key} {τ : En → Int → En} (hc : X.calm = true) (hN : X.N.Nodup)
    (hfr : ∀ Hb σ, IsE X.K Hb σ ρ → ∃ d ws ρ2, Hb d = some (.dK ws) ∧ ws.map (·.1) = xs.map Sum.inl ∧ Φ d ρ2 ∧ ∀ o, IsE X.K (upd Hb d (.frz o (.dK ws))) σ ρ2) (hit : ∀ d ρ2, Φ d ρ2 → ED X ρ2 iter (.adr d))
    (ok : BlkOk X.N X.env.scope scope own) (hz : xs.length ≤ sizeLine) (hg : InB X scope fun Y => PG Y tg g) (hτ : ∀ d ρ2, Φ d ρ2 → ∀ x ∈ xs, TgD X.K g (own.map (·.2)) (wipeD ρ2 (own.map (·.2))) (.int x) (τ ρ2 x))
    (ht : ∀ d ρ2, Φ d ρ2 → ∀ x ∈ xs, InB X scope fun Y => ETs Y (τ ρ2 x) ifs (pr x)) (hk : ∀ d ρ2, Φ d ρ2 → ∀ x ∈ xs, pr x = true → InB X scope fun Y => ED Y (τ ρ2 x) kx (keyD (kf x))) (he : ∀ d ρ2, Φ d ρ2 → ∀ x ∈ xs, pr x = true → InB X scope fun Y => ED Y (τ ρ2 x) vx (.bl true)) (hs : ∀ x, foldedSetIterable iter X.env x = pure x := by intro _; rfl) :
    ED X ρ (.DictComp kx vx [⟨tg, iter, ifs, 0⟩] scope pos) (.dct (dcD kf (fun _ => .bl true) (xs.filter pr))) := fun Hb H σ x I => by
  obtain ⟨d, ws, ρ2, hd, hw, hΦ, hI⟩ := hfr Hb σ I
  refine .of (pe_lock (pe_dc (g := g) hc hN (pi_keys pe_sm) ok hg pts_bt pe_bt pe_bt hs)) ⟨d, .dK ws, x _ _ hd, True.intro, fun od => ?_⟩
  have exf : Evl.Ex (upd Hb d (.frz od (.dK ws))) (upd H d (.frz od (.dK ws))) := fun q o z => by
    by_cases n : q = d
    · rw [n, upd_same] at z ⊢; exact z
    · rw [upd_ne n] at z ⊢; exact x q o z
  refine dc_read (fun i : Int => D.int i) (xs := xs) (pr := pr) (kf := kf) (vf := fun _ => .bl true) (τ := τ ρ2) exf (hI od) (fun R k => ?_) hz (hτ d ρ2 hΦ) (ht d ρ2 hΦ) (hk d ρ2 hΦ) (he d ρ2 hΦ) fun v H' ⟨Hb', y, q⟩ => ?_
  · refine ((hit d ρ2 hΦ) _ _ σ exf (hI od)).mono fun v H1 ⟨Hb1, x1, q1⟩ => ?_
    have hf : Hb1 d = some (.frz od (.dK ws)) := x1.b _ _ upd_same
    refine ⟨d, od, is_adr.mp q1, .inl ⟨ws, x1.in_ _ _ hf, k _ _ Hb1 x1 ?_⟩⟩
    have := wk_keys (K := X.K) hf hw
    rwa [List.map_map] at this
  · have e1 : Hb' d = some (.frz od (.dK ws)) := y.b _ _ upd_same
    have e2 : H' d = some (.frz od (.dK ws)) := y.in_ _ _ e1
    refine ⟨e2, upd Hb' d (.dK ws), ⟨fun a o z => ?_, fun a o z => ?_, fun a o z => ?_, fun a z1 z2 => ?_⟩, ?_⟩
    · by_cases n : a = d
      · rw [n, x _ _ hd] at z; rw [n, upd_same]; exact z
      · rw [upd_ne n]; exact y.h a o (by rw [upd_ne n]; exact z)
    · by_cases n : a = d
      · rw [n, hd] at z; rw [n, upd_same]; exact z
      · rw [upd_ne n]; exact y.b a o (by rw [upd_ne n]; exact z)
    · by_cases n : a = d
      · rw [n, upd_same] at z ⊢; exact z
      · rw [upd_ne n] at z ⊢; exact y.in_ a o z
    · have n : a ≠ d := fun z => by rw [z, hd] at z2; cases z2
      rw [upd_ne n]
      exact y.new a (by rw [upd_ne n]; exact z1) (by rw [upd_ne n]; exact z2)
    · obtain ⟨a, ws', rfl, h1, h2⟩ := is_dct.mp q
      have n : a ≠ d := fun z => by rw [z, e1] at h1; cases h1
      exact is_dct.mpr ⟨a, ws', rfl, by rw [upd_ne n]; exact h1, isK_bl (dcD_bl _) h2⟩
end
section
variable {X : Cx}
/-- name = {..} on one line, the name a local -/
theorem ps_setDc {i : Nat} {y : Str} {py : Pos} {kx vx tg iter : Expr} {ifs : List Expr} {scope : Scope} {own : List (Str × Nat)} {pos spos : Pos} {wi : TI} {g : TG} {tt : TT} {tk tv : TE} (hc : X.calm = true) (hN : X.N.Nodup) (hy : X.N[i]? = some y) (hyl : X.env.scope.names.lookup y = some .local)
    (hsw : swapsWith (.DictComp kx vx [⟨tg, iter, ifs, 0⟩] scope pos) (some (.Name y py)) spos.line X.env = pure true) (hi : PI X tg iter wi) (ok : BlkOk X.N X.env.scope scope own)
    (hg : InB X scope fun Y => PG Y tg g) (ht : InB X scope fun Y => PTs Y ifs tt) (hk : InB X scope fun Y => PE Y kx tk) (he : InB X scope fun Y => PE Y vx tv) (hs : ∀ x, foldedSetIterable iter X.env x = pure x := by intro _; rfl) :
    PS X (.Assign [.Name y py] (.DictComp kx vx [⟨tg, iter, ifs, 0⟩] scope pos) spos) (tAsg (tDc wi g tt tk tv (own.map (·.2))) (gName i)) := by
  refine ⟨fun pins s σ H D I h => ?_⟩
  rw [exec_Assign_Name_used _ _ _ _ hsw]
  refine wpAny_bind (wpAny_standAt (wpAny_bind ?_))
  show wpAny _ X.A (do let _ ← comprehension (.DictComp kx vx [⟨tg, iter, ifs, 0⟩] scope pos) scope X.env (firstIterPos [⟨tg, iter, ifs, 0⟩] pos) newDict false (eval iter X.env) (some (assign (.Name y py) X.env))) _ _ s
  have h : tDc wi g tt tk tv (own.map (·.2)) σ H (fun x H1 => gName i x σ H1 D.nx) := h
  refine wpAny_bind (thn (dc_core (Qf := fun _ s' => SP X pins D .next s') hc hN I hi ok hg ht hk he hs h fun L C s' m H' I' q hn f => ?_) fun _ s' hq => wpAny_pure (wpAny_pure hq))
  show wpAny _ _ (assign (.Name y py) X.env (.ref L)) _ _ _
  refine wpAny_assign_Name (store_ok2 (v := V.ref L) I' hN hy (.inl hyl) rfl (fun s2 I2 ⟨a, sb, ha⟩ => ?_) (.inr hyl))
  obtain ⟨f0, f1, f2, f3, f4, f5⟩ := f
  have haC : C ≠ a := by
    rcases ha with z | z
    · rw [z]; exact f1
    · exact fun e => f4 y a z e.symm
  refine ⟨m, hn.sameBut sb haC, fun h3 sb3 => ?_⟩
  exact ⟨_, H', I2.turned (t' := s2.toks) (fun b o hb e => (sb3.2 b hb).trans e) f0 f1 f3 f4 f5, q⟩
theorem sw_trueD {kx vx : Expr} {gs : List Comprehension} {scope : Scope} {pos py : Pos} {y : Str} {l : Nat} {env : Env} (hk : env.scope.kind = .function) (hy : env.scope.names.lookup y = some .local) (hl : (py.line == pos.line) = true)
    (ha : (scope.names.any fun (n, k) => n == y && (k == .local || k == .cell)) = false) : swapsWith (.DictComp kx vx gs scope pos) (some (.Name y py)) l env = pure true := by
  have ky : env.kindOf y = some .local := hy
  have hb : env.blockKind = .function := by unfold Env.blockKind; rw [hk]; rfl
  unfold swapsWith
  simp only [hb, ky, ha, Expr.pos, hl]
  rfl
/-- x = {k: True for k in d ..} on one line -/
theorem st_dcKeys {ρ : En} {i : Nat} {y : Str} {py spos pos : Pos} {xs : List Int} {Φ : Addr → En → Prop} {kx vx tg iter : Expr} {ifs : List Expr} {scope : Scope} {own : List (Str × Nat)} {g : TG} {pr : Int → Bool} {kf : Int → Key} {τ : En → Int → En} (hc : X.calm = true) (hN : X.N.Nodup) (hy : X.N[i]? = some y) (hyl : X.env.scope.names.lookup y = some .local)
    (hsw : swapsWith (.DictComp kx vx [⟨tg, iter, ifs, 0⟩] scope pos) (some (.Name y py)) spos.line X.env = pure true)
    (hfr : ∀ Hb σ, IsE X.K Hb σ ρ → ∃ d ws ρ2, Hb d = some (.dK ws) ∧ ws.map (·.1) = xs.map Sum.inl ∧ Φ d ρ2 ∧ ∀ o, IsE X.K (upd Hb d (.frz o (.dK ws))) σ ρ2) (hit : ∀ d ρ2, Φ d ρ2 → ED X ρ2 iter (.adr d))
    (ok : BlkOk X.N X.env.scope scope own) (hz : xs.length ≤ sizeLine) (hg : InB X scope fun Y => PG Y tg g) (hτ : ∀ d ρ2, Φ d ρ2 → ∀ x ∈ xs, TgD X.K g (own.map (·.2)) (wipeD ρ2 (own.map (·.2))) (.int x) (τ ρ2 x))
    (ht : ∀ d ρ2, Φ d ρ2 → ∀ x ∈ xs, InB X scope fun Y => ETs Y (τ ρ2 x) ifs (pr x)) (hk : ∀ d ρ2, Φ d ρ2 → ∀ x ∈ xs, pr x = true → InB X scope fun Y => ED Y (τ ρ2 x) kx (keyD (kf x))) (he : ∀ d ρ2, Φ d ρ2 → ∀ x ∈ xs, pr x = true → InB X scope fun Y => ED Y (τ ρ2 x) vx (.bl true)) (hs : ∀ x, foldedSetIterable iter X.env x = pure x := by intro _; rfl) :
    ∃ t, PS X (.Assign [.Name y py] (.DictComp kx vx [⟨tg, iter, ifs, 0⟩] scope pos) spos) t ∧ ∀ Hb H σ (D' : Ends), Evl.Ex Hb H → IsE X.K Hb σ ρ →
      (∀ v H', Gd X.K Hb H (.dct (dcD kf (fun _ => .bl true) (xs.filter pr))) v H' → D'.nx (σ.set i (some v)) H') → t D' σ H := by
  refine ⟨_, ps_lock (ps_setDc (g := g) hc hN hy hyl hsw (pi_keys pe_sm) ok hg pts_bt pe_bt pe_bt hs), fun Hb H σ D' x I hD => ?_⟩
  obtain ⟨d, ws, ρ2, hd, hw, hΦ, hI⟩ := hfr Hb σ I
  refine ⟨d, .dK ws, x _ _ hd, True.intro, fun od => ?_⟩
  have exf : Evl.Ex (upd Hb d (.frz od (.dK ws))) (upd H d (.frz od (.dK ws))) := fun q o z => by
    by_cases n : q = d
    · rw [n, upd_same] at z ⊢; exact z
    · rw [upd_ne n] at z ⊢; exact x q o z
  refine dc_read (fun i : Int => D.int i) (xs := xs) (pr := pr) (kf := kf) (vf := fun _ => .bl true) (τ := τ ρ2) exf (hI od) (fun R k => ?_) hz (hτ d ρ2 hΦ) (ht d ρ2 hΦ) (hk d ρ2 hΦ) (he d ρ2 hΦ) fun v H' ⟨Hb', y, q⟩ => ?_
  · refine ((hit d ρ2 hΦ) _ _ σ exf (hI od)).mono fun v H1 ⟨Hb1, x1, q1⟩ => ?_
    have hf : Hb1 d = some (.frz od (.dK ws)) := x1.b _ _ upd_same
    refine ⟨d, od, is_adr.mp q1, .inl ⟨ws, x1.in_ _ _ hf, k _ _ Hb1 x1 ?_⟩⟩
    have := wk_keys (K := X.K) hf hw
    rwa [List.map_map] at this
  · have e1 : Hb' d = some (.frz od (.dK ws)) := y.b _ _ upd_same
    have e2 : H' d = some (.frz od (.dK ws)) := y.in_ _ _ e1
    refine ⟨e2, hD _ _ ⟨upd Hb' d (.dK ws), ⟨fun a o z => ?_, fun a o z => ?_, fun a o z => ?_, fun a z1 z2 => ?_⟩, ?_⟩⟩
    · by_cases n : a = d
      · rw [n, x _ _ hd] at z; rw [n, upd_same]; exact z
      · rw [upd_ne n]; exact y.h a o (by rw [upd_ne n]; exact z)
    · by_cases n : a = d
      · rw [n, hd] at z; rw [n, upd_same]; exact z
      · rw [upd_ne n]; exact y.b a o (by rw [upd_ne n]; exact z)
    · by_cases n : a = d
      · rw [n, upd_same] at z ⊢; exact z
      · rw [upd_ne n] at z ⊢; exact y.in_ a o z
    · have n : a ≠ d := fun z => by rw [z, hd] at z2; cases z2
      rw [upd_ne n]
      exact y.new a (by rw [upd_ne n]; exact z1) (by rw [upd_ne n]; exact z2)
    · obtain ⟨a, ws', rfl, h1, h2⟩ := is_dct.mp q
      have n : a ≠ d := fun z => by rw [z, e1] at h1; cases h1
      exact is_dct.mpr ⟨a, ws', rfl, by rw [upd_ne n]; exact h1, isK_bl (dcD_bl _) h2⟩
end
end Sm
set_option maxHeartbeats 4000000
/-! Lo11: a generator's body over data. -/
namespace Lo
open PySem PySem.Spec PyProof.Rows L2 GenW Sm

/-- what is handed out, as data -/
def RD {δ : Type} (K : PySem.W.Frag) (enc : δ → D) : Hp → V → δ → Prop := fun H x d => Is K H (enc d) x
theorem RD.mono {δ : Type} {K : PySem.W.Frag} {enc : δ → D} (H H' : Hp) (x : V) (d : δ) (e : Evl.Ex H H') (h : RD K enc H x d) : RD K enc H' x d := Is.mono e h
section
variable {δ : Type} {X : Cx} {Y : Gp} {ip : List (Addr × Obj)} {R : Hp → V → δ → Prop} {Fin : Shared → Hp → Prop} {ds : List δ} {H : Hp} {s : Shared} {c : Code} {p : Pos} {fs : List Frame} {σ : L2.St} {ρ : En}
variable {K : Flow → Sem PySem.Fin} {J : Value → Sem PySem.Fin} {gd : Bool → Bool} {lv : List Value → List Value}
theorem Prod.ifD {b0 : Bool} {test : Expr} {body orelse : List Stmt} {pos : Pos} (T : At X Y c fs) (b : BI X Y ip σ H s) (I : IsE X.K H σ ρ) (ht : ET X ρ test b0)
    (k : ∀ H' s' p', BI X Y ip σ H' s' → Evl.Ex H H' → Prod Y R Fin ds H' s' s' ((execs (if b0 = true then body else orelse) X.env).wrap K J gd lv) c p' fs) : Prod Y R Fin ds H s s ((exec (.If test body orelse pos) X.env).wrap K J gd lv) c p fs := by
  refine Prod.ifS T b (Still.refl Y s) pt_sm (Pb := fun c H' => c = b0 ∧ Evl.Ex H H') ((ht H H σ (Evl.Ex.refl _) I).mono fun v H' ⟨e, Hb', x⟩ => ⟨e, x.h⟩) (fun H' s' p' b' z ⟨e, x⟩ => ?_) fun H' s' p' b' z ⟨e, x⟩ => ?_
  · subst e
    exact Prod.rebase x z (k H' s' p' b' x)
  · subst e
    exact Prod.rebase x z (k H' s' p' b' x)
theorem Prod.setD (i : Nat) {d : D} {e : Expr} {x : Str} {pp pos : Pos} (T : At X Y c fs) (b : BI X Y ip σ H s) (I : IsE X.K H σ ρ) (hN : X.N.Nodup) (he : ED X ρ e d)
    (k : ∀ σ' H' s' p', BI X Y ip σ' H' s' → Evl.Ex H H' → IsE X.K H' σ' (ρ.set i (some d)) → Prod Y R Fin ds H' s' s' (K .next) c p' fs) (hi : X.N[i]? = some x := by rfl) (hx : Loc X.env.scope x := by first | exact Or.inl rfl | exact Or.inr rfl)
    (hs : swapsWith e (some (.Name x pp)) pos.line X.env = pure false := by rfl) (hf : X.fn x = true ∨ X.env.scope.names.lookup x = some .local := by first | exact .inl rfl | exact .inr rfl) : Prod Y R Fin ds H s s ((exec (.Assign [.Name x pp] e pos) X.env).wrap K J gd lv) c p fs := by
  refine Prod.stmt T b (Still.refl Y s) (ps_set hN hi hx pe_sm hs hf) (Pn := fun σ' H' => Evl.Ex H H' ∧ IsE X.K H' σ' (ρ.set i (some d))) ((he H H σ (Evl.Ex.refl _) I).mono fun v H' ⟨Hb', x, q⟩ => ⟨x.h, ((I.mono x.b).mono x.in_).set i (q.mono x.in_)⟩) fun σ' H' s' p' b' z ⟨x, i'⟩ => ?_
  exact Prod.rebase x z (k σ' H' s' p' b' x i')
theorem Prod.dropD {d : D} {e : Expr} {pos : Pos} (T : At X Y c fs) (b : BI X Y ip σ H s) (I : IsE X.K H σ ρ) (he : ED X ρ e d)
    (k : ∀ H' s' p', BI X Y ip σ H' s' → Evl.Ex H H' → Prod Y R Fin ds H' s' s' (K .next) c p' fs) (hsw : swapsWith e none pos.line X.env = pure false := by rfl) : Prod Y R Fin ds H s s ((exec (.Expr e pos) X.env).wrap K J gd lv) c p fs := by
  refine Prod.stmt T b (Still.refl Y s) (ps_expr pe_sm hsw) (Pn := fun σ' H' => Evl.Ex H H' ∧ σ' = σ) ((he H H σ (Evl.Ex.refl _) I).mono fun v H' ⟨Hb', x, q⟩ => ⟨x.h, rfl⟩) fun σ' H' s' p' b' z ⟨x, e⟩ => ?_
  subst e
  exact Prod.rebase x z (k H' s' p' b' x)
theorem Prod.yieldD {enc : δ → D} {d : δ} {e : Expr} {yp pos : Pos} (T : At X Y c fs) (hgd : gd false = false) (b : BI X Y ip σ H s) (I : IsE X.K H σ ρ) (he : ED X ρ e (enc d))
    (k : ∀ H' s' p', BI X Y ip σ H' s' → Evl.Ex H H' → Prod Y (RD X.K enc) Fin ds H' s' s' (K .next) c p' fs) (hco : X.env.scope.isCoroutine = false := by rfl) (hi : interactive X.env = false := by rfl) : Prod Y (RD X.K enc) Fin (d :: ds) H s s ((exec (.Expr (.Yield (some e) yp) pos) X.env).wrap K J gd lv) c p fs :=
  Prod.yieldS T hgd b (Still.refl Y s) pe_sm ((he H H σ (Evl.Ex.refl _) I).mono fun v H' ⟨Hb', x, q⟩ => ⟨x.h, q.mono x.in_⟩) k hco hi
/-- the call of a generator def, by its arguments' data -/
def spG {δ : Type} (K : PySem.W.Frag) (φ : List D → List δ → Prop) : SpE δ := fun vs H ds => ∃ dl, IsL K H dl vs ∧ φ dl ds
theorem gevD {k : Nat} {f : Addr} {fd : FuncData} {ps : List Str} {φ : List D → List δ → Prop} {x : Str} {pp pos : Pos} {e : Expr} {es : List Expr} {dl : List D} {pins : List (Addr × Obj)} (F : GFnE X.prog X.w X.K X.mg X.base k f fd ps (spG X.K φ) R) (hr : Room k X.A) (hm : X.mg x = some (.ref f)) (hk : PySem.W.keepIn X.K (.ref f) = true) (hb : Binds X.K fd ps [])
    (hs : ES X ρ (e :: es) dl) (I : IsE X.K H σ ρ) (hφ : φ dl ds) (J : Inv X pins σ H s) (hg : Gl X x := by rfl) (hdb : (x == ("__debug__" : Str)) = false := by decide) (he : starEach (e :: es) X.env = (false, eval e X.env) :: starEach es X.env := by rfl) (hpl : (backTo pos (starEach es X.env)).any (·.1) = false := by rfl) :
    GEv X k (.Call (.Name x pp) (e :: es) [] pos) pins σ H R ds s := by
  obtain ⟨ta, hp, q⟩ := hs
  refine gev_call F hr hg hm hk hb .nil hp J (q H H σ (Evl.Ex.refl _) I _ fun vs H' Hb' x il => ⟨x.h, dl, ?_, hφ⟩) hdb he hpl
  rw [List.append_nil]
  exact il.mono x.in_
theorem Prod.forRangeD (j : Nat) {n : Nat} {x : Str} {e : Expr} {body : List Stmt} {px pr pos pos2 : Pos} {outs : Nat → List δ} {rest : List δ} (T : At X Y c fs) (hgd : gd false = false) (hc : X.calm = true) (b : BI X Y ip σ H s) (I : IsE X.K H σ ρ)
    (hg : PG X (.Name x px) (gName j)) (g : X.mg "range" = none) (he : ED X ρ e (.int (n : Int))) (hz : (n : Int) < 2 ^ 62)
    (turn : ∀ (i : Nat), i < n → ∀ (ip' : List (Addr × Obj)) (c' : Code) (fs' : List Frame) (K' : Flow → Sem PySem.Fin) (J' : Value → Sem PySem.Fin) (gd' : Bool → Bool) (lv' : List Value → List Value) (rest' : List δ) (σ1 : L2.St) (H1 : Hp) (s1 : Shared) (p1 : Pos),
      At X Y c' fs' → gd' false = false → BI X Y ip' σ1 H1 s1 → IsE X.K H1 σ1 (ρ.set j (some (.int (i : Int)))) → Evl.Ex H H1 →
      (∀ H2 s2 p2, BI X Y ip' σ1 H2 s2 → Evl.Ex H1 H2 → Prod Y R Fin rest' H2 s2 s2 (K' .next) c' p2 fs') → Prod Y R Fin (outs i ++ rest') H1 s1 s1 ((execs body X.env).wrap K' J' gd' lv') c' p1 fs')
    (kk : ∀ σ2 H2 s2 p2, BI X Y ip σ2 H2 s2 → Evl.Ex H H2 → Prod Y R Fin rest H2 s2 s2 (K .next) c p2 fs) (hgl : Gl X "range" := by rfl) (hst : starEach [e] X.env = [(false, eval e X.env)] := by rfl) (hs : ∀ v, foldedSetIterable (.Call (.Name "range" pr) [e] [] pos2) X.env v = pure v := by intro _; rfl) :
    Prod Y R Fin ((List.range n).flatMap outs ++ rest) H s s ((exec (.For (.Name x px) (.Call (.Name "range" pr) [e] [] pos2) body [] pos) X.env).wrap K J gd lv) c p fs := by
  obtain ⟨ta, hp, q⟩ := es_cons he es_nil hst
  refine Prod.forRange (lo := 0) (n := n) T hgd hc b (pi_range1 hgl g hp hst) hg (Sg := fun σ' => IsE X.K H σ' (ρ.set j none)) (Sb := fun i σ' => IsE X.K H σ' (ρ.set j (some (.int (i : Int))))) (q H H σ (Evl.Ex.refl _) I _ fun vs H1 Hb1 x1 q1 => ?_) ?_ (fun i σ' H' Q hi hS k => k _ ?_) (fun i hi ip' c' fs' K' J' gd' lv' rest' σ1 H1 s1 p1 T' hgd' b' hS ex k => ?_) (fun σ2 H2 s2 p2 b2 hS ex => kk σ2 H2 s2 p2 b2 ex) hs
  · rw [es_one_int q1]
    refine ⟨n, rfl, by omega, hz, ?_⟩
    rw [Int.toNat_natCast]
    exact ⟨rfl, x1.h⟩
  · exact I.weak (by rw [List.length_set]) fun i d hd => by
      by_cases z : j = i
      · subst z
        rw [List.getElem?_set_self'] at hd
        cases h : ρ[j]? with
        | none => rw [h] at hd; cases hd
        | some _ => rw [h] at hd; cases hd
      · rw [List.getElem?_set_ne z] at hd; exact hd
  · have := hS.set j (d := .int (i : Int)) (v := .int (i : Int)) (is_int.mpr rfl)
    rw [List.set_set] at this
    rw [Int.zero_add]
    exact this
  · refine turn i hi ip' c' fs' K' J' gd' lv' rest' σ1 H1 s1 p1 T' hgd' b' (hS.mono ex) ex fun H2 s2 p2 b2 ex2 => k σ1 H2 s2 p2 b2 (hS.weak (by rw [List.length_set, List.length_set]) fun i' d hd => ?_) ex2
    by_cases z : j = i'
    · subst z
      rw [List.getElem?_set_self'] at hd
      cases h : ρ[j]? with
      | none => rw [h] at hd; cases hd
      | some _ => rw [h] at hd; cases hd
    · rw [List.getElem?_set_ne z] at hd ⊢; exact hd
/-- a name set by a statement that is read so -/
theorem Prod.setS (i : Nat) {d : D} {st : Stmt} (T : At X Y c fs) (b : BI X Y ip σ H s) (I : IsE X.K H σ ρ)
    (hst : ∃ t, PS X st t ∧ ∀ Hb H σ (D' : Ends), Evl.Ex Hb H → IsE X.K Hb σ ρ → (∀ v H', Gd X.K Hb H d v H' → D'.nx (σ.set i (some v)) H') → t D' σ H)
    (k : ∀ σ' H' s' p', BI X Y ip σ' H' s' → Evl.Ex H H' → IsE X.K H' σ' (ρ.set i (some d)) → Prod Y R Fin ds H' s' s' (K .next) c p' fs) : Prod Y R Fin ds H s s ((exec st X.env).wrap K J gd lv) c p fs := by
  obtain ⟨t, h1, h2⟩ := hst
  refine Prod.stmt T b (Still.refl Y s) h1 (Pn := fun σ' H' => Evl.Ex H H' ∧ IsE X.K H' σ' (ρ.set i (some d))) (h2 H H σ _ (Evl.Ex.refl _) I fun v H' ⟨Hb', x, q⟩ => ⟨x.h, ((I.mono x.b).mono x.in_).set i (q.mono x.in_)⟩) fun σ' H' s' p' b' z ⟨x, i'⟩ => ?_
  exact Prod.rebase x z (k σ' H' s' p' b' x i')
end
end Lo
set_option maxHeartbeats 4000000
/-! Ts1: a set's table that only grows by new members: masks up to 8191. -/
namespace Ts
open PySem PySem.Spec PyProof.Rows L2

/-! ### i -> 5 i + 1 runs through all residues of a power of two -/
def sN : Nat → Nat
  | 0 => 0
  | n + 1 => 5 * sN n + 1
theorem sN_add (a : Nat) : ∀ b, sN (b + a) = sN a + 5 ^ a * sN b
  | 0 => by rw [Nat.zero_add]; show sN a = sN a + 5 ^ a * 0; omega
  | b + 1 => by
    rw [show b + 1 + a = (b + a) + 1 by omega]
    show 5 * sN (b + a) + 1 = sN a + 5 ^ a * (5 * sN b + 1)
    have four : ∀ n, 4 * sN n + 1 = 5 ^ n := fun n => by
      induction n with
      | zero => rfl
      | succ n ih =>
        show 4 * (5 * sN n + 1) + 1 = 5 ^ n * 5
        omega
    have h := four a
    rw [sN_add a b]
    generalize sN a = x at h ⊢
    generalize sN b = y
    rw [← h]
    have e1 : (4 * x + 1) * y = 4 * (x * y) + y := by rw [Nat.add_mul, Nat.mul_assoc, Nat.one_mul]
    have e2 : (4 * x + 1) * (5 * y + 1) = 20 * (x * y) + 4 * x + 5 * y + 1 := by
      rw [Nat.add_mul, Nat.mul_add, Nat.one_mul, Nat.mul_one]
      have : 4 * x * (5 * y) = 20 * (x * y) := by rw [Nat.mul_mul_mul_comm]
      omega
    rw [e1, e2]
    omega
theorem sN_four (n : Nat) : 4 * sN n + 1 = 5 ^ n := by
  induction n with
  | zero => rfl
  | succ n ih =>
    show 4 * (5 * sN n + 1) + 1 = 5 ^ n * 5
    omega
/-- behind 2^k steps: 2^k times an odd number -/
theorem sN_pow : ∀ k, ∃ u, sN (2 ^ k) = 2 ^ k * (2 * u + 1)
  | 0 => ⟨0, rfl⟩
  | k + 1 => by
    obtain ⟨u, hu⟩ := sN_pow k
    have h4 := sN_four (2 ^ k)
    refine ⟨u + sN (2 ^ k) * (2 * u + 1), ?_⟩
    have e : sN (2 ^ k + 2 ^ k) = sN (2 ^ k) + 5 ^ (2 ^ k) * sN (2 ^ k) := sN_add _ _
    rw [show 2 ^ (k + 1) = 2 ^ k + 2 ^ k by rw [Nat.pow_succ]; omega, e, ← h4]
    generalize sN (2 ^ k) = x at hu ⊢
    generalize 2 ^ k = p at hu ⊢
    have e1 : (4 * x + 1) * x = 4 * (x * x) + x := by rw [Nat.add_mul, Nat.mul_assoc, Nat.one_mul]
    have e2 : x * x = p * (x * (2 * u + 1)) := by
      conv => lhs; rw [hu]
      rw [Nat.mul_assoc, Nat.mul_comm (2 * u + 1), ← hu]
    rw [e1, e2]
    generalize x * (2 * u + 1) = v
    rw [show 2 * (u + v) + 1 = (2 * u + 1) + 2 * v by omega, Nat.mul_add (p + p), Nat.add_mul p p, Nat.add_mul p p, ← hu]
    have : p * (2 * v) = 2 * (p * v) := by rw [Nat.mul_left_comm]
    omega
theorem lcg_mod (k : Nat) : ∀ n, lcgN (2 ^ k - 1) n = sN n % 2 ^ k
  | 0 => by
    have : 0 < 2 ^ k := Nat.pow_pos (by decide)
    show 0 = 0 % 2 ^ k
    rw [Nat.zero_mod]
  | n + 1 => by
    have hp : 0 < 2 ^ k := Nat.pow_pos (by decide)
    show (lcgN (2 ^ k - 1) n * 5 + 1) % (2 ^ k - 1 + 1) = (5 * sN n + 1) % 2 ^ k
    rw [lcg_mod k n, Nat.sub_add_cancel hp, Nat.mul_comm 5]
    rw [Nat.add_mod, Nat.mul_mod, Nat.mod_mod, ← Nat.mul_mod, ← Nat.add_mod]
theorem sN_onto : ∀ (k j : Nat), j < 2 ^ k → ∃ b, b < 2 ^ k ∧ sN b % 2 ^ k = j
  | 0, j, h => ⟨0, by decide, by
    have : j = 0 := by simp at h; exact h
    rw [this]; rfl⟩
  | k + 1, j, h => by
    have hp : 0 < 2 ^ k := Nat.pow_pos (by decide)
    have h2 : 2 ^ (k + 1) = 2 ^ k + 2 ^ k := by rw [Nat.pow_succ]; omega
    obtain ⟨b, hb, e⟩ := sN_onto k (j % 2 ^ k) (Nat.mod_lt _ hp)
    obtain ⟨u, hu⟩ := sN_pow k
    have m1 : sN b % 2 ^ (k + 1) % 2 ^ k = j % 2 ^ k := by rw [Nat.mod_mod_of_dvd _ (by rw [Nat.pow_succ]; exact Nat.dvd_mul_right _ _)]; exact e
    have l1 : sN b % 2 ^ (k + 1) < 2 ^ k + 2 ^ k := by rw [← h2]; exact Nat.mod_lt _ (Nat.pow_pos (by decide))
    have cut : ∀ x y p : Nat, 0 < p → x < p + p → y < p + p → x % p = y % p → x = y ∨ (x + p = y ∨ x = y + p) := fun x y p hp hx hy e => by
      by_cases c1 : x < p
      · by_cases c2 : y < p
        · rw [Nat.mod_eq_of_lt c1, Nat.mod_eq_of_lt c2] at e; exact .inl e
        · rw [Nat.mod_eq_of_lt c1, Nat.mod_eq_sub_mod (by omega), Nat.mod_eq_of_lt (by omega)] at e; omega
      · by_cases c2 : y < p
        · rw [Nat.mod_eq_of_lt c2, Nat.mod_eq_sub_mod (by omega), Nat.mod_eq_of_lt (by omega)] at e; omega
        · rw [Nat.mod_eq_sub_mod (by omega), Nat.mod_eq_of_lt (by omega), Nat.mod_eq_sub_mod (a := y) (by omega), Nat.mod_eq_of_lt (by omega)] at e; omega
    rcases cut _ j (2 ^ k) hp l1 (by omega) m1 with c | c
    · exact ⟨b, by omega, c⟩
    · refine ⟨b + 2 ^ k, by omega, ?_⟩
      have e5 : sN (b + 2 ^ k) = sN b + 2 ^ (k + 1) * (u + 2 * (sN b * (2 * u + 1))) + 2 ^ k := by
        have h4 := sN_four b
        rw [Nat.add_comm b, sN_add, ← h4, hu, h2]
        generalize sN b = x
        generalize 2 ^ k = p
        have a1 : (4 * x + 1) * (p * (2 * u + 1)) = 4 * (p * (x * (2 * u + 1))) + p * (2 * u + 1) := by
          rw [Nat.add_mul, Nat.one_mul, Nat.mul_assoc, Nat.mul_left_comm x p]
        rw [a1]
        generalize x * (2 * u + 1) = v
        rw [Nat.mul_add p (2 * u) 1, Nat.mul_left_comm p 2 u, Nat.mul_add (p + p) u, Nat.add_mul p p u, Nat.add_mul p p (2 * v), Nat.mul_left_comm p 2 v]
        omega
      rw [e5, Nat.add_right_comm, Nat.add_mul_mod_self_left, Nat.add_mod, Nat.mod_eq_of_lt (show 2 ^ k < 2 ^ (k + 1) by omega)]
      rcases c with c | c
      · rw [c]; exact Nat.mod_eq_of_lt h
      · rw [c, Nat.add_assoc, ← h2, Nat.add_mod_right]; exact Nat.mod_eq_of_lt h
/-! ### the masks that come; the way of a search meets every slot -/
def Msk (m : Nat) : Prop := ∃ k, 1 ≤ k ∧ k ≤ 13 ∧ m + 1 = 2 ^ k
theorem Msk.lcg {m : Nat} (hm : Msk m) (n : Nat) : lcgN m n = sN n % (m + 1) := by
  obtain ⟨k, _, _, e⟩ := hm
  have q := lcg_mod k n
  rw [← e] at q
  exact q
theorem Msk.onto {m j : Nat} (hm : Msk m) (hj : j ≤ m) : ∃ b, b ≤ m ∧ lcgN m b = j := by
  obtain ⟨k, _, _, e⟩ := id hm
  obtain ⟨b, hb, q⟩ := sN_onto k j (by omega)
  refine ⟨b, by omega, ?_⟩
  rw [hm.lcg, e]
  exact q
theorem Msk.again {m : Nat} (hm : Msk m) (n : Nat) : lcgN m (n + (m + 1)) = lcgN m n := by
  obtain ⟨k, _, _, e⟩ := id hm
  obtain ⟨u, hu⟩ := sN_pow k
  rw [hm.lcg, hm.lcg, Nat.add_comm n, sN_add (a := n), e, hu, Nat.mul_left_comm, Nat.add_mul_mod_self_left]
theorem Msk.reach {m i j : Nat} (hm : Msk m) (hi : i ≤ m) (hj : j ≤ m) : ∃ k, k ≤ m ∧ lcgI m i k = j := by
  obtain ⟨a, ha, rfl⟩ := hm.onto hi
  obtain ⟨b, hb, rfl⟩ := hm.onto hj
  by_cases c : a ≤ b
  · exact ⟨b - a, by omega, by rw [lcgN_add, Nat.add_sub_cancel' c]⟩
  · exact ⟨b + (m + 1) - a, by omega, by rw [lcgN_add, Nat.add_sub_cancel' (show a ≤ b + (m + 1) by omega), hm.again]⟩
theorem Msk.runs {m j : Nat} (hm : Msk m) (h : Int) (hj : j ≤ m) : ∃ n, n ≤ m + 12 ∧ runI m (SetTable.bits h) n = j := by
  obtain ⟨k, hk, q⟩ := hm.reach (runI_le m (SetTable.bits h) 12) hj
  refine ⟨12 + k, by omega, ?_⟩
  rw [runI_tail (bits_lt h)]
  exact q
theorem Msk.met {m j : Nat} (hm : Msk m) (h : Int) (hj : j ≤ m) : ∃ k, k < 10 * SetTable.turns m ∧ way m h k = j := by
  obtain ⟨n, hn, q⟩ := hm.runs h hj
  obtain ⟨k, hk, z⟩ := run_nth m (SetTable.bits h) n
  refine ⟨k, by unfold SetTable.turns; omega, ?_⟩
  show (nth m (runAt m (SetTable.bits h % (m + 1)) (SetTable.bits h)) k).j = j
  rw [z]
  exact q
theorem way_in (m : Nat) (h : Int) (k : Nat) : way m h k ≤ m := by
  have b := runEnd_bd (m := m) (i := SetTable.bits h % (m + 1)) (Nat.le_of_lt_succ (Nat.mod_lt (SetTable.bits h) (Nat.succ_pos m)))
  have q := nth_in (m := m) k (runAt m (SetTable.bits h % (m + 1)) (SetTable.bits h)) (by show SetTable.bits h % (m + 1) + (SetTable.runEnd m (SetTable.bits h % (m + 1)) - SetTable.bits h % (m + 1)) ≤ m; omega)
  exact Nat.le_trans (Nat.le_add_right _ _) q

/-! ### a table of n members -/
structure Tb (t : SetTable) (n : Nat) : Prop where
  ris : Ris t.place.toList
  dm : t.dummies = #[]
  sz : t.place.toList.length = n
  msk : Msk t.mask
  bd : ∀ x ∈ t.place.toList, x ≤ t.mask
section
variable {t : SetTable} {n m : Nat}
/-- where a search of what is not in it ends -/
theorem Tb.free (T : Tb t n) (hl : n ≤ t.mask) (h : Int) : ∃ K, K < 10 * SetTable.turns t.mask ∧ way t.mask h K ∉ t.place.toList ∧ ∀ k, k < K → way t.mask h k ∈ t.place.toList := by
  obtain ⟨j, hj, hn⟩ := st_missing t.place.toList (t.mask + 1) (by rw [T.sz]; omega)
  obtain ⟨k, hk, e⟩ := T.msk.met h (Nat.le_of_lt_succ hj)
  obtain ⟨K, h1, h2, h3⟩ := st_least (p := fun k => way t.mask h k ∉ t.place.toList) k (by show way t.mask h k ∉ _; rw [e]; exact hn)
  exact ⟨K, Nat.lt_of_le_of_lt h1 hk, h2, fun k' hk' => Classical.byContradiction (h3 k' hk')⟩
theorem Tb.put (T : Tb t n) {j : Nat} (hj : j ≤ t.mask) (hn : j ∉ t.place.toList) : (t.put j).2 ≤ n ∧ Tb (t.put j).1 (n + 1) ∧ (t.put j).1.mask = t.mask ∧ (t.put j).1.led = t.led ∧ (t.put j).1.plain = t.plain ∧ (t.put j).1.fill = n + 1 := by
  have c : SetTable.below t.place j ≤ t.place.toList.length := by rw [Array.length_toList]; exact (below_cut T.ris j).1
  have pl := put_place t j
  have ln : (t.put j).1.place.toList.length = n + 1 := by rw [pl, len_ins _ c, T.sz]
  refine ⟨by rw [← T.sz]; exact c, ⟨ris_insert T.ris fun e => hn (List.mem_of_getElem? (by rw [Array.getElem?_toList]; exact e)), put_dm T.dm j, ln, T.msk, fun x hx => ?_⟩, rfl, rfl, rfl, ?_⟩
  · rw [pl] at hx
    rcases mem_ins.mp hx with e | hx
    · rw [e]; exact hj
    · exact T.bd x hx
  · unfold SetTable.fill
    rw [put_dm T.dm j, ← Array.length_toList, ln]; rfl
/-! ### all anew, in a larger table -/
structure Ow (m n : Nat) (owner : Array (Option Nat)) : Prop where
  sz : owner.size = m + 1
  all : ∀ k, k < n → ∃ j, j ≤ m ∧ oAt owner j = some k
  ps : ∃ ps : List Nat, ps.length = n ∧ ∀ j, j ≤ m → oAt owner j ≠ none → j ∈ ps
theorem Ow.nil : Ow m 0 (Array.replicate (m + 1) none) := ⟨Array.size_replicate, fun _ h => absurd h (Nat.not_lt_zero _), [], rfl, fun j hj q => absurd (oAt_init hj) q⟩
theorem Ow.next {owner : Array (Option Nat)} (hm : Msk m) (W : Ow m n owner) (hl : n ≤ m) (h : Int) : ∃ j, SetTable.layClean.free m owner (SetTable.turns m) (SetTable.bits h % (m + 1)) (SetTable.bits h) = some j ∧ Ow m (n + 1) (owner.setIfInBounds j (some n)) := by
  obtain ⟨ps, p1, p2⟩ := W.ps
  obtain ⟨j0, q1, q2⟩ := st_missing ps (m + 1) (by omega)
  have f0 : oAt owner j0 = none := Classical.byContradiction fun z => q2 (p2 j0 (Nat.le_of_lt_succ q1) z)
  obtain ⟨r, hr, er⟩ := hm.runs h (Nat.le_of_lt_succ q1)
  have e0 : way m h (off m (SetTable.bits h % (m + 1)) (SetTable.bits h) r) = j0 := by
    show (nth m (runAt m (SetTable.bits h % (m + 1)) (SetTable.bits h)) (off m (SetTable.bits h % (m + 1)) (SetTable.bits h) r)).j = j0
    rw [nth_off, itL_run]
    exact er
  obtain ⟨K, k1, k2, k3⟩ := st_least (p := fun k => oAt owner (way m h k) = none) _ (show oAt owner (way m h (off m (SetTable.bits h % (m + 1)) (SetTable.bits h) r)) = none by rw [e0]; exact f0)
  have some_of : ∀ k, k < K → (oAt owner (way m h k)).isNone = false := fun k hk => by
    cases z : oAt owner (way m h k) with
    | none => exact absurd z (k3 k hk)
    | some _ => rfl
  have hw : way m h K < owner.size := by rw [W.sz]; exact Nat.lt_succ_of_le (way_in m h K)
  refine ⟨way m h K, free_spec m owner (SetTable.turns m) r _ _ K (by unfold SetTable.turns; omega) k1 some_of (show (oAt owner (way m h K)).isNone = true by rw [k2]; rfl), by rw [Array.size_setIfInBounds]; exact W.sz, fun k hk => ?_, way m h K :: ps, by rw [List.length_cons, p1], fun j hj q => ?_⟩
  · by_cases c : k = n
    · exact ⟨way m h K, way_in m h K, by rw [c]; exact oAt_set_self _ hw⟩
    · obtain ⟨j, a1, a2⟩ := W.all k (by omega)
      refine ⟨j, a1, ?_⟩
      rw [oAt_set_ne _ fun z => by rw [z, k2] at a2; cases a2]
      exact a2
  · by_cases c : j = way m h K
    · rw [c]; exact List.mem_cons_self
    · rw [oAt_set_ne _ c] at q
      exact List.mem_cons_of_mem _ (p2 j hj q)
theorem Ow.fold (hm : Msk m) : ∀ (hs : List Int) (n : Nat) (owner : Array (Option Nat)), Ow m n owner → n + hs.length ≤ m → ∃ owner', hs.foldl (stepF m) (some (owner, n)) = some (owner', n + hs.length) ∧ Ow m (n + hs.length) owner'
  | [], n, owner, W, _ => ⟨owner, rfl, W⟩
  | h :: hs, n, owner, W, hl => by
    rw [List.length_cons] at hl
    obtain ⟨j, e, W1⟩ := W.next hm (by omega) h
    obtain ⟨o2, f, W2⟩ := Ow.fold hm hs (n + 1) _ W1 (by omega)
    rw [show n + 1 + hs.length = n + (h :: hs).length by rw [List.length_cons]; omega] at f W2
    exact ⟨o2, by rw [List.foldl_cons, stepF_some e]; exact f, W2⟩
theorem anew {t : SetTable} {hs : Array Int} {wanted M : Nat} (hw : SetTable.sizeAbove wanted - 1 = M) (hM : Msk M) (hn : hs.size ≤ M) :
    ∃ t' order, t.relaid hs wanted = some (t', order) ∧ order.toList.Perm (List.range hs.size) ∧ Tb t' hs.size ∧ t'.mask = M ∧ t'.led = t.led ∧ t'.plain = t.plain := by
  obtain ⟨owner, f, W⟩ := Ow.fold hM hs.toList 0 _ Ow.nil (by rw [Nat.zero_add, Array.length_toList]; exact hn)
  rw [Nat.zero_add, Array.length_toList] at f W
  have lc : SetTable.layClean M hs = some owner := by rw [layClean_eq, f]; rfl
  have hr : t.relaid hs wanted = some (tabOf t M owner, ((liveOf M owner).map (·.2)).toArray) := by rw [relaid_eq, hw, lc]; rfl
  obtain ⟨r1, r2⟩ := ris_live (fun j => owner.getD j none) (List.range (M + 1)) List.pairwise_lt_range
  have r1 : Ris ((liveOf M owner).map (·.1)) := r1
  have r2 : ∀ x ∈ (liveOf M owner).map (·.1), x ∈ List.range (M + 1) := r2
  have own : ∀ {k : Nat}, k < hs.size → ∃ j, (j, k) ∈ liveOf M owner := fun {k} hk => let ⟨j, a, b⟩ := W.all k hk; ⟨j, (mem_live W.sz).mpr ⟨a, b⟩⟩
  have ln : (liveOf M owner).length = hs.size := by
    obtain ⟨ps, p1, p2⟩ := W.ps
    have a := nat_nodup_len ((liveOf M owner).map (·.1)) ps (by unfold Ris at r1; exact List.Pairwise.imp (fun h => Nat.ne_of_lt h) r1) fun x hx => by
      obtain ⟨⟨y, k⟩, hq, rfl⟩ := List.mem_map.mp hx
      obtain ⟨b1, b2⟩ := (mem_live W.sz).mp hq
      exact p2 y b1 (by rw [b2]; exact fun z => nomatch z)
    have b := nat_nodup_len (List.range hs.size) ((liveOf M owner).map (·.2)) List.nodup_range fun k hk => let ⟨j, hj⟩ := own (List.mem_range.mp hk); List.mem_map.mpr ⟨_, hj, rfl⟩
    rw [List.length_map] at a b
    rw [List.length_range] at b
    omega
  refine ⟨_, _, hr, perm_range hs.size _ (by show ((liveOf M owner).map (·.2)).length = _; rw [List.length_map]; exact ln) fun k hk => let ⟨j, hj⟩ := own hk; List.mem_map.mpr ⟨_, hj, rfl⟩, ⟨r1, rfl, ?_, hM, fun x hx => ?_⟩, rfl, rfl, rfl⟩
  · show ((liveOf M owner).map (·.1)).length = _
    rw [List.length_map]; exact ln
  · exact Nat.le_of_lt_succ (List.mem_range.mp (r2 x hx))
end
end Ts
set_option maxHeartbeats 4000000
/-! Ts2: a set of tuples that grows by new ones alone. -/
namespace Ts
open PySem PySem.Spec PyProof.Rows L2

/-- the masks, from 8 slots to 8192 -/
def Big (m : Nat) : Prop := m = 7 ∨ m = 31 ∨ m = 127 ∨ m = 511 ∨ m = 2047 ∨ m = 8191
theorem Big.msk {m : Nat} (h : Big m) : Msk m := by
  rcases h with e | e | e | e | e | e <;> subst e
  · exact ⟨3, by decide, by decide, rfl⟩
  · exact ⟨5, by decide, by decide, rfl⟩
  · exact ⟨7, by decide, by decide, rfl⟩
  · exact ⟨9, by decide, by decide, rfl⟩
  · exact ⟨11, by decide, by decide, rfl⟩
  · exact ⟨13, by decide, by decide, rfl⟩
theorem Big.le {m : Nat} (h : Big m) : m ≤ 8191 := by rcases h with e | e | e | e | e | e <;> subst e <;> decide
theorem Big.odd {m : Nat} (h : Big m) : m % 2 = 1 := by rcases h with e | e | e | e | e | e <;> subst e <;> rfl
/-- what the next size is -/
theorem Big.grow {m n : Nat} (h : Big m) (room : n * 5 < m * 3) (full : m * 3 ≤ (n + 1) * 5) (few : n + 1 < 3000) : ∃ M, Big M ∧ SetTable.sizeAbove (SetTable.grown (n + 1)) = M + 1 ∧ (n + 1) * 5 < M * 3 := by
  rcases h with e | e | e | e | e | e <;> subst e
  · obtain rfl : n = 4 := by omega
    exact ⟨31, .inr (.inl rfl), by decide +kernel, by decide⟩
  · obtain rfl : n = 18 := by omega
    exact ⟨127, .inr (.inr (.inl rfl)), by decide +kernel, by decide⟩
  · obtain rfl : n = 76 := by omega
    exact ⟨511, .inr (.inr (.inr (.inl rfl))), by decide +kernel, by decide⟩
  · obtain rfl : n = 306 := by omega
    exact ⟨2047, .inr (.inr (.inr (.inr (.inl rfl)))), by decide +kernel, by decide⟩
  · obtain rfl : n = 1228 := by omega
    exact ⟨8191, .inr (.inr (.inr (.inr (.inr rfl)))), by decide +kernel, by decide⟩
  · omega

abbrev Row : Type := Addr × List Int
structure SR (P : Program) (w : World) (h : Heap) (a : Addr) (L : List Row) (es : Array (Int × Value)) (ep : Nat) (t : SetTable) : Prop where
  obj : ∃ o, h.get? a = some o ∧ o.ExactSet ∧ o.data = .set es ep t
  rows : es.toList = rowsOf P w L
  tb : Tb t L.length
  big : Big t.mask
  nd : (L.map (·.2)).Nodup
  tup : ∀ p ∈ L, IsT P w h p.2 p.1
  pl : t.plain = true
  ld : w.params.followText "set-order" = true ∨ t.led = true
  room : L.length * 5 < t.mask * 3
  few : L.length < 3000
theorem rows_len {P : Program} {w : World} {es : Array (Int × Value)} {L : List Row} (h : es.toList = rowsOf P w L) : es.size = L.length := by
  rw [← Array.length_toList, h]
  unfold rowsOf
  rw [List.length_map]
theorem fits_of {t : SetTable} {n : Nat} (T : Tb t n) (hl : n ≤ t.mask) : t.fits n = true := by
  have hz : t.place.size = n := by rw [← Array.length_toList]; exact T.sz
  unfold SetTable.fits SetTable.fill
  rw [T.dm, hz]
  simp
  exact hl
section
variable {P : Program} {w : World} {A : Around} {E : Value → Shared → Prop} {s : Shared} {a x : Addr} {L : List Row} {es : Array (Int × Value)} {ep : Nat} {t : SetTable} {k : List Int}
theorem SR.fits {h : Heap} (R : SR P w h a L es ep t) : t.fits es.size = true := by
  rw [rows_len R.rows]
  exact fits_of R.tb (by have := R.room; omega)
theorem SR.row {h : Heap} (R : SR P w h a L es ep t) {i : Nat} {p : Row} (q : L[i]? = some p) : es[i]? = some (thash P w p.2, Value.ref p.1) := by
  have e : (rowsOf P w L)[i]? = some (thash P w p.2, Value.ref p.1) := by unfold rowsOf; rw [List.getElem?_map, q]; rfl
  rw [← Array.getElem?_toList, R.rows]
  exact e
theorem calm_of {m : Nat} (h : Big m) {t : SetTable} (e : t.mask = m) : ¬ t.gaveWay = true := by
  unfold SetTable.gaveWay
  rw [e, h.odd]
  decide
theorem dummy_none (m : Nat) : ∀ (n : Nat) (p : SetTable.Probe), p.dummy = none → (nth m p n).dummy = none
  | 0, _, h => h
  | n + 1, p, h => dummy_none m n (adv m p) (by unfold adv; split <;> exact h)
/-- the search of a new one, from the c-th step on -/
theorem look (R : SR P w s.heap a L es ep t) (hx : IsT P w s.heap k x) (hk : k ∉ L.map (·.2)) (hu : A.units < cLine) {K : Nat} (hf : K < 10 * SetTable.turns t.mask) (hK : way t.mask (thash P w k) K ∉ t.place.toList)
    (hb : ∀ c, c < K → way t.mask (thash P w k) c ∈ t.place.toList) {Q : SetFound → Shared → Prop} (q : Q (.free (way t.mask (thash P w k) K) false) s) :
    ∀ (f c : Nat) (st : Option SetTable.Probe), st.getD (t.probeStart (thash P w k)) = nth t.mask (runAt t.mask (SetTable.bits (thash P w k) % (t.mask + 1)) (SetTable.bits (thash P w k))) c → c ≤ K → K < f + c →
      wpAny (model P w) A (setSearchFrom a (.ref x) (thash P w k) true f st) Q E s
  | 0, c, _, _, hc, hn => absurd hn (by omega)
  | f + 1, c, st, hs, hc, hn => by
    obtain ⟨o, ho, hex, hd⟩ := R.obj
    have hS : ∀ d, nth t.mask (nth t.mask (runAt t.mask (SetTable.bits (thash P w k) % (t.mask + 1)) (SetTable.bits (thash P w k))) c) d = nth t.mask (runAt t.mask (SetTable.bits (thash P w k) % (t.mask + 1)) (SetTable.bits (thash P w k))) (c + d) := fun d => (nth_add t.mask c _ d).symm
    have hW : ∀ d, (nth t.mask (nth t.mask (runAt t.mask (SetTable.bits (thash P w k) % (t.mask + 1)) (SetTable.bits (thash P w k))) c) d).j = way t.mask (thash P w k) (c + d) := fun d => congrArg SetTable.Probe.j (hS d)
    rw [setSearchFrom_succ]
    refine wpAny_bind (wpAny_setState_of ho hd R.fits ?_)
    dsimp only
    refine wp_if_neg (calm_of R.big rfl) ?_
    try refine wpAny_bind (wpAny_pure ?_)
    rcases go_spec t R.tb.ris R.tb.dm (fun i => (es[i]?.map (·.1)).getD 0) (thash P w k) (10 * SetTable.turns t.mask) (K - c) _ (dummy_none _ c _ rfl) (by omega) (fun d hd => by rw [hW]; exact hb (c + d) (by omega)) (by rw [hW, Nat.add_sub_cancel' hc]; exact hK) with ⟨d, i, hd1, hi, _, _, hp⟩ | ⟨_, hp⟩
    · have hp2 : t.probe (fun i => (es[i]?.map (·.1)).getD 0) (thash P w k) (st.getD (t.probeStart (thash P w k))) = some (.candidate (way t.mask (thash P w k) (c + d)) i (nth t.mask (runAt t.mask (SetTable.bits (thash P w k) % (t.mask + 1)) (SetTable.bits (thash P w k))) (c + (d + 1)))) := by
        rw [hs, ← hW, ← hS]
        exact hp
      rw [hW] at hi
      rw [hp2]
      dsimp only
      have hil : i < L.length := by
        have h1 := (List.getElem?_eq_some_iff.mp hi).1
        rw [R.tb.sz] at h1
        exact h1
      obtain ⟨p, hL⟩ : ∃ p, L[i]? = some p := ⟨_, List.getElem?_eq_getElem hil⟩
      have hm : p ∈ L := List.mem_of_getElem? hL
      have ne : ¬ p.2 = k := fun e => hk (List.mem_map.mpr ⟨p, hm, e⟩)
      have sl := slot_live R.tb.ris hi
      have onward : wpAny (model P w) A (searchRest a (.ref x) (thash P w k) true f es t (way t.mask (thash P w k) (c + d)) i (nth t.mask (runAt t.mask (SetTable.bits (thash P w k) % (t.mask + 1)) (SetTable.bits (thash P w k))) (c + (d + 1)))) Q E s := by
        unfold searchRest
        rw [R.row hL]
        refine wpAny_bind (wpAny_holding (wpAny_eqBool_tuple hu (R.tup p hm) hx ?_))
        refine wpAny_bind (wpAny_setState_of ho hd R.fits ?_)
        dsimp only
        refine wp_if_neg (by simp [ne]) ?_
        try refine wpAny_bind (wpAny_pure ?_)
        rw [sameMem]
        simp only [if_true, sl, R.row hL]
        refine wpAny_bind (wpAny_isSame_ref_self (wpAny_bind (wpAny_pure ?_)))
        simp only [if_true]
        refine wp_if_neg (by simp [ne]) ?_
        exact look R hx hk hu hf hK hb q f (c + (d + 1)) _ rfl (by omega) (by omega)
      by_cases hl : t.led = true
      · refine wp_if_neg (by simp [hl]) ?_
        try refine wpAny_bind (wpAny_pure ?_)
        exact onward
      · refine wp_if_pos (by simp [hl]) ?_
        refine wpAny_bind (seen_tup hx (fun y hy => ?_) ?_)
        · obtain ⟨e, he, rfl⟩ := List.mem_map.mp hy
          have he2 : e ∈ es.toList := by
            have he1 : e ∈ es ∧ e.1 = thash P w k := by simpa using he
            simpa using he1.1
          rw [R.rows] at he2
          obtain ⟨r, hr, rfl⟩ := List.mem_map.mp he2
          exact ⟨r.2, r.1, rfl, R.tup r hr⟩
        · refine wp_if_neg (by decide) ?_
          try refine wpAny_bind (wpAny_pure ?_)
          exact onward
    · have hp2 : t.probe (fun i => (es[i]?.map (·.1)).getD 0) (thash P w k) (st.getD (t.probeStart (thash P w k))) = some (.empty (way t.mask (thash P w k) K) none) := by
        rw [hs, show way t.mask (thash P w k) K = way t.mask (thash P w k) (c + (K - c)) by rw [Nat.add_sub_cancel' hc], ← hW]
        exact hp
      rw [hp2]
      exact wpAny_pure q
/-- a new table: all anew -/
theorem bigger {o : Obj} (ho : s.heap.get? a = some o) (hex : o.ExactSet) (hd : o.data = .set es ep t) (hr : es.toList = rowsOf P w L) (T : Tb t L.length) (hl : L.length ≤ t.mask) (nd : (L.map (·.2)).Nodup) (tup : ∀ p ∈ L, IsT P w s.heap p.2 p.1)
    (pl : t.plain = true) (ld : w.params.followText "set-order" = true ∨ t.led = true) (few : L.length < 3000) {wanted M : Nat} (hM : Big M) (hw : SetTable.sizeAbove wanted = M + 1) (room : L.length * 5 < M * 3) {Q : Unit → Shared → Prop}
    (q : ∀ h' L' es' ep' t', Heap.SameBut a s.heap h' → SR P w h' a L' es' ep' t' → L'.Perm L → Q () { s with heap := h' }) : wpAny (model P w) A (setRelay a wanted) Q E s := by
  have hz := rows_len hr
  have hle := hM.le
  obtain ⟨t', order, e, hp, T', em, el, epl⟩ := anew (t := t) (hs := es.map (·.1)) (wanted := wanted) (M := M) (by omega) hM.msk (by rw [Array.size_map, hz]; omega)
  rw [Array.size_map, hz] at hp T'
  obtain ⟨L2, r1, r2, _⟩ := order_rows L es order hr hp
  have hz2 : (order.filterMap (es[·]?)).size = es.size := by rw [rows_len r1, r2.length_eq, hz]
  rw [setRelay_eq]
  refine wpAny_bind (wpAny_setState_of ho hd (by rw [hz]; exact fits_of T hl) ?_)
  dsimp only
  refine wp_if_neg (by rw [sizeLine_eq, hw]; omega) ?_
  try refine wpAny_bind (wpAny_pure ?_)
  rw [e]
  refine wpAny_bind ?_
  refine wp_if_neg (by rw [hz2]; simp) ?_
  try refine wpAny_bind (wpAny_pure ?_)
  refine wpAny_pure (wpAny_storeSet_of ho hd ?_ (by rw [hz2, hz, sizeLine_eq]; omega))
  have sb : Heap.SameBut a s.heap (s.heap.update a (Obj.putSet (order.filterMap (es[·]?)) t')) := Heap.SameBut.update ..
  rw [← r2.length_eq] at T' room few
  exact q _ L2 _ (ep + 1) t' sb ⟨⟨_, store_at ho hd, ⟨hex.1, hex.2.1, hex.2.2⟩, rfl⟩, r1, T', by rw [em]; exact hM, (r2.map (·.2)).nodup_iff.mpr nd, fun p m => isT_same (tup p (r2.mem_iff.mp m)) ho hd sb, by rw [epl]; exact pl, by rw [el]; exact ld, by rw [em]; exact room, few⟩ r2
/-- a new one is put in -/
theorem put_in (R : SR P w s.heap a L es ep t) (hx : IsT P w s.heap k x) (hk : k ∉ L.map (·.2)) (hu : A.units < cLine) (few : L.length + 1 < 3000) {Q : Bool → Shared → Prop}
    (q : ∀ b h' L' es' ep' t', Heap.SameBut a s.heap h' → SR P w h' a L' es' ep' t' → L'.Perm ((x, k) :: L) → Q b { s with heap := h' }) : wpAny (model P w) A (setAddHashed a (.ref x) (thash P w k)) Q E s := by
  obtain ⟨o, ho, hex, hd⟩ := R.obj
  have room := R.room
  have hz := rows_len R.rows
  obtain ⟨K, hf, hK, hb⟩ := R.tb.free (by omega) (thash P w k)
  have hK2 : K < 100000 := by
    have := R.big.le
    unfold SetTable.turns at hf
    omega
  unfold setAddHashed
  refine wpAny_holding ?_
  rw [show (100000 : Nat) = 99999 + 1 from rfl, setAddHashedIn_succ]
  refine wpAny_bind (wpAny_setState_of ho hd R.fits ?_)
  dsimp only
  refine wp_if_neg (by simp [byScan, Value.scannable]) ?_
  try refine wpAny_bind (wpAny_pure ?_)
  refine wpAny_bind ?_
  unfold setSearch
  refine look R hx hk hu hf hK hb ?_ 100000 0 none rfl (Nat.zero_le _) (by omega)
  dsimp only
  refine wpAny_bind (wpAny_setState_of ho hd R.fits ?_)
  dsimp only
  obtain ⟨g1, T1, em, el, epl, efl⟩ := R.tb.put (way_in t.mask (thash P w k) K) hK
  have pl1 : (t.put (way t.mask (thash P w k) K)).1.plain = true := by rw [epl]; exact R.pl
  generalize t.put (way t.mask (thash P w k) K) = pt at g1 T1 em el epl efl pl1 ⊢
  obtain ⟨t1, j⟩ := pt
  dsimp only at g1 T1 em el epl efl pl1 ⊢
  first
    | (refine wpAny_bind ?_; refine wp_if_pos pl1 ?_; refine hashBy_tup hx ?_)
    | refine wp_if_pos pl1 (wpAny_bind (hashBy_tup hx ?_))
  simp only [if_true]
  have hin : (SetTable.insertAt es j (thash P w k, Value.ref x)).toList = rowsOf P w (L.take j ++ (x, k) :: L.drop j) := by rw [SetTable.toList_insertAt, rows_put, R.rows]
  have pm := put_perm L j (x, k)
  generalize SetTable.insertAt es j (thash P w k, Value.ref x) = es1 at hin ⊢
  generalize L.take j ++ (x, k) :: L.drop j = L1 at pm hin
  have ln : L1.length = L.length + 1 := pm.length_eq
  have nd1 : (L1.map (·.2)).Nodup := (pm.map (·.2)).nodup_iff.mpr (List.nodup_cons.mpr ⟨hk, R.nd⟩)
  have hz1 := rows_len hin
  refine wpAny_bind (wpAny_storeSet_of ho hd ?_ (by rw [hz1, ln, sizeLine_eq]; omega))
  have sb : Heap.SameBut a s.heap (s.heap.update a (Obj.putSet es1 t1)) := Heap.SameBut.update ..
  have ho1 := store_at (es' := es1) (t' := t1) ho hd
  generalize s.heap.update a (Obj.putSet es1 t1) = h1 at sb ho1 ⊢
  have tup1 : ∀ p ∈ L1, IsT P w h1 p.2 p.1 := fun p m => by
    rcases List.mem_cons.mp (pm.mem_iff.mp m) with e | m
    · rw [e]; exact isT_same hx ho hd sb
    · exact isT_same (R.tup p m) ho hd sb
  have ld1 : w.params.followText "set-order" = true ∨ t1.led = true := by rw [el]; exact R.ld
  rw [← ln] at T1 efl
  by_cases full : t1.tooFull = true
  · have fl : t1.mask * 3 ≤ (L.length + 1) * 5 := by
      unfold SetTable.tooFull at full
      rw [decide_eq_true_eq, efl, ln] at full
      exact full
    obtain ⟨M, hM, hw, hroom⟩ := R.big.grow room (by rw [← em]; exact fl) few
    first
      | (refine wpAny_bind ?_; refine wp_if_pos (by simp [full]) ?_)
      | (refine wp_if_pos (by simp [full]) ?_; refine wpAny_bind ?_)
    rw [hz]
    refine bigger (s := { s with heap := h1 }) ho1 ⟨hex.1, hex.2.1, hex.2.2⟩ rfl hin T1 (by rw [ln, em]; omega) nd1 tup1 pl1 ld1 (by rw [ln]; exact few) hM hw (by rw [ln]; exact hroom) fun h2 L2 es2 ep2 t2 sb2 R2 pm2 => ?_
    exact wpAny_pure (q true h2 L2 es2 ep2 t2 (sb.trans sb2) R2 (pm2.trans pm))
  · first
      | refine wp_if_neg (by simp [full]) ?_
      | (refine wpAny_bind ?_; refine wp_if_neg (by simp [full]) ?_; refine wpAny_pure ?_)
    have fl : ¬ t1.mask * 3 ≤ (L.length + 1) * 5 := by
      unfold SetTable.tooFull at full
      rw [decide_eq_true_eq, efl, ln] at full
      exact full
    exact wpAny_pure (q true h1 L1 es1 (ep + 1) t1 sb ⟨⟨_, ho1, ⟨hex.1, hex.2.1, hex.2.2⟩, rfl⟩, hin, T1, by rw [em]; exact R.big, nd1, tup1, pl1, ld1, by rw [ln]; omega, by rw [ln]; exact few⟩ pm)
end
end Ts
set_option maxHeartbeats 4000000
/-! Ts3: set(xs), sorted(set(xs)), xs a list of tuples of numbers, no two alike. -/
namespace Ts
open PySem PySem.Spec PyProof.Rows L2

abbrev rf (p : Row) : Value := Value.ref p.1
section
variable {P : Program} {w : World} {A : Around} {E : Value → Shared → Prop} {s : Shared}
theorem SR.stay {h h' : Heap} {a : Addr} {L : List Row} {es : Array (Int × Value)} {ep : Nat} {t : SetTable} (R : SR P w h a L es ep t) (ha : ∀ o, h.get? a = some o → h'.get? a = some o) (ht : ∀ p ∈ L, IsT P w h' p.2 p.1) : SR P w h' a L es ep t :=
  let ⟨o, ho, r⟩ := R.obj
  ⟨⟨o, ha o ho, r⟩, R.rows, R.tb, R.big, R.nd, ht, R.pl, R.ld, R.room, R.few⟩
/-- an empty one -/
abbrev noSet (w : World) : Obj := { cls := .type "set", dict := none, data := .set #[] 0 (.fresh 0 0 (!w.params.followText "set-order")) }
theorem empty_set {h : Heap} {a : Addr} (ho : h.get? a = some (noSet w)) : SR P w h a [] #[] 0 (.fresh 0 0 (!w.params.followText "set-order")) where
  obj := ⟨_, ho, ⟨rfl, rfl, rfl⟩, rfl⟩
  rows := rfl
  tb := ⟨List.Pairwise.nil, rfl, rfl, ⟨3, by decide, by decide, rfl⟩, fun _ z => nomatch z⟩
  big := .inl rfl
  nd := List.nodup_nil
  tup := fun _ z => nomatch z
  pl := rfl
  ld := (Bool.eq_false_or_eq_true (w.params.followText "set-order")).imp id fun e => by show (!w.params.followText "set-order") = true; rw [e]; rfl
  room := show 0 * 5 < 7 * 3 by decide
  few := show 0 < 3000 by decide
/-- the loop that fills it -/
theorem filled {I : Addr} {fp wr : List Addr} {G : Array GenState → Array GenState → Prop} {n : Nat} {Pv : Nat → Value → Prop} {St : Nat → Shared → Prop} {R : Result → Shared → Prop} (W : WalksS P w A.in1 I fp wr G n Pv St) (S : Addr) (nS : S ∉ fp) (ks : List Row) (hn : n = ks.length)
    (few : ks.length < 3000) (nd : (ks.map (·.2)).Nodup) (hv : ∀ i v, Pv i v → ∃ p, ks[i]? = some p ∧ v = rf p) (h0 : Heap) (hk : ∀ p ∈ ks, IsT P w h0 p.2 p.1) (hS0 : h0.get? S = none) (hw0 : ∀ b ∈ wr, h0.get? b = none) (hu : A.in1.units < cLine) :
    ∀ (m i : Nat) (s : Shared), i + m = n → St i s → (∀ b o, h0.get? b = some o → s.heap.get? b = some o) → (∃ L es ep t, SR P w s.heap S L es ep t ∧ L.Perm (ks.take i)) →
      (∀ s' L es ep t, Moved (S :: wr) G s s' → SR P w s'.heap S L es ep t → L.Perm ks → (∀ b o, h0.get? b = some o → s'.heap.get? b = some o) → R (.ok (.ret .none)) s') → codeAny (model P w) A (.builtin "set.update.loop" ⟨[.ref S, .ref I], []⟩) R s := by
  have nw : S ∉ wr := fun z => nS (W.sub _ z)
  have up : ∀ b ∈ wr, b ∈ S :: wr := fun b z => List.mem_cons_of_mem _ z
  have stays : ∀ {s s' : Shared}, Moved wr G s s' → (∀ b o, h0.get? b = some o → s.heap.get? b = some o) → ∀ b o, h0.get? b = some o → s'.heap.get? b = some o := fun mv k b o e => mv.heap b o (fun z => by rw [hw0 b z] at e; cases e) (k b o e)
  intro m
  induction m with
  | zero =>
    intro i s hi st kp ⟨L, es, ep, t, hS, pm⟩ hR
    obtain rfl : i = n := hi
    refine codeAny_builtin F.entry_set_update_loop ?_
    rw [Around.under_plainId F.plain_set_update_loop _]
    show wpAny _ A.in1 (pyNext (.ref I) >>= _) _ _ s
    refine wpAny_bind (W.done s _ _ st fun s' mv => ?_)
    show wpAny _ A.in1 (ret Value.none) _ _ s'
    have kp' := stays mv kp
    rw [hn, List.take_length] at pm
    exact wpAny_pure (hR s' L es ep t (mv.mono up) (hS.stay (fun o e => mv.heap S o nw e) fun p z => isT_keep (hk p (pm.mem_iff.mp z)) kp') pm kp')
  | succ m ih =>
    intro i s hi st kp ⟨L, es, ep, t, hS, pm⟩ hR
    have lt : i < n := by omega
    refine codeAny_builtin F.entry_set_update_loop ?_
    rw [Around.under_plainId F.plain_set_update_loop _]
    show wpAny _ A.in1 (pyNext (.ref I) >>= _) _ _ s
    refine wpAny_bind (W.item i s _ _ lt st fun v s' hP st' mv => ?_)
    obtain ⟨p, hp, rfl⟩ := hv i v hP
    have kp' := stays mv kp
    have inK : ∀ q ∈ L, q ∈ ks := fun q z => List.mem_of_mem_take (pm.mem_iff.mp z)
    have hS' : SR P w s'.heap S L es ep t := hS.stay (fun o e => mv.heap S o nw e) fun q z => isT_keep (hk q (inK q z)) kp'
    have hx : IsT P w s'.heap p.2 p.1 := isT_keep (hk p (List.mem_of_getElem? hp)) kp'
    have nxt : ks.take (i + 1) = ks.take i ++ [p] := take_next hp
    have new : p.2 ∉ L.map (·.2) := fun z => by
      have nd2 : ((ks.take (i + 1)).map (·.2)).Nodup := nd.sublist ((List.take_sublist _ _).map _)
      rw [nxt, List.map_append, List.nodup_append] at nd2
      exact nd2.2.2 _ ((pm.map (·.2)).mem_iff.mp z) _ (by simp) rfl
    have ln : L.length = i := by rw [pm.length_eq, List.length_take]; omega
    show wpAny _ A.in1 (holding [rf p] (setAdd S (rf p)) >>= _) _ _ s'
    refine wpAny_bind (wpAny_holding ?_)
    unfold setAdd
    refine wpAny_holding ?_
    refine wpAny_bind (wpAny_pyHash_tuple hu hx ?_)
    refine put_in (s := { s' with toks := s'.toks + (p.2.length + 1) }) hS' hx new hu (by omega) fun b h' L' es' ep' t' sb hS2 pm2 => ?_
    have pm3 : L'.Perm (ks.take (i + 1)) := by
      rw [nxt]
      exact pm2.trans ((List.Perm.cons p pm).trans (List.perm_append_singleton p _).symm)
    have kp2 : ∀ b o, h0.get? b = some o → h'.get? b = some o := fun b o e => (sb.2 b fun z => by rw [z, hS0] at e; cases e).trans (kp' b o e)
    refine wpAny_pure ⟨plainId_quiet F.plain_set_update_loop _, ih (i + 1) _ (by omega) (W.frame _ s' _ _ st' (Nat.le_add_right _ _) fun b z o e => ?_) kp2 ⟨L', es', ep', t', hS2, pm3⟩ fun s2 L2 es2 ep2 t2 mv2 hS3 pm4 kp3 => ?_⟩
    · rw [sb.2 b fun c : b = S => nS (by rw [← c]; exact z)]; exact e
    · refine hR s2 L2 es2 ep2 t2 (Moved.trans W.gtrans ((mv.mono up).then_heap (Nat.le_add_right _ _) fun b o z e => ?_) mv2) hS3 pm4 kp3
      rw [sb.2 b fun c : b = S => z (by rw [c]; exact List.mem_cons_self)]; exact e
/-- set(xs) -/
theorem set_of {l : Addr} {items : Array Value} (ks : List Row) {Q : Value → Shared → Prop} (hh : A.handled = none) (hl : s.heap.IsList l items) (hit : items.toList = ks.map rf) (hk : ∀ p ∈ ks, IsT P w s.heap p.2 p.1) (few : ks.length < 3000) (nd : (ks.map (·.2)).Nodup) (hu : A.units + 3 < cLine)
    (q : ∀ (h' : Heap) (tk : Nat) L es ep t, SR P w h' s.heap.objs.size L es ep t → L.Perm ks → (∀ b o, s.heap.get? b = some o → h'.get? b = some o) → Q (.ref s.heap.objs.size) { s with heap := h', toks := tk }) : wpAny (model P w) A (call (.type "set") [.ref l]) Q E s := by
  have hz : items.size = ks.length := by rw [← Array.length_toList, hit, List.length_map]
  obtain ⟨c, tl, hmro⟩ := F.called_set.mro
  have hmade := F.called_set.made
  have hsub := F.called_set.sub
  refine wpAny_call (codeAny_of_tree ?_)
  show wpAny _ _ (callAny (.type "set") _) _ _ _
  refine wpAny_pure ⟨Code.quiet_builtin _ (by decide +kernel), codeAny_builtin F.entry_type_call ?_⟩
  rw [Around.under_plain (weight_type_call_type "set" [.ref l] []) rfl]
  have h1 := F.called_set.notType
  have h2 := F.called_set.canCreate
  have hct := F.typeCall_set_1 (.ref l)
  repeat (any_goals (first | assumption | wp_step))
  refine codeAny_mono (code_set_led1 (.ref l) (E := E) (Q₁ := fun obj s₁ => obj = .ref s.heap.objs.size ∧ s₁ = { s with heap := s.heap.push (noSet w) }) ⟨rfl, rfl⟩) fun r s₁ hr => ?_
  cases r with
  | error e => exact hr
  | ok fl =>
    cases fl with
    | ret obj =>
      obtain ⟨rfl, rfl⟩ := hr
      have hS : (s.heap.push (noSet w)).get? s.heap.objs.size = some (noSet w) := Heap.get?_push_size _ rfl
      have hT : Shared.TypeIs { s with heap := s.heap.push (noSet w) } (.ref s.heap.objs.size) "set" := ⟨_, hS, rfl⟩
      have hli := F.called_set.init.lookup
      have hbi := F.called_set.init.bind (.ref s.heap.objs.size)
      repeat (any_goals (first | assumption | wp_step))
      refine codeAny_mono (codeAny_call_builtin (R := wants (fun r s₂ => r = .none ∧ ∃ h' tk L es ep t, s₂ = { s with heap := h', toks := tk } ∧ SR P w h' s.heap.objs.size L es ep t ∧ L.Perm ks ∧ (∀ b o, s.heap.get? b = some o → h'.get? b = some o)) E) F.called_set.init.plain F.entry_set_init (check_set_init_1 hT ?_)) fun r₂ s₂ hr₂ => ?_
      · obtain ⟨⟨ocls, odict, odata, oslots⟩, hol, hcl, nl, hdl⟩ := hl
        simp only at hcl hdl
        subst hcl; subst hdl
        have hol' : (s.heap.push (noSet w)).get? l = some { cls := .type "list", dict := odict, data := .seq items nl, slots := oslots } := Heap.get?_push_of_some _ hol
        have hsls := F.sub_list_set
        have hslf := F.sub_list_frozenset
        have hne : (Value.type "list" == Value.type "dict") = false := by decide
        have hl1 : (s.heap.push (noSet w)).IsList l items := ⟨_, hol', rfl, nl, rfl⟩
        unfold Builtin.«set.__init__» noKeywords Builtin.Frozenset.updateFrom
        generalize hPI : pyIter = PI
        wp_walk
        subst hPI
        refine wpAny_pyIter_list hl1 ?_
        refine wpAny_bind (wpAny_runValue ?_)
        have hlS : l < s.heap.objs.size := Heap.lt_size hol
        have hh3 : A.in1.in1.in1.handled = none := by simp [hh]
        have hz1 : (s.heap.push (noSet w)).objs.size = s.heap.objs.size + 1 := Heap.size_push ..
        have hneI : l ≠ (s.heap.push (noSet w)).objs.size := fun e => by rw [hz1] at e; exact absurd e (Nat.ne_of_lt (Nat.lt_succ_of_lt hlS))
        have nS : s.heap.objs.size ∉ [(s.heap.push (noSet w)).objs.size, l] := fun z => by
          rw [hz1] at z
          rcases List.mem_cons.mp z with e | z
          · exact absurd e (Nat.ne_of_lt (Nat.lt_succ_self _))
          · exact absurd (List.mem_singleton.mp z) (Nat.ne_of_gt hlS)
        have hv : ∀ (i : Nat) (v : Value), items[i]? = some v → ∃ p, ks[i]? = some p ∧ v = rf p := fun i v e => by
          rw [← Array.getElem?_toList, hit, List.getElem?_map] at e
          obtain ⟨p, hp, e⟩ := Option.map_eq_some_iff.mp e
          exact ⟨p, hp, e.symm⟩
        have none_of : ∀ b, s.heap.objs.size ≤ b → s.heap.get? b = none := fun b hb => by
          cases z : s.heap.get? b with
          | none => rfl
          | some o => exact absurd (Heap.lt_size z) (Nat.not_lt.mpr hb)
        refine filled ((Walks.list hh3 _ l hneI items).toS) s.heap.objs.size nS ks hz few nd hv s.heap hk (none_of _ (Nat.le_refl _)) (fun b hb => none_of b (by rw [List.mem_singleton.mp hb, hz1]; omega)) hu items.size 0 _ (Nat.zero_add _)
          ⟨⟨_, Heap.get?_push_size _ rfl, rfl, rfl⟩, (hl1.push _)⟩ (fun b o e => Heap.get?_push_of_some _ (Heap.get?_push_of_some _ e)) ⟨[], #[], 0, _, empty_set (Heap.get?_push_of_some _ hS), List.Perm.refl _⟩ ?hR
        case hR =>
          intro s' L es ep t mv hS' pm kp
          obtain ⟨h', g2, d', tk', os'⟩ := s'
          obtain rfl : g2 = s.gens := mv.gens
          obtain rfl : d' = s.drawn := mv.drawn
          obtain rfl : os' = s.os := mv.os
          show wpAny _ _ _ _ _ _
          refine wpAny_pure ?_
          show wpAny _ _ (ret Value.none) _ _ _
          exact wpAny_pure ⟨rfl, h', tk', L, es, ep, t, rfl, hS', pm, kp⟩
      · cases r₂ with
        | error e => exact hr₂
        | ok fl₂ =>
          cases fl₂ with
          | ret r =>
            obtain ⟨rfl, h', tk, L, es, ep, t, rfl, hS', pm, kp⟩ := hr₂
            repeat (any_goals (first | assumption | wp_step))
            exact q _ _ _ _ _ _ hS' pm kp
          | _ => exact hr₂.elim
    | _ => exact hr.elim
end
end Ts
set_option maxHeartbeats 4000000
/-! Ts4: sorted of such a set. -/
namespace Ts
open PySem PySem.Spec PyProof.Rows L2

/-- a list of such a form, in another order -/
theorem perm_form {α β : Type} {f : α → β} : ∀ {l m : List β}, l.Perm m → ∀ L : List α, m = L.map f → ∃ L1 : List α, l = L1.map f ∧ L1.Perm L := by
  intro l m h
  induction h with
  | nil => intro L e; exact ⟨[], rfl, by rw [List.map_eq_nil_iff.mp e.symm]⟩
  | @cons x l1 l2 _ ih =>
    intro L e
    cases L with
    | nil => cases e
    | cons y L =>
      rw [List.map_cons] at e
      injection e with e1 e2
      obtain ⟨L1, h1, h2⟩ := ih L e2
      exact ⟨y :: L1, by rw [List.map_cons, ← e1, ← h1], h2.cons y⟩
  | swap x y l =>
    intro L e
    match L, e with
    | [a, b], e =>
      simp at e
      exact ⟨[b, a], by simp [e.1, e.2.1, e.2.2], List.Perm.swap _ _ _⟩
    | a :: b :: c :: L, e =>
      rw [List.map_cons, List.map_cons] at e
      injection e with e1 e
      injection e with e2 e3
      exact ⟨b :: a :: c :: L, by rw [List.map_cons, List.map_cons, ← e1, ← e2, ← e3], List.Perm.swap _ _ _⟩
  | trans _ _ ih1 ih2 =>
    intro L e
    obtain ⟨L2, h1, h2⟩ := ih2 L e
    obtain ⟨L1, h3, h4⟩ := ih1 L2 h1
    exact ⟨L1, h3, h4.trans h2⟩
/-- a row as a key -/
abbrev ik (r : List Int) : List (Int ⊕ List Nat) := r.map Sum.inl
abbrev ltK (a b : List Int) : Prop := lexLt itemOrd (ik a) (ik b) = true
/-- two orders of the same rows, both ascending: one -/
theorem one_order : ∀ (l m : List Row), l.Perm m → l.Pairwise (fun p q => lexLt itemOrd (ik q.2) (ik p.2) = false) → m.Pairwise (fun p q => ltK p.2 q.2) → l = m
  | [], m, pm, _, _ => (List.nil_perm.mp pm).symm
  | x :: l, [], pm, _, _ => absurd pm.length_eq (by simp)
  | x :: l, y :: m, pm, hl, hm => by
    obtain ⟨l1, l2⟩ := List.pairwise_cons.mp hl
    obtain ⟨m1, m2⟩ := List.pairwise_cons.mp hm
    have e : x = y := by
      rcases List.mem_cons.mp (pm.mem_iff.mp List.mem_cons_self) with e | hx
      · exact e
      · rcases List.mem_cons.mp (pm.mem_iff.mpr List.mem_cons_self) with e | hy
        · exact e.symm
        · have a := l1 y hy
          have b := m1 x hx
          rw [show lexLt itemOrd (ik y.2) (ik x.2) = true from b] at a
          cases a
    subst e
    rw [one_order l m ((List.perm_cons x).mp pm) l2 m2]
section
variable {P : Program} {w : World} {A : Around} {E : Value → Shared → Prop} {s : Shared}
abbrev noTxt : Nat → Bool := fun _ => false
theorem items_key : ∀ {k : List Int} {vs : List Value} (i : Nat), ItemsAre (intKind P w) k vs → tupItems noTxt i vs = some (ik k)
  | [], _, i, .nil => rfl
  | n :: k, _, i, .cons h r => by
    obtain ⟨t, rfl⟩ := Value.isInt_shape h
    have e := items_key (i + 1) r
    show (if noTxt i = true then none else (tupItems noTxt (i + 1) _).map (Sum.inl n :: ·)) = _
    rw [if_neg Bool.false_ne_true, e]
    rfl
theorem key_of {h : Heap} {k : List Int} {b : Addr} (x : IsT P w h k b) : G.tupKeyC h noTxt (.ref b) = some (ik k) := by
  obtain ⟨o, items, n, ho, hc, hd, hi⟩ := x
  exact G.tupKeyC_of ho hc hd (items_key 0 hi)
theorem tup_of {h : Heap} {k : List Int} {b : Addr} (x : IsT P w h k b) (ne : k ≠ []) : ∃ f, TupOf h noTxt (.ref b) f := by
  obtain ⟨o, items, n, ho, hc, hd, hi⟩ := x
  cases k with
  | nil => exact absurd rfl ne
  | cons i k =>
    generalize hv : items.toList = vs at hi
    cases hi with
    | cons h1 r =>
      obtain ⟨t, rfl⟩ := Value.isInt_shape h1
      refine ⟨_, b, o, items, n, rfl, ho, hc, hd, ?_, fun _ => ⟨i, t, rfl⟩, fun z => nomatch z⟩
      rw [← Array.getElem?_toList, hv]; rfl
theorem tups_of {h : Heap} : ∀ (L : List Row), (∀ p ∈ L, IsT P w h p.2 p.1 ∧ p.2 ≠ []) → ∃ fs, TupsOf h noTxt (L.map rf) fs
  | [], _ => ⟨[], .nil⟩
  | p :: L, hL => by
    obtain ⟨f, t⟩ := tup_of (hL p List.mem_cons_self).1 (hL p List.mem_cons_self).2
    obtain ⟨fs, r⟩ := tups_of L fun q z => hL q (List.mem_cons_of_mem _ z)
    exact ⟨f :: fs, .cons t r⟩
/-- sorted(set) -/
theorem sorted_of {a : Addr} {L ks : List Row} {es : Array (Int × Value)} {ep : Nat} {t : SetTable} {Q : Value → Shared → Prop} (R : SR P w s.heap a L es ep t) (hh : A.handled = none) (ne : ∀ p ∈ ks, p.2 ≠ []) (pm : L.Perm ks) (asc : ks.Pairwise fun p q => ltK p.2 q.2)
    (q : ∀ s' p c, (∀ b o, s.heap.get? b = some o → s'.heap.get? b = some o) → s'.gens = s.gens → s'.os = s.os → s.heap.objs.size ≤ p → s'.heap.get? p = some (seqObj "list" (ks.map rf).toArray c) → Q (.ref p) s') :
    wpAny (model P w) A (call (.builtin "sorted") [.ref a]) Q E s := by
  obtain ⟨o, ho, hex, hd⟩ := R.obj
  have hz := rows_len R.rows
  have few := R.few
  refine Calls.call_function_entry kind_sorted plain_sorted entry_sorted (args_sorted1 _) ?_
  unfold Builtin.«sorted»
  refine wpAny_bind (m := checkCount "sorted" 1 1 _) (wpAny_pure ?_)
  refine wpAny_bind (collect_set (A := A.in1) hh ⟨o, ho, hex.1, hd⟩ R.fits (by unfold scanBound; omega) R.tb.ris R.ld fun s1 vs k1 hs g1 o1 pv => ?_)
  have er : es.toList.map (·.2) = L.map rf := by
    rw [R.rows]
    unfold rowsOf
    rw [List.map_map]
    rfl
  obtain ⟨L1, rfl, pm1⟩ := perm_form pv L er
  have ln : (L1.map rf).length < 3000 := by rw [List.length_map, pm1.length_eq]; exact few
  refine wpAny_bind (wpAny_newList ?_ (by rw [sizeLine_eq]; omega))
  have hoL : (s1.heap.push (seqObj "list" (L1.map rf).toArray 0)).get? s1.heap.objs.size = some (seqObj "list" (L1.map rf).toArray 0) := Heap.get?_push_size _ rfl
  have isT : ∀ p ∈ L1, IsT P w (s1.heap.push (seqObj "list" (L1.map rf).toArray 0)) p.2 p.1 ∧ p.2 ≠ [] := fun p hp => ⟨isT_keep (R.tup p (pm1.mem_iff.mp hp)) fun b u e => Heap.get?_push_of_some _ (k1 b u e), ne p ((pm1.trans pm).mem_iff.mp hp)⟩
  obtain ⟨fs, ht⟩ := tups_of L1 isT
  have hkey : ∀ v, v ∈ L1.map rf → ∃ l, G.tupKeyC (s1.heap.push (seqObj "list" (L1.map rf).toArray 0)) noTxt v = some l := fun v hv => by
    obtain ⟨p, hp, rfl⟩ := List.mem_map.mp hv
    exact ⟨_, key_of (isT p hp).1⟩
  refine wpAny_bind (wpAny_holding (wpAny_call_entry slot_list_sort ⟨_, hoL, rfl⟩ entry_list_sort (G.list_sort_tups (s := { s1 with heap := s1.heap.push (seqObj "list" (L1.map rf).toArray 0) }) hoL ht hkey (by rw [sizeLine_eq]; omega) fun st' a1 a2 _ => ⟨_, rfl, ?_⟩) (args_list_sort _)))
  have e1 : (arrOf st').toList.Perm ((L1.map rf).zip (L1.map rf)) := by
    have z := Array.perm_iff_toList_perm.mp a1
    rw [pairsOf_toList] at z
    exact z
  obtain ⟨L2, h2, pm2⟩ := perm_form e1 L1 (f := fun p => (rf p, rf p)) (by rw [List.zip_map', List.map_inj_left]; exact fun _ _ => rfl)
  have srt : (arrOf st').toList.Pairwise (KeyLe (G.tupKindC (s1.heap.push (seqObj "list" (L1.map rf).toArray 0)) noTxt)) := keyLe_of_sorted (fun p hp => by
    rw [h2] at hp
    obtain ⟨r, hr, rfl⟩ := List.mem_map.mp hp
    exact ⟨_, key_of (isT r (pm2.mem_iff.mp hr)).1⟩) (by rw [a1.size_eq]; exact a2)
  rw [h2, List.pairwise_map] at srt
  have e2 : L2 = ks := one_order L2 ks (pm2.trans (pm1.trans pm)) (List.Pairwise.imp_of_mem (fun {p r} hp hr ⟨x, y, kx, ky, le⟩ => by
    have k3 : some (ik p.2) = some x := (key_of (isT p (pm2.mem_iff.mp hp)).1).symm.trans kx
    have k4 : some (ik r.2) = some y := (key_of (isT r (pm2.mem_iff.mp hr)).1).symm.trans ky
    cases k3
    cases k4
    exact le) srt) asc
  have eo : ((arrOf st').map (·.2)) = (ks.map rf).toArray := by
    apply Array.ext'
    rw [Array.toList_map, h2, List.map_map, e2]
    rfl
  rw [eo]
  obtain ⟨c, hc⟩ := sortedHeap_at (vs := L1.map rf) (out := (ks.map rf).toArray) hoL
  refine wpAny_pure ⟨_, rfl, q _ s1.heap.objs.size c (fun b u e => ?_) g1 o1 hs hc⟩
  have z := k1 b u e
  have lt := Heap.lt_size z
  show (sortedHeap (s1.heap.push (seqObj "list" (L1.map rf).toArray 0)) s1.heap.objs.size (L1.map rf) (ks.map rf).toArray).get? b = some u
  rw [sortedHeap_old (Nat.ne_of_lt lt) (by rw [size_push']; exact Nat.lt_succ_of_lt lt)]
  exact Heap.get?_push_of_some _ z
end
end Ts
set_option maxHeartbeats 4000000
/-! Ts5: the rule for sorted(set(e)). -/
namespace Ts
open PySem PySem.Spec PyProof.Rows L2

abbrev vf (p : Row) : V := V.ref p.1
theorem ltK_irr {a : List Int} : ¬ ltK a a := fun h => by
  have z := (listOrd itemOrd).irrefl (ik a)
  rw [show (listOrd itemOrd).blt (ik a) (ik a) = true from h] at z
  cases z
theorem asc_nodup {ks : List Row} (h : ks.Pairwise fun p q => ltK p.2 q.2) : (ks.map (·.2)).Nodup :=
  List.pairwise_map.mpr (h.imp fun {p q} z e => by rw [e] at z; exact ltK_irr z)
section
variable {X : Cx}
def tSS (K : PySem.W.Frag) (ta : TE) : TE := fun σ H Q => ta σ H fun x H1 => ∃ (l : Addr) (ks : List Row), x = V.ref l ∧ SqL K H1 l (ks.map vf) ∧ (∀ p ∈ ks, SqT K H1 p.1 (p.2.map V.int)) ∧ ks.length < 3000 ∧ (∀ p ∈ ks, p.2 ≠ []) ∧ ks.Pairwise (fun p q => ltK p.2 q.2) ∧
  ∀ a, H1 a = none → Q (.ref a) (upd H1 a (.lst (ks.map vf)))
theorem pe_sortSet {a : Expr} {ta : TE} {p p2 q pos : Pos} (hc : X.calm = true) (hu : X.A.units + 64 < cLine) (hg : Gl X "sorted") (hm : X.mg "sorted" = none) (hg2 : Gl X "set") (hm2 : X.mg "set" = none) (ha : PE X a ta)
    (na : starEach [a] X.env = (false, eval a X.env) :: starEach [] X.env := by rfl) (na2 : starEach [.Call (.Name "set" p2) [a] [] q] X.env = (false, eval (.Call (.Name "set" p2) [a] [] q) X.env) :: starEach [] X.env := by rfl) :
    PE X (.Call (.Name "sorted" p) [.Call (.Name "set" p2) [a] [] q] [] pos) (tSS X.K ta) := by
  refine ⟨fun pins s σ H Q I h => ?_⟩
  refine Call_ (ld_blt I hg hm PyProof.Rows.boot_sorted ?_)
  refine PyProof.Rows.callWith_builtin1 (PyProof.Rows.args_cons ?_ na2) na2 rfl
  refine Call_ (ld_blt I hg2 hm2 PyProof.Rows.boot_set ?_)
  refine PyProof.Rows.callWith_type1 (PyProof.Rows.args_cons (thn (ha.run pins s σ H _ I h) fun v s1 ⟨x, H1, I1, r1, q1⟩ => PyProof.Rows.args_nil ?_) na) na rfl
  obtain ⟨l, ks, rfl, hq, hk, few, ne, asc, q1⟩ := q1
  cases r1
  obtain ⟨its, r, pl, hz⟩ := I1.list hq
  refine set_of (P := X.prog) (w := X.w) ks (I1.ok.hd hc) pl.isList (by simpa using refs_of_vals r) (fun p hp => I1.isT (hk p hp)) few (asc_nodup asc) (by omega) fun h' tk L es ep t R pm kp => ?_
  refine PyProof.Rows.args_nil ?_
  have I2 : Inv X pins σ H1 { s1 with heap := h', toks := tk } := I1.kept fun b o e => kp b o e
  refine sorted_of R (I1.ok.hd hc) ne pm asc fun s' b c kp2 g o hb hg => ?_
  have hn : H1 b = none := I2.hok.fresh hb
  have hlen : (ks.map vf).length ≤ sizeLine := by rw [List.length_map, sizeLine_eq]; omega
  have J : Inv X pins σ (upd H1 b (.lst (ks.map vf))) { ({ s1 with heap := h', toks := tk } : Shared) with heap := s'.heap, gens := s'.gens, drawn := s'.drawn, toks := s'.toks } :=
    I2.call (ch := []) (Un.laid kp2 hb hn) (I2.hok.laid kp2 hb ⟨hlen, ks.map rf, c, vals_of_refs ks, hg⟩) (by rw [g]; exact I2.bare) (fun _ z => nomatch z)
  have e : s' = { ({ s1 with heap := h', toks := tk } : Shared) with heap := s'.heap, gens := s'.gens, drawn := s'.drawn, toks := s'.toks } := by
    cases s'
    cases s1
    cases o
    rfl
  rw [e]
  exact ⟨.ref b, _, J, rfl, q1 b hn⟩
end
end Ts
set_option maxHeartbeats 4000000
/-! Sm27: sorted(set(..)) of rows of whole numbers. -/
namespace Sm
open PySem PySem.Spec PyProof.Rows L2

abbrev dRw (row : List Nat) : D := .tup (row.map fun k : Nat => .int (k : Int))
/-- the order of rows -/
def ltR : List Nat → List Nat → Prop
  | [], [] => False
  | [], _ :: _ => True
  | _ :: _, [] => False
  | a :: as, b :: bs => a < b ∨ (a = b ∧ ltR as bs)
theorem ltK_of : ∀ {a b : List Nat}, ltR a b → Ts.ltK (a.map fun k : Nat => (k : Int)) (b.map fun k : Nat => (k : Int))
  | [], [], h => h.elim
  | [], _ :: _, _ => rfl
  | _ :: _, [], h => h.elim
  | a :: as, b :: bs, h => by
    rcases h with h | ⟨e, h⟩
    · exact lex_true.mpr (.inl (show decide ((a : Int) < (b : Int)) = true from decide_eq_true (by omega)))
    · subst e
      exact lex_true.mpr (.inr ⟨show decide ((a : Int) < (a : Int)) = false from decide_eq_false (by omega), ltK_of h⟩)
section
variable {X : Cx} {ρ : En} {e : Expr} {pos p p2 pos2 : Pos} {K : PySem.W.Frag}
theorem row_vals {Hb : Hp} : ∀ {row : List Nat} {vs : List V}, IsL K Hb (row.map fun k : Nat => D.int (k : Int)) vs → vs = (row.map fun k : Nat => (k : Int)).map V.int
  | [], vs, h => isL_nil.mp h
  | k :: row, vs, h => by
    obtain ⟨v, r, rfl, h1, h2⟩ := isL_cons.mp h
    rw [is_int.mp h1, row_vals h2]
    rfl
theorem rows_keys {Hb : Hp} : ∀ {rows : List (List Nat)} {vs : List V}, IsL K Hb (rows.map dRw) vs → ∃ ks : List Ts.Row, vs = ks.map Ts.vf ∧ ks.map (·.2) = rows.map (fun row => row.map fun k : Nat => (k : Int)) ∧ ∀ p ∈ ks, SqT K Hb p.1 (p.2.map V.int)
  | [], vs, h => ⟨[], isL_nil.mp h, rfl, fun _ z => nomatch z⟩
  | row :: rows, vs, h => by
    obtain ⟨v, r, rfl, h1, h2⟩ := isL_cons.mp h
    obtain ⟨a, ws, rfl, ha, hw⟩ := is_tup.mp h1
    obtain ⟨ks, rfl, e2, e3⟩ := rows_keys h2
    rw [row_vals hw] at ha
    refine ⟨(a, row.map fun k : Nat => (k : Int)) :: ks, rfl, by rw [List.map_cons, List.map_cons, e2], fun p hp => ?_⟩
    rcases List.mem_cons.mp hp with e | hp
    · rw [e]; exact ha
    · exact e3 p hp
theorem ed_sortRows (rows : List (List Nat)) (hc : X.calm = true) (hu : X.A.units + 64 < cLine) (g : X.mg "sorted" = none) (g2 : X.mg "set" = none) (h : ED X ρ e (.lst (rows.map dRw))) (hz : rows.length < 3000) (ne : ∀ row ∈ rows, row ≠ []) (hs : rows.Pairwise ltR)
    (hg : Gl X "sorted" := by rfl) (hg2 : Gl X "set" := by rfl) (he : starEach [e] X.env = (false, eval e X.env) :: starEach [] X.env := by rfl)
    (he2 : starEach [.Call (.Name "set" p2) [e] [] pos2] X.env = (false, eval (.Call (.Name "set" p2) [e] [] pos2) X.env) :: starEach [] X.env := by rfl) : ED X ρ (.Call (.Name "sorted" p) [.Call (.Name "set" p2) [e] [] pos2] [] pos) (.lst (rows.map dRw)) := fun Hb H σ x1 I =>
  .of (Ts.pe_sortSet hc hu hg g hg2 g2 pe_sm he he2) ((h Hb H σ x1 I).mono fun v H1 ⟨Hb1, x2, q⟩ => by
    obtain ⟨a, vs, rfl, ha, hv⟩ := is_lst.mp q
    obtain ⟨ks, rfl, e2, e3⟩ := rows_keys hv
    have mem : ∀ p ∈ ks, ∃ row ∈ rows, p.2 = row.map fun k : Nat => (k : Int) := fun p hp => by
      have z : p.2 ∈ ks.map (·.2) := List.mem_map.mpr ⟨p, hp, rfl⟩
      rw [e2] at z
      obtain ⟨row, hr, e⟩ := List.mem_map.mp z
      exact ⟨row, hr, e.symm⟩
    have ln : ks.length = rows.length := by
      have z := congrArg List.length e2
      rw [List.length_map, List.length_map] at z
      exact z
    refine ⟨a, ks, rfl, SqL.of (x2.in_ _ _ ha), fun p hp => Evl.ex_t x2.in_ (e3 p hp), by rw [ln]; exact hz, fun p hp z => ?_, ?_, fun b hb => ?_⟩
    · obtain ⟨row, hr, e⟩ := mem p hp
      rw [e] at z
      exact ne row hr (List.map_eq_nil_iff.mp z)
    · have z : (ks.map (·.2)).Pairwise Ts.ltK := by
        rw [e2, List.pairwise_map]
        exact hs.imp fun {r s} q => ltK_of q
      exact List.pairwise_map.mp z
    · exact ⟨upd Hb1 b (.lst (ks.map Ts.vf)), x2.trans (Xt.made x2.in_ hb), is_lst.mpr ⟨b, _, rfl, upd_same, hv.mono (Evl.Ex.new (Evl.fresh_back x2.in_ hb))⟩⟩)
end
end Sm
set_option maxHeartbeats 4000000
/-! Sm28: a call with a new dict as its last argument. -/
namespace Sm
open PySem PySem.Spec PyProof.Rows L2

section
variable {X : Cx} {ρ : En} {a b c : Expr} {d1 d2 d3 d : D} {x : Str} {p pd pos : Pos} {k : Nat} {φ : List D → Addr → As → (D → Prop) → Prop}
theorem ed_caNew (F : CaC X.prog X.w X.K X.mg X.base k x φ) (hr : Room k X.A) (h1 : ED X ρ a d1) (h2 : ED X ρ b d2) (h3 : ED X ρ c d3) {Ψ : XN → Prop} (h0 : Ψ []) (hφ : ∀ q, φ [d1, d2, d3, .adr q] q (GN X.K X.prog X.w q Ψ) (· = d)) (hg : Gl X x := by rfl) (hdb : (x == ("__debug__" : Str)) = false := by decide)
    (he : starEach [a, b, c, .Dict [] [] pd] X.env = (false, eval a X.env) :: starEach [b, c, .Dict [] [] pd] X.env := by rfl) (he2 : starEach [b, c, .Dict [] [] pd] X.env = (false, eval b X.env) :: starEach [c, .Dict [] [] pd] X.env := by rfl)
    (he3 : starEach [c, .Dict [] [] pd] X.env = (false, eval c X.env) :: starEach [.Dict [] [] pd] X.env := by rfl) (he4 : starEach [.Dict [] [] pd] X.env = (false, eval (.Dict [] [] pd) X.env) :: starEach [] X.env := by rfl)
    (hpl : (backTo pos (starEach [b, c, .Dict [] [] pd] X.env)).any (·.1) = false := by rfl) : ED X ρ (.Call (.Name x p) [a, b, c, .Dict [] [] pd] [] pos) d := fun Hb H σ x1 I => by
  obtain ⟨f, fd, ps, F, g1, g2, g3⟩ := F
  refine .of (pe_call F hr hg g1 g2 g3 .nil pass0 (pa_cons pe_sm (pa_cons pe_sm (pa_cons pe_sm (pa_cons pe_nnew pa_nil he4) he3) he2) he) hdb he hpl) ?_
  refine (h1 Hb H σ x1 I).mono fun v1 H1 ⟨Hb1, y1, q1⟩ => (h2 Hb1 H1 σ y1.in_ (I.mono y1.b)).mono fun v2 H2 ⟨Hb2, y2, q2⟩ => (h3 Hb2 H2 σ y2.in_ (I.mono (y1.b.trans y2.b))).mono fun v3 H3 ⟨Hb3, y3, q3⟩ => fun q hq => ?_
  have xx := y1.trans (y2.trans y3)
  have hb : Hb3 q = none := Evl.fresh_back xx.in_ hq
  refine ⟨Hb3, [d1, d2, d3, .adr q], q, GN X.K X.prog X.w q Ψ, (· = d), Evl.Ex.mut xx.in_ hb, hb, by rw [upd_same]; exact (fun z => nomatch z), ⟨[], upd_same, List.nodup_nil, (fun x hx => nomatch hx), h0⟩,
    isL_cons.mpr ⟨v1, _, rfl, q1.mono (y2.b.trans y3.b), isL_cons.mpr ⟨v2, _, rfl, q2.mono y3.b, isL_cons.mpr ⟨v3, _, rfl, q3, isL_cons.mpr ⟨_, _, rfl, is_adr.mpr rfl, isL_nil.mpr rfl⟩⟩⟩⟩, hφ q, fun Hb' H' d' v e1 xt n1 n2 g' r i => ?_⟩
  rw [hid_upd, hid_of_none hq] at xt
  subst r
  exact ⟨Hb', xx.trans ⟨xt.h.trans hid_ex, xt.b, e1, xt.new⟩, i⟩
end
end Sm
set_option maxHeartbeats 4000000
/-! Lo12: expressions, tests, blocks in which a loud generator runs. -/
namespace Lo
open PySem PySem.Spec PyProof.Rows L2 GenW Sm

abbrev NoX (X : Cx) : Prop := ∀ e s, ¬ X.xe e s
def LE (X : Cx) (e : Expr) : TE := fun σ H Q => ∀ pins s, Inv X pins σ H s → wpE X.prog X.w X.A (eval e X.env) (EP X pins σ Q) (fun _ _ => False) s
def LT (X : Cx) (e : Expr) : TT := fun σ H Q => ∀ pins s, Inv X pins σ H s → wpE X.prog X.w X.A (isTrue e X.env (eval e X.env)) (TP X pins σ Q) (fun _ _ => False) s
def LB (X : Cx) (st : List Stmt) : TS := fun D σ H => ∀ pins s, Inv X pins σ H s → wpE X.prog X.w X.A (execs st X.env) (SP X pins D) (fun _ _ => False) s
section
variable {X : Cx} {e : Expr} {σ : L2.St} {H : Hp} {st : List Stmt}
theorem LE.mono {Q Q' : VK} (h : LE X e σ H Q) (k : ∀ v H', Q v H' → Q' v H') : LE X e σ H Q' := fun pins s I => wpE_thn (h pins s I) fun u s' ⟨v, H', a, b, c⟩ => ⟨v, H', a, b, k _ _ c⟩
theorem LT.mono {Q Q' : Bool → Hp → Prop} (h : LT X e σ H Q) (k : ∀ v H', Q v H' → Q' v H') : LT X e σ H Q' := fun pins s I => wpE_thn (h pins s I) fun u s' ⟨H', a, c⟩ => ⟨H', a, k _ _ c⟩
theorem LB.mono {D D' : Ends} (h : LB X st D σ H) (h1 : ∀ σ H, D.nx σ H → D'.nx σ H) (h2 : ∀ v H, D.rt v H → D'.rt v H) (h3 : ∀ σ H, D.bk σ H → D'.bk σ H) (h4 : ∀ σ H, D.ct σ H → D'.ct σ H) : LB X st D' σ H := fun pins s I => wpE_thn (h pins s I) fun f s' q => SP.mono q h1 h2 h3 h4
theorem LE.of (hx : NoX X) {Q : VK} (h : SmE X e σ H Q) : LE X e σ H Q := fun pins s I => wpE_mono (wpE_of (h pins s I)) (fun _ _ z => z) fun e s z => (hx e s z).elim
theorem LT.of (hx : NoX X) {Q : Bool → Hp → Prop} (h : SmT X e σ H Q) : LT X e σ H Q := fun pins s I => wpE_mono (wpE_of (h pins s I)) (fun _ _ z => z) fun e s z => (hx e s z).elim
theorem LB.of (hx : NoX X) {D : Ends} (h : SmB X st D σ H) : LB X st D σ H := fun pins s I => wpE_mono (wpE_of (h pins s I)) (fun _ _ z => z) fun e s z => (hx e s z).elim
end
def EWL (X : Cx) (W : As) (ρ : En) (e : Expr) (P : D → Prop) : Prop := ∀ Hb H σ, Evl.Ex Hb H → IsE X.K Hb σ ρ → W Hb H → LE X e σ H fun v H' => ∃ Hb' d, Evl.Ex Hb Hb' ∧ Evl.Ex Hb' H' ∧ W Hb' H' ∧ P d ∧ Is X.K Hb' d v
def TWL (X : Cx) (W : As) (ρ : En) (e : Expr) (P : Bool → Prop) : Prop := ∀ Hb H σ, Evl.Ex Hb H → IsE X.K Hb σ ρ → W Hb H → LT X e σ H fun b H' => ∃ Hb', Evl.Ex Hb Hb' ∧ Evl.Ex Hb' H' ∧ W Hb' H' ∧ P b
def EBL (X : Cx) (W : As) (ρ : En) (st : List Stmt) (N : En → As) (R : D → As) (B C : En → As) : Prop := ∀ Hb H σ, Evl.Ex Hb H → IsE X.K Hb σ ρ → W Hb H → LB X st (EbD X.K Hb N R B C) σ H
section
variable {X : Cx} {W : As} {ρ : En} {st : Stmt} {rest body : List Stmt} {N N1 : En → As} {R : D → As} {B C : En → As} {e c a b : Expr} {P : D → Prop} {T T1 T2 : Bool → Prop} {pos : Pos}
theorem ewl_of (hx : NoX X) (h : EW X W ρ e P) : EWL X W ρ e P := fun Hb H σ x I w => .of hx (h Hb H σ x I w)
theorem twl_of (hx : NoX X) (h : TW X W ρ e T) : TWL X W ρ e T := fun Hb H σ x I w => .of hx (h Hb H σ x I w)
theorem ebl_of (hx : NoX X) {st : List Stmt} (h : EB X W ρ st N R B C) : EBL X W ρ st N R B C := fun Hb H σ x I w => .of hx (h Hb H σ x I w)
theorem TWL.imp (h : TWL X W ρ e T) (k : ∀ b, T b → T1 b) : TWL X W ρ e T1 := fun Hb H σ x I w => (h Hb H σ x I w).mono fun b H' ⟨Hb', a1, a2, a3, a4⟩ => ⟨Hb', a1, a2, a3, k b a4⟩
theorem EWL.imp {P' : D → Prop} (h : EWL X W ρ e P) (k : ∀ d, P d → P' d) : EWL X W ρ e P' := fun Hb H σ x I w => (h Hb H σ x I w).mono fun v H' ⟨Hb', d, a1, a2, a3, a4, a5⟩ => ⟨Hb', d, a1, a2, a3, k d a4, a5⟩
theorem twl_not (h : TWL X W ρ e T) : TWL X W ρ (.UnaryOp .Not e pos) (fun b => T (!b)) := fun Hb H σ x I w pins s J => isTrueE_not (wpE_thn (h Hb H σ x I w pins s J) fun b s' ⟨H', J', Hb', a1, a2, a3, a4⟩ => ⟨H', J', Hb', a1, a2, a3, by show T (!!b); rw [Bool.not_not]; exact a4⟩)
theorem twl_val (h : EWL X W ρ e fun d => ∃ b, d = .bl b ∧ T b) (he : ∀ whole, isTrue e X.env whole = (do let v ← whole; standAt e.pos; holding [v] (truthy v)) := by intro _; rfl) : TWL X W ρ e T := fun Hb H σ x I w pins s J => by
  refine isTrueE_plain (wpE_thn (h Hb H σ x I w pins s J) fun v s' ⟨x', H', J', r, Hb', d, a1, a2, a3, ⟨b, e1, t⟩, q⟩ => ?_) (he _)
  subst e1
  obtain rfl := is_bl.mp q
  obtain rfl : v = Value.bool b := r
  exact wpE_of_eq (a := b) rfl ⟨H', J', Hb', a1, a2, a3, t⟩
theorem twl_and (h1 : TWL X W ρ a T1) (h2 : T1 true → TWL X W ρ b T2) : TWL X W ρ (.BoolOp .And [a, b] pos) (fun r => (T1 false ∧ r = false) ∨ (T1 true ∧ T2 r)) := fun Hb H σ x I w pins s J => by
  refine isTrueE_and (wpE_thn (h1 Hb H σ x I w pins s J) fun c s1 ⟨H1, J1, Hb1, a1, a2, a3, a4⟩ => ?_)
  cases c with
  | false => rw [if_neg Bool.false_ne_true]; exact ⟨H1, J1, Hb1, a1, a2, a3, .inl ⟨a4, rfl⟩⟩
  | true =>
    rw [if_pos rfl]
    refine isTrueE_and (wpE_thn (h2 a4 Hb1 H1 σ a2 (I.mono a1) a3 pins s1 J1) fun d s2 ⟨H2, J2, Hb2, b1, b2, b3, b4⟩ => ?_)
    cases d with
    | false => rw [if_neg Bool.false_ne_true]; exact ⟨H2, J2, Hb2, a1.trans b1, b2, b3, .inr ⟨a4, b4⟩⟩
    | true => rw [if_pos rfl]; exact wpE_of_eq (a := true) rfl ⟨H2, J2, Hb2, a1.trans b1, b2, b3, .inr ⟨a4, b4⟩⟩
theorem twl_or (h1 : TWL X W ρ a T1) (h2 : T1 false → TWL X W ρ b T2) : TWL X W ρ (.BoolOp .Or [a, b] pos) (fun r => (T1 true ∧ r = true) ∨ (T1 false ∧ T2 r)) := fun Hb H σ x I w pins s J => by
  refine isTrueE_or (wpE_thn (h1 Hb H σ x I w pins s J) fun c s1 ⟨H1, J1, Hb1, a1, a2, a3, a4⟩ => ?_)
  cases c with
  | true => rw [if_pos rfl]; exact ⟨H1, J1, Hb1, a1, a2, a3, .inl ⟨a4, rfl⟩⟩
  | false =>
    rw [if_neg Bool.false_ne_true]
    refine isTrueE_or (wpE_thn (h2 a4 Hb1 H1 σ a2 (I.mono a1) a3 pins s1 J1) fun d s2 ⟨H2, J2, Hb2, b1, b2, b3, b4⟩ => ?_)
    cases d with
    | true => rw [if_pos rfl]; exact ⟨H2, J2, Hb2, a1.trans b1, b2, b3, .inr ⟨a4, b4⟩⟩
    | false => rw [if_neg Bool.false_ne_true]; exact wpE_of_eq (a := false) rfl ⟨H2, J2, Hb2, a1.trans b1, b2, b3, .inr ⟨a4, b4⟩⟩
/-! ### blocks -/
theorem EbD.widenL {Hb Hb1 : Hp} (x1 : Evl.Ex Hb Hb1) {σ : L2.St} {H : Hp} (h : LB X rest (EbD X.K Hb1 N R B C) σ H) : LB X rest (EbD X.K Hb N R B C) σ H :=
  h.mono (fun σ H ⟨ρ', Hb', a, r⟩ => ⟨ρ', Hb', x1.trans a, r⟩) (fun v H ⟨ρ', Hb', a, r⟩ => ⟨ρ', Hb', x1.trans a, r⟩) (fun σ H ⟨ρ', Hb', a, r⟩ => ⟨ρ', Hb', x1.trans a, r⟩) (fun σ H ⟨ρ', Hb', a, r⟩ => ⟨ρ', Hb', x1.trans a, r⟩)
theorem execs_split {st : Stmt} {rest : List Stmt} {env : Env} : execs (st :: rest) env = (execs [st] env >>= fun f => match f with | .next => execs rest env | f => pure f) := by
  rw [execs_cons, execs_cons, bind_assoc]
  congr 1
  funext f
  cases f <;> rfl
theorem ebl_seq (hx : NoX X) (h : EB X W ρ [st] N1 R B C) (k : ∀ ρ', EBL X (N1 ρ') ρ' rest N R B C) : EBL X W ρ (st :: rest) N R B C := fun Hb H σ x I w pins s J => by
  rw [execs_split]
  refine wpE_bind (wpE_thn (LB.of hx (h Hb H σ x I w) pins s J) fun f s' q => ?_)
  cases f with
  | next =>
    obtain ⟨σ', H', J', ρ', Hb', a1, a2, a3, a4⟩ := q
    exact EbD.widenL a1 (k ρ' Hb' H' σ' a2 a3 a4) pins s' J'
  | brk => exact wpE_pure q
  | cont => exact wpE_pure q
  | ret u => exact wpE_pure q
theorem ebl_ifRet (h : TWL X W ρ c T) (h1 : T true → EBL X W ρ body No R B C) (h2 : T false → EBL X W ρ rest N R B C) : EBL X W ρ (.If c body [] pos :: rest) N R B C := fun Hb H σ x I w pins s J => by
  refine wpE_execs_cons (wpE_If (wpE_thn (h Hb H σ x I w pins s J) fun t s' ⟨H', J', Hb', a1, a2, a3, a4⟩ => ?_))
  cases t with
  | true =>
    rw [if_pos rfl]
    refine wpE_thn (EbD.widenL (N := No) a1 (h1 a4 Hb' H' σ a2 (I.mono a1) a3) pins s' J') fun f s2 q => ?_
    cases f with
    | next => obtain ⟨_, _, _, _, _, _, _, _, z⟩ := q; exact z.elim
    | brk => exact q
    | cont => exact q
    | ret u => exact q
  | false =>
    rw [if_neg Bool.false_ne_true]
    exact wpE_execs_nil (EbD.widenL a1 (h2 a4 Hb' H' σ a2 (I.mono a1) a3) pins s' J')
theorem ebl_ret (h : EWL X W ρ e P) (k : ∀ d Hb H, P d → W Hb H → R d Hb H) : EBL X W ρ (.Return (some e) pos :: rest) N R B C := fun Hb H σ x I w pins s J => by
  refine wpE_execs_cons (wpE_Return (wpE_thn (h Hb H σ x I w pins s J) fun u s' ⟨v, H', J', r, Hb', d, a1, a2, a3, a4, a5⟩ => ?_))
  exact ⟨v, σ, H', J', r, d, Hb', a1, a2, a5, k d _ _ a4 a3⟩
/-- x = e -/
theorem ebl_set (i : Nat) {x : Str} {pp : Pos} (hN : X.N.Nodup) (h : EWL X W ρ e P) (k : ∀ d, P d → EBL X W (ρ.set i (some d)) rest N R B C) (hi : X.N[i]? = some x := by rfl) (hxl : Loc X.env.scope x := by first | exact Or.inl rfl | exact Or.inr rfl)
    (hs : swapsWith e (some (.Name x pp)) pos.line X.env = pure false := by rfl) (hf : X.fn x = true ∨ X.env.scope.names.lookup x = some .local := by first | exact .inl rfl | exact .inr rfl) : EBL X W ρ (.Assign [.Name x pp] e pos :: rest) N R B C := fun Hb H σ x1 I w pins s J => by
  refine wpE_execs_cons ?_
  rw [exec_Assign_Name X.env x pp e pos hs]
  refine wpE_bind (wpE_standAt (wpE_bind (wpE_thn (h Hb H σ x1 I w pins s J) fun u s1 ⟨v, H1, J1, r, Hb1, d, a1, a2, a3, a4, a5⟩ => ?_)))
  refine wpE_bind (wpE_standAt (wpE_bind (wpE_of (wpAny_bindName (store_ok J1 hN hi hxl r (fun s2 J2 => wpE_pure ?_) hf)))))
  exact EbD.widenL a1 (k d a4 Hb1 H1 _ a2 ((I.mono a1).set i a5) a3) pins s2 J2
/-- for x in ..: a loud body -/
theorem ebl_for {α : Type} {xs : List α} (enc : α → D) {tg iter : Expr} {g : TG} {τ : En → α → En} (Iv : Nat → En → As) (hx : NoX X) (hc : X.calm = true) (hi : EI X ρ tg iter (xs.map enc)) (hg : PG X tg g) [Stb W] [∀ i ρ, Stb (Iv i ρ)]
    (hτ : ∀ d ∈ xs, ∀ ρ Hb H σ x, Evl.Ex Hb H → IsE X.K Hb σ ρ → Is X.K Hb (enc d) x → ∀ Q : L2.St → Hp → Prop, (∀ σ', IsE X.K Hb σ' (τ ρ d) → Q σ' H) → g x σ H Q)
    (h0 : ∀ Hb H, W Hb H → Iv 0 ρ Hb H) (turn : ∀ (i : Nat) (d : α), xs[i]? = some d → ∀ ρ', EBL X (Iv i ρ') (τ ρ' d) body (Iv (i + 1)) R No (Iv (i + 1)))
    (k : ∀ ρ', EBL X (Iv xs.length ρ') ρ' rest N R B C) (hs : ∀ x, foldedSetIterable iter X.env x = pure x := by intro _; rfl) : EBL X W ρ (.For tg iter body [] pos :: rest) N R B C := fun Hb H σ x I w pins s J => by
  obtain ⟨wi, hpi, hwi⟩ := hi
  refine wpE_execs_cons (wpE_For (wpE_mono (wpE_of (hpi.run pins s σ H (fun J' H1 => ∃ Hb1, Xt Hb H Hb1 H1 ∧ Wk X.K Hb1 J' (xs.map enc)) J (hwi Hb H σ x I _ fun J' H1 Hb1 x1 wk => ⟨Hb1, x1, wk⟩))) (fun v s1 h1 => wpE_mono (wpE_of h1) (fun itv s2 h2 => ?_) fun e s z => (hx e s z).elim) fun e s z => (hx e s z).elim) hs)
  obtain ⟨it, fp, tn, Jt, H2, e, J2, TT, st2, f2, Hb1, x1, wk1, wk2, wk3⟩ := h2
  subst e
  have stat : ∀ {H' : Hp}, (∀ b ∈ fp, H' b = none) → ∀ b ∈ fp, FpOk X pins H' b := fun hn b hb => ⟨hn b hb, (f2 b hb).2⟩
  refine codeE_forLoop (fun n s' => ∃ i σ' H', Inv X pins σ' H' s' ∧ tn i s'.heap ∧ (∀ b ∈ fp, H' b = none) ∧ n = xs.length - i ∧ i ≤ xs.length ∧ ∃ ρ' Hb', Evl.Ex Hb1 Hb' ∧ Evl.Ex Hb' H' ∧ IsE X.K Hb' σ' ρ' ∧ Iv i ρ' Hb' H') ?_ xs.length
    ⟨0, σ, H2, J2, st2, fun b hb => (f2 b hb).1, by simp, Nat.zero_le _, ρ, Hb1, .refl _, x1.in_, I.mono x1.b, h0 _ _ (Stb.st w x1)⟩
  rintro n s3 ⟨i, σ3, H3, J3, st3, fr3, rfl, hle, ρ', Hb', b1, b2, I3, w3⟩
  by_cases hlt : i < xs.length
  · have hd : xs[i]? = some xs[i] := List.getElem?_eq_getElem hlt
    have hm : xs[i] ∈ xs := List.getElem_mem hlt
    refine wpE_mono (wpE_of (TT.item X rfl rfl rfl hc i pins s3 σ3 H3 X.xe J3 (stat fr3) st3 (wk1 i H3 (b1.trans b2) (by rw [List.length_map]; exact hlt)))) (fun r s4 ⟨u, hr, h4⟩ => ?_) fun e s z => (hx e s z).elim
    subst hr
    refine wpE_mono (wpE_of h4) (fun _ s5 ⟨x5, H5, J5, r5, y5, st5, fr5⟩ => ?_) fun e s z => (hx e s z).elim
    obtain ⟨Hb5, xx5, q5⟩ := wk3 i Hb' H3 x5 H5 (enc xs[i]) b1 b2 (by rw [List.getElem?_map, hd]; rfl) y5
    have J5' := J5.pinned (stat fr5) (TT.obj _ _ st5)
    refine wpE_mono (wpE_of (hg.run _ s5 σ3 H5 x5 u (fun σ' H' => IsE X.K Hb5 σ' (τ ρ' xs[i]) ∧ H' = H5) J5' r5 (hτ _ hm ρ' Hb5 H5 σ3 x5 xx5.in_ (I3.mono xx5.b) q5 _ fun σ' z => ⟨z, rfl⟩))) (fun _ s6 ⟨σ6, H6, J6, I6, e6⟩ => ?_) fun e s z => (hx e s z).elim
    subst e6
    refine wpE_thn (turn i xs[i] hd ρ' Hb5 H6 σ6 xx5.in_ I6 (Stb.st w3 xx5) _ s6 J6) fun f s7 q7 => ?_
    have again : ∀ {σ7 : L2.St} {H7 : Hp}, Inv X (pins ++ pinsAt fp s5.heap) σ7 H7 s7 → (∃ ρ'' Hb'', Evl.Ex Hb5 Hb'' ∧ Evl.Ex Hb'' H7 ∧ IsE X.K Hb'' σ7 ρ'' ∧ Iv (i + 1) ρ'' Hb'' H7) →
        ∃ m, m < xs.length - i ∧ ∃ i σ' H', Inv X pins σ' H' s7 ∧ tn i s7.heap ∧ (∀ b ∈ fp, H' b = none) ∧ m = xs.length - i ∧ i ≤ xs.length ∧ ∃ ρ' Hb', Evl.Ex Hb1 Hb' ∧ Evl.Ex Hb' H' ∧ IsE X.K Hb' σ' ρ' ∧ Iv i ρ' Hb' H' := fun {σ7 H7} J7 ⟨ρ'', Hb'', c1, c2, c3, c4⟩ => by
      refine ⟨xs.length - (i + 1), by omega, i + 1, σ7, H7, J7.unpinned, TT.keep _ _ _ st5 fun b hb o e => (J7.pin (b, o) (List.mem_append_right _ (List.mem_append_right _ (mem_pinsAt hb e)))).1, fun b hb => ?_, rfl, hlt, ρ'', Hb'', b1.trans (xx5.b.trans c1), c2, c3, c4⟩
      obtain ⟨o, e, d⟩ := TT.obj _ _ st5 b hb
      exact (J7.pin (b, o) (List.mem_append_right _ (List.mem_append_right _ (mem_pinsAt hb e)))).2.1
    have ee := x1.b.trans (b1.trans xx5.b)
    cases f with
    | next => obtain ⟨σ7, H7, J7, q7⟩ := q7; exact again J7 q7
    | cont => obtain ⟨σ7, H7, J7, q7⟩ := q7; exact again J7 q7
    | brk => obtain ⟨_, _, _, _, _, _, _, _, z⟩ := q7; exact z.elim
    | ret v => obtain ⟨x7, σ7, H7, J7, r7, d, Hb7, c1, c2, c3, c4⟩ := q7; exact ⟨x7, σ7, H7, J7.unpinned, r7, d, Hb7, ee.trans c1, c2, c3, c4⟩
  · have e : i = xs.length := by omega
    subst e
    refine wpE_mono (wpE_of (TT.done X rfl rfl rfl hc _ pins s3 σ3 H3 X.xe J3 (stat fr3) st3 (wk2 _ H3 (b1.trans b2) (by rw [List.length_map]; exact Nat.le_refl _)))) (fun r s4 ⟨hr, J4⟩ => ?_) fun e s z => (hx e s z).elim
    subst hr
    exact wpE_execs_nil (EbD.widenL (x1.b.trans b1) (k ρ' Hb' H3 σ3 b2 I3 w3) pins s4 J4)
theorem ebl_pr {Φ : Prop} {rest : List Stmt} (h : Φ → EBL X W ρ rest N R B C) : EBL X (Pr Φ W) ρ rest N R B C := fun Hb H σ x I w => h w.1 Hb H σ x I w.2
theorem EBL.pre {W' : As} {rest : List Stmt} (h : EBL X W ρ rest N R B C) (k : ∀ Hb H, W' Hb H → W Hb H) : EBL X W' ρ rest N R B C := fun Hb H σ x I w => h Hb H σ x I (k _ _ w)
theorem ebl_exs {ι : Type} {V : ι → As} {rest : List Stmt} (h : ∀ i, EBL X (V i) ρ rest N R B C) : EBL X (Exs V) ρ rest N R B C := fun Hb H σ x I ⟨i, w⟩ => h i Hb H σ x I w
end
end Lo
set_option maxHeartbeats 4000000
/-! Lo13: loud defs, their calls; list of a generator. -/
namespace Lo
open PySem PySem.Spec PyProof.Rows L2 GenW Sm

structure FnE (P : Program) (w : World) (K : PySem.W.Frag) (mg : Str → Option Value) (base : Heap) (k : Nat) (f : Addr) (fd : FuncData) (ps : List Str) (sp : Sp) : Prop where
  len : ∀ vs H Q E, sp vs H Q E → vs.length = ps.length
  run : ∀ (A : Around) (outer : List Env) (s : Shared) (H : Hp) (args : Args) (us : List Value) (vs : List V) (Q : VK) (E : XK), Room k A → Env0 P w K mg base A outer s H → BindsTo s fd args (ps.zip us) → Vals vs us → sp vs H Q E →
    codeE P w A (.call (.ref f) args) (fun r s' => match r with | .ok (.ret u) => CE outer P w H s Q u s' | _ => False) s
theorem FnE.mono {P : Program} {w : World} {K : PySem.W.Frag} {mg : Str → Option Value} {base : Heap} {j k : Nat} {f : Addr} {fd : FuncData} {ps : List Str} {sp : Sp} (F : FnE P w K mg base j f fd ps sp) (h : j ≤ k) : FnE P w K mg base k f fd ps sp :=
  ⟨F.len, fun A outer s H args us vs Q E hr => F.run A outer s H args us vs Q E (hr.mono h)⟩
section
variable {P : Program} {w : World} {K : PySem.W.Frag} {mg : Str → Option Value} {base : Heap}
theorem fnE_of {x qual : Str} {st : Stmt} {f : Addr} {fd : FuncData} {N ps : List Str} {k : Nat} {sp : Sp} (F : Fun K x qual st f fd) (S : FnScope N ps (defScope st)) (len : ∀ vs H Q E, sp vs H Q E → vs.length = ps.length)
    (hbody : ∀ (cdv : Value) (A : Around) (outer : List Env) (s : Shared) (H : Hp) (vs : List V) (Q : VK) (E : XK), Room k (A.deeper (envOfC qual (defScope st) s.heap.objs.size f cdv)) → sp vs H Q E →
      LB (cxOf CX0 P w K mg base N qual (defScope st) f cdv A outer s H E).nox (defBody st) { nx := fun _ H' => Q .non H', rt := Q, bk := fun _ _ => False, ct := fun _ _ => False } (start N vs) H) : FnE P w K mg base (k + 1) f fd ps sp := by
  obtain ⟨oc, od, kV, doc, pm, an, cdv, ct, osl, rfl, lk, hcd⟩ := F.ex
  refine ⟨len, fun A outer s H args us vs Q E hr e0 hb r hsp => ?_⟩
  have hl := len _ _ _ _ hsp
  have KX : K.In s.heap := e0.mod.kin.keeps fun b o e => (e0.bs b o e).1
  have lim : s.heap.NoLimit := e0.mod.nolimit.keeps fun b o e => (e0.bs b o e).1
  have hkind : ∀ y ∈ ps.zip us, (defScope st).names.lookup y.1 = some .local ∨ ((defScope st).names.lookup y.1 = some .cell ∧ ((cellsFrom (s.heap.objs.size + 1) (defScope st).names []).lookup y.1).isSome = true) := fun ⟨n, v⟩ hy => by
    rcases S.par n (List.of_mem_zip hy).1 with q | q
    · exact .inl q
    · exact .inr ⟨q, PySem.W.cellsFrom_some _ _ _ (.inl q)⟩
  refine codeE_call_function hr.depth (KX _ _ lk) rfl S.co S.gen rfl (PySem.W.codeRec_of KX hcd) (hb _ _ _ _ ?_)
  refine wpAny_newFunctionEnv_cells S.kind hkind fun env he s1 x => ?_
  subst he
  refine ⟨lim.keeps x.toInCall.keep, codeE_func ?_⟩
  have I : Inv (cxOf CX0 P w K mg base N qual (defScope st) f cdv A outer s H E) [] (start N vs) H s1 := inv_start S hr.hd e0 hl r x
  refine wpE_thn (hbody cdv A outer s H vs Q E (hr.deeper _) hsp [] s1 (I.wish _)) fun fl s' hs => ?_
  have fin : ∀ {σ' : L2.St} {H' : Hp} {v : V} {u : Value}, Inv (cxOf CX0 P w K mg base N qual (defScope st) f cdv A outer s H E) [] σ' H' s' → RelV v u → Q v H' → CE outer P w H s Q u s' :=
    fun {σ' H' v u} J rv q => ⟨v, H', J.os, J.bare, J.base, J.hok, rv, q⟩
  have hs := SP.unwish hs
  cases fl with
  | ret u =>
    obtain ⟨v, σ', H', J, rv, q⟩ := hs
    exact fin J rv q
  | next =>
    obtain ⟨σ', H', J, q⟩ := hs
    exact fin (v := V.non) (u := Value.none) J rfl q
  | brk =>
    obtain ⟨_, _, _, q⟩ := hs
    exact False.elim q
  | cont =>
    obtain ⟨_, _, _, q⟩ := hs
    exact False.elim q
/-- a loud def by its body over data, pure -/
theorem fnE_pure {x qual : Str} {st : Stmt} {f : Addr} {fd : FuncData} {N ps : List Str} {k : Nat} {φ : List D → D → Prop} (F : Fun K x qual st f fd) (S : FnScope N ps (defScope st)) (len : ∀ ds d, φ ds d → ds.length = ps.length)
    (hbody : ∀ (cdv : Value) (A : Around) (outer : List Env) (s : Shared) (H : Hp) (E : XK), Room k (A.deeper (envOfC qual (defScope st) s.heap.objs.size f cdv)) → ∀ ds d, φ ds d → ∀ Hb0 H0,
      EBL (cxOf CX0 P w K mg base N qual (defScope st) f cdv A outer s H E).nox (Xt Hb0 H0) (st0 N ds) (defBody st) (fun _ Hb H => d = .non ∧ Xt Hb0 H0 Hb H) (fun d' Hb H => d' = d ∧ Xt Hb0 H0 Hb H) No No) : FnE P w K mg base (k + 1) f fd ps (spP K φ) := by
  refine fnE_of F S (fun vs H Q E ⟨Hb, ds, d, _, h2, h3, _⟩ => by rw [h2.length]; exact len ds d h3) (fun cdv A outer s H vs Q E hr ⟨Hb, ds, d, h1, h2, h3, h4⟩ => ?_)
  refine (hbody cdv A outer s H E hr ds d h3 Hb H Hb H _ h1 (start_is h2) (.refl h1)).mono (fun σ H' ⟨ρ', Hb', a1, a2, a3, e, a4⟩ => ?_) (fun v H' ⟨d', Hb', a1, a2, a3, e, a4⟩ => ?_) (fun σ H' ⟨ρ', Hb', a1, a2, a3, z⟩ => z.elim) fun σ H' ⟨ρ', Hb', a1, a2, a3, z⟩ => z.elim
  · subst e
    exact h4 _ _ ⟨Hb', a4, is_non.mpr rfl⟩
  · subst e
    exact h4 _ _ ⟨Hb', a4, a3⟩
/-- .. that changes a cell -/
theorem fnE_C {x qual : Str} {st : Stmt} {f : Addr} {fd : FuncData} {N ps : List Str} {k : Nat} {φ : List D → Addr → As → (D → Prop) → Prop} (F : Fun K x qual st f fd) (S : FnScope N ps (defScope st)) (len : ∀ ds a G R, φ ds a G R → ds.length = ps.length)
    (hbody : ∀ (cdv : Value) (A : Around) (outer : List Env) (s : Shared) (H : Hp) (E : XK), Room k (A.deeper (envOfC qual (defScope st) s.heap.objs.size f cdv)) → ∀ ds a G R, φ ds a G R → ∀ Hb0 H0,
      EBL (cxOf CX0 P w K mg base N qual (defScope st) f cdv A outer s H E).nox (FrC G a (Xt Hb0 H0)) (st0 N ds) (defBody st) (fun _ => Pr (R .non) (FrC G a (Xt Hb0 H0))) (fun d => Pr (R d) (FrC G a (Xt Hb0 H0))) No No) :
    FnE P w K mg base (k + 1) f fd ps (spC K φ) := by
  refine fnE_of F S (fun vs H Q E ⟨Hb, ds, a, G, R, _, _, _, _, h2, h3, _⟩ => by rw [h2.length]; exact len ds a G R h3) (fun cdv A outer s H vs Q E hr ⟨Hb, ds, a, G, R, h1, n1, n2, g, h2, h3, h4⟩ => ?_)
  refine (hbody cdv A outer s H E hr ds a G R h3 Hb (hid H a) Hb H _ h1 (start_is h2) ⟨n1, n2, g, .refl (ex_hid h1 n1)⟩).mono (fun σ H' ⟨ρ', Hb', a1, a2, a3, r, b1, b2, b3, b4⟩ => ?_) (fun v H' ⟨d', Hb', a1, a2, a3, r, b1, b2, b3, b4⟩ => ?_) (fun σ H' ⟨ρ', Hb', a1, a2, a3, z⟩ => z.elim) fun σ H' ⟨ρ', Hb', a1, a2, a3, z⟩ => z.elim
  · exact h4 Hb' H' .non .non a2 b4 b1 b2 b3 r (is_non.mpr rfl)
  · exact h4 Hb' H' d' v a2 b4 b1 b2 b3 r a3
end
section
variable {X : Cx} {W : As} {ρ : En} {e : Expr} {es : List Expr} {ds : List D} {x : Str} {p pos : Pos} {k : Nat}
/-- a call whose arguments are quiet -/
theorem callE {f : Addr} {pins : List (Addr × Obj)} {σ : L2.St} {H : Hp} {s : Shared} {ta : TA} {Q : Value → Shared → Prop} (hx : NoX X) (hg : Gl X x) (hm : X.mg x = some (.ref f)) (hk : PySem.W.keepIn X.K (.ref f) = true) (ha : PA X (e :: es) ta) (I : Inv X pins σ H s)
    (h : ta σ H fun vs H1 => ∀ us s1, Inv X pins σ H1 s1 → Vals vs us → wpE X.prog X.w X.A (call (.ref f) us) Q (fun _ _ => False) s1)
    (hdb : (x == ("__debug__" : Str)) = false := by decide) (he : starEach (e :: es) X.env = (false, eval e X.env) :: starEach es X.env := by rfl) (hpl : (backTo pos (starEach es X.env)).any (·.1) = false := by rfl) :
    wpE X.prog X.w X.A (eval (.Call (.Name x p) (e :: es) [] pos) X.env) Q (fun _ _ => False) s := by
  refine wpE_Call_Name (wpE_mono (wpE_of (ld_glob (E := X.xe) I hg hm (Q := fun u s1 => u = .ref f ∧ s1 = s) ⟨rfl, rfl⟩ hdb)) (fun u s1 ⟨e1, e2⟩ => ?_) fun e s z => (hx e s z).elim)
  subst e1 e2
  refine callWithE_of (H := fun h => X.K.In h) (by rw [he]; show ((false || (backTo pos (starEach es X.env)).any (·.1)) || false) = false; rw [hpl]; rfl) (PySem.W.keeps_K hk) ?_
  have h2 := ha.run pos pins s1 σ H _ I h
  rw [he] at h2 ⊢
  refine wpE_mono (wpE_of (Calls.evalArgs_plain (Q := fun a s' => a.kw = [] ∧ AP X pins σ (fun vs H1 => ∀ us s1, Inv X pins σ H1 s1 → Vals vs us → wpE X.prog X.w X.A (call (.ref f) us) Q (fun _ _ => False) s1) a.pos s') (thn h2 fun us s' z => ⟨rfl, z⟩))) (fun a s2 ⟨ek, vs, H1, I1, r, q⟩ => ⟨I1.kIn, ?_⟩) fun e s z => (hx e s z).elim
  rw [ek]
  exact q _ _ I1 r
theorem run_fnE {f : Addr} {fd : FuncData} {ps : List Str} {sp : Sp} {pins : List (Addr × Obj)} {σ : L2.St} {H : Hp} {s : Shared} {Q : VK} {us : List Value} {vs : List V} (F : FnE X.prog X.w X.K X.mg X.base k f fd ps sp) (hr : Room k X.A) (hb : Binds X.K fd ps [])
    (I : Inv X pins σ H s) (r : Vals vs us) (h : sp vs H Q E0) : wpE X.prog X.w X.A (call (.ref f) us) (EP X pins σ Q) (fun _ _ => False) s := by
  have hl : (us ++ []).length = ps.length := by rw [List.append_nil, ← r.length]; exact F.len _ _ _ _ h
  have hb' := hb s us I.kIn hl
  rw [List.append_nil] at hb'
  refine wpE_call (codeE_mono (F.run X.A X.stack s H ⟨us, []⟩ us vs Q E0 hr I.env0 hb' r h) fun r s' hq => ?_)
  cases r with
  | error e => exact hq
  | ok fl =>
    cases fl with
    | ret u => exact I.after hq
    | next => exact False.elim hq
    | brk => exact False.elim hq
    | cont => exact False.elim hq
/-- such defs, called by name -/
def CaPL (P : Program) (w : World) (K : PySem.W.Frag) (mg : Str → Option Value) (base : Heap) (k : Nat) (x : Str) (φ : List D → D → Prop) : Prop :=
  ∃ (f : Addr) (fd : FuncData) (ps : List Str), FnE P w K mg base k f fd ps (spP K φ) ∧ mg x = some (.ref f) ∧ PySem.W.keepIn K (.ref f) = true ∧ Binds K fd ps []
def CaCL (P : Program) (w : World) (K : PySem.W.Frag) (mg : Str → Option Value) (base : Heap) (k : Nat) (x : Str) (φ : List D → Addr → As → (D → Prop) → Prop) : Prop :=
  ∃ (f : Addr) (fd : FuncData) (ps : List Str), FnE P w K mg base k f fd ps (spC K φ) ∧ mg x = some (.ref f) ∧ PySem.W.keepIn K (.ref f) = true ∧ Binds K fd ps []
theorem ewl_ca [Stb W] {φ : List D → D → Prop} {d : D} (hx : NoX X) (F : CaPL X.prog X.w X.K X.mg X.base k x φ) (hr : Room k X.A) (hs : ES X ρ (e :: es) ds) (hφ : φ ds d) (hg : Gl X x := by rfl) (hdb : (x == ("__debug__" : Str)) = false := by decide) (he : starEach (e :: es) X.env = (false, eval e X.env) :: starEach es X.env := by rfl)
    (hpl : (backTo pos (starEach es X.env)).any (·.1) = false := by rfl) : EWL X W ρ (.Call (.Name x p) (e :: es) [] pos) (· = d) := fun Hb H σ x1 I w0 pins s J => by
  obtain ⟨f, fd, ps, F, h1, h2, h3⟩ := F
  obtain ⟨ta, hp, q⟩ := hs
  refine callE hx hg h1 h2 hp J (q Hb H σ x1 I _ fun vs H1 Hb1 x2 q1 us s1 J1 r => ?_) hdb he hpl
  exact run_fnE F hr h3 J1 r ⟨Hb1, ds, d, x2.in_, q1, hφ, fun v H' ⟨Hb2, x3, q3⟩ => ⟨Hb2, d, x2.b.trans x3.b, x3.in_, Stb.st w0 (x2.trans x3), rfl, q3⟩⟩
theorem ewl_caC [Stb W] {a : Addr} {G : As} {R : D → Prop} {φ : List D → Addr → As → (D → Prop) → Prop} [Cell a G W] (hx : NoX X) (F : CaCL X.prog X.w X.K X.mg X.base k x φ) (hr : Room k X.A) (hs : ES X ρ (e :: es) ds) (hφ : φ ds a G R) (hg : Gl X x := by rfl) (hdb : (x == ("__debug__" : Str)) = false := by decide) (he : starEach (e :: es) X.env = (false, eval e X.env) :: starEach es X.env := by rfl)
    (hpl : (backTo pos (starEach es X.env)).any (·.1) = false := by rfl) : EWL X W ρ (.Call (.Name x p) (e :: es) [] pos) R := fun Hb H σ x1 I w0 pins s J => by
  obtain ⟨f, fd, ps, F, h1, h2, h3⟩ := F
  obtain ⟨ta, hp, q⟩ := hs
  refine callE hx hg h1 h2 hp J (q Hb H σ x1 I _ fun vs H1 Hb1 x2 q1 us s1 J1 r => ?_) hdb he hpl
  exact run_fnE F hr h3 J1 r (spC_of (W := W) (a := a) (G := G) x2.in_ (Stb.st w0 x2) q1 hφ fun Hb' H' d v e1 e2 w' r i => ⟨Hb', d, x2.b.trans e1, e2, w', r, i⟩)
end
end Lo
set_option maxHeartbeats 4000000
/-! Lo14: list(..) of a generator def's call, as data. -/
namespace Lo
open PySem PySem.Spec PyProof.Rows L2 GenW Sm

theorem callWithE_type {prog : Program} {w : World} {A : Around} {E : Value → Shared → Prop} {s : Shared} {pos : Pos} {T : String} {first : List Value} {args : List (Bool × Sem Value)} {Q : Value → Shared → Prop} (hplain : args.any (·.1) = false)
    (h : wpE prog w A (evalArgs (.type T) true args []) (fun a s1 => wpE prog w A (call (.type T) (first ++ a.pos) a.kw) Q E s1) E s) : wpE prog w A (callWith pos (.type T) first args []) Q E s := by
  unfold callWith
  refine wpE_bind (wpE_holding (wpE_thn h fun a s1 h1 => wpE_bind (wpE_standAt ?_)))
  simp only [hplain, List.any_nil, Bool.or_false]
  refine wpE_bind (wpE_pure ?_)
  exact wpE_bind (wpE_thn h1 fun r s2 hr => wpE_bind (wpE_holding (wpE_of (wpAny_point (show wpE prog w A (pure r) Q E s2 from wpE_pure hr)))))
/-- one object more is known -/
theorem un_add {fs ex : List Addr} {H H1 : Hp} {h h1 : Heap} {a : Addr} {o : HO} (u : Un fs ex H H1 h h1) (hp : h.objs.size ≤ a) (hn : H1 a = none) : Un fs ex H (upd H1 a o) h h1 where
  keep := u.keep
  slot := u.slot
  free := fun b ob q n hx => by rw [upd_ne (Nat.ne_of_lt (Nat.lt_of_lt_of_le (Heap.lt_size q) hp))]; exact u.free b ob q n hx
  there := u.there
  tups := fun b xs q => by rw [upd_ne (fun z => by rw [z] at q; have := u.tups _ _ q; rw [hn] at this; cases this)]; exact u.tups b xs q
  frzs := fun b o' u' q => by rw [upd_ne (fun z => by rw [z] at q; have := u.frzs _ _ _ q; rw [hn] at this; cases this)]; exact u.frzs b o' u' q
  tbls := fun b ps q => by
    obtain ⟨m, e⟩ := u.tbls b ps q
    exact ⟨m, by rw [upd_ne (fun z => by rw [z, hn] at e; cases e)]; exact e⟩
theorem hok_add {P : Program} {w : World} {H : Hp} {h : Heap} {a : Addr} {o : HO} (x : HOk P w H h) (hn : H a = none) (new : ObjOk P w (upd H a o) h a o) : HOk P w (upd H a o) h := fun b u e => by
  by_cases hb : b = a
  · subst hb; rw [upd_same] at e; cases e; exact new
  · rw [upd_ne hb] at e
    have ne : ∀ {c : Addr} {u' : HO}, H c = some u' → c ≠ a := fun {c u'} q z => by rw [z, hn] at q; cases q
    exact (x b u e).stay (fun c v _ q => q) (fun c q => by rw [upd_ne (ne q)]; exact q) fun c xs q => by rw [upd_ne (ne q)]; exact q
theorem outs_is {δ : Type} {K : PySem.W.Frag} {enc : δ → D} {H : Hp} : ∀ {xs : List V} {ds : List δ}, Outs (RD K enc H) xs ds → IsL K H (ds.map enc) xs
  | _, _, .nil => isL_nil.mpr rfl
  | _, _, .cons a b => isL_cons.mpr ⟨_, _, rfl, a, outs_is b⟩
section
variable {δ : Type} {X : Cx} {W : As} {ρ : En} {e : Expr} {es : List Expr} {dl : List D} {x : Str} {p p2 pos pos2 : Pos} {k : Nat} {f : Addr} {fd : FuncData} {ps : List Str} {φ : List D → List δ → Prop} {enc : δ → D} {ds : List δ}
theorem ewl_listG (hW : ∀ Hb H Hb' H', W Hb H → Evl.Ex H H' → W Hb' H') (hx : NoX X) (F : GFnE X.prog X.w X.K X.mg X.base k f fd ps (spG X.K φ) (RD X.K enc)) (hr : Room (k + 3) X.A) (hm : X.mg x = some (.ref f)) (hk : PySem.W.keepIn X.K (.ref f) = true) (hb : Binds X.K fd ps []) (gl : X.mg "list" = none)
    (hs : ES X ρ (e :: es) dl) (hφ : φ dl ds) (hz : ds.length ≤ sizeLine) (hg : Gl X x := by rfl) (hgl : Gl X "list" := by rfl) (hdb : (x == ("__debug__" : Str)) = false := by decide) (he : starEach (e :: es) X.env = (false, eval e X.env) :: starEach es X.env := by rfl) (hpl : (backTo pos (starEach es X.env)).any (·.1) = false := by rfl)
    (he2 : starEach [.Call (.Name x p) (e :: es) [] pos] X.env = (false, eval (.Call (.Name x p) (e :: es) [] pos) X.env) :: starEach [] X.env := by rfl) :
    EWL X W ρ (.Call (.Name "list" p2) [.Call (.Name x p) (e :: es) [] pos] [] pos2) (· = .lst (ds.map enc)) := fun Hb H σ x1 I w0 pins s J => by
  refine wpE_Call_Name (wpE_mono (wpE_of (ld_blt (E := X.xe) J hgl gl (by decide +kernel) (Q := fun u s1 => u = .type "list" ∧ s1 = s) ⟨rfl, rfl⟩)) (fun u s1 ⟨e1, e2⟩ => ?_) fun e s z => (hx e s z).elim)
  subst e1 e2
  refine callWithE_type (by rw [he2]; rfl) ?_
  obtain ⟨ta, hp, q⟩ := hs
  -- the generator
  have hgev : wpAny (model X.prog X.w) X.A (eval (.Call (.Name x p) (e :: es) [] pos) X.env) (fun u s' => ∃ H1 sc Hb1, Inv X pins σ H1 sc ∧ Xt Hb H Hb1 H1 ∧ GMadeE X.prog X.w k X.stack X.base H1 sc (RD X.K enc) ds u s') X.xe s1 := by
    refine wpAny_Call_Name_kw (ld_glob J hg hm ?_ hdb)
    refine PySem.W.callWith_K (h₀ := X.base) J.ok.mod.kin hk (wpAny_mono (hp.run pos pins s1 σ H _ J (q Hb H σ x1 I (fun vs H1 => ∃ Hb1, Xt Hb H Hb1 H1 ∧ IsL X.K Hb1 dl vs) fun vs H1 Hb1 x2 il => ⟨Hb1, x2, il⟩)) (fun us s2 ⟨vs, H1, I1, r, Hb1, x2, il⟩ => ⟨I1.kIn, ?_⟩) fun _ _ z => z) he hpl
    exact thn (run_gfnE F (hr.mono (by omega)) hb .nil I1 r ⟨dl, by rw [List.append_nil]; exact il.mono x2.in_, hφ⟩) fun u s' g => ⟨H1, s2, Hb1, I1, x2, g⟩
  have e0 : backTo pos2 (starEach [.Call (.Name x p) (e :: es) [] pos] X.env) = [(false, eval (.Call (.Name x p) (e :: es) [] pos) X.env)] := by rw [he2]; rfl
  rw [e0]
  refine wpE_mono (wpE_of (Calls.evalArgs_plain (Q := fun a s' => a.kw = [] ∧ ∃ u, a.pos = [u] ∧ ∃ H1 sc Hb1, Inv X pins σ H1 sc ∧ Xt Hb H Hb1 H1 ∧ GMadeE X.prog X.w k X.stack X.base H1 sc (RD X.K enc) ds u s') (Calls.spliced_cons (thn hgev fun u s2 z => Calls.spliced_nil ⟨rfl, u, rfl, z⟩)))) (fun a s2 ⟨ek, u, eu, H1, sc, Hb1, I1, x2, G⟩ => ?_) fun e s z => (hx e s z).elim
  rw [ek, eu]
  obtain ⟨a, g, cg, rfl, ha1, ha2, hgen, hgs, hg0, hos, hbare, hlim, hkeep, run⟩ := G
  show wpE X.prog X.w X.A (call (.type "list") [.ref a]) _ _ s2
  have hca : cStatics ≠ a := by
    obtain ⟨_, ⟨o, _, _, ho, _⟩, _⟩ := I1.ok.mod.nolimit
    intro z
    rw [z, Heap.get?_none_of_le (Nat.le_trans I1.ok.bsz (Nat.le_trans I1.sz ha1))] at ho
    cases ho
  have hsc : sc.heap.objs.size ≤ s2.heap.objs.size := Nat.le_trans ha1 (Nat.le_of_lt ha2)
  have fpOf : ∀ b ∈ [s2.heap.objs.size, a], FpOk X pins H1 b := fun b hb => by
    have hb1 : sc.heap.objs.size ≤ b := by
      rcases List.mem_cons.mp hb with z | z
      · rw [z]; exact hsc
      · rw [List.mem_singleton.mp z]; exact ha1
    exact I1.fpOk hb1 (I1.hok.fresh hb1)
  refine listE (R := RD X.K enc) (Fin := FinE X.prog X.w X.stack H1 sc [s2.heap.objs.size, a]) (H := H1) (ds := ds) RD.mono hr.hd hr.depth hgen hgs hlim hca hz (fun s3 hk3 hl3 ho3 hg3 => ?_) fun s' hD => ?_
  · refine run (Gp.last X.prog X.w X.A.in1.in1.in1 g s2.heap.objs.size a) (s3.setGen g .running) rfl rfl rfl hr.in1.in1.in1 I1.ok.frames (fun b o z => hk3 b o z) (ho3.trans hos) (allBare_setGen (by rw [hg3]; exact hbare) rfl) (fun b hb => .inl ?_) (fun b hb => ?_) ?_ fun j hj => ?_
    · rcases List.mem_cons.mp hb with z | z
      · rw [z]; exact Nat.le_of_lt ha2
      · rw [List.mem_singleton.mp z]; exact Nat.le_refl _
    · obtain rfl := List.mem_singleton.mp hb
      obtain ⟨o, nm, qn, ho, hc, hd, _⟩ := hgen
      exact ⟨o, hk3 _ _ ho, fun v z => by rw [hd] at z; cases z⟩
    · obtain ⟨c, hc⟩ := hl3
      exact ⟨#[], c, hc⟩
    · obtain rfl := List.mem_singleton.mp hj
      show j < (s3.setGen j .running).gens.size
      rw [GenW.setGen_size, hg3]
      exact (Array.getElem?_eq_some_iff.mp hgs).1
  · obtain ⟨s4, H2, h', xs, acc, c, rfl, hk4, ⟨f1, f2, f3, f4, ex2, f5⟩, _, hS, hv, ho⟩ := hD
    have hnS : H2 s2.heap.objs.size = none := (f5 _ List.mem_cons_self).1
    have un2 : Un (frs X.stack) [s2.heap.objs.size, a] H1 (upd H2 s2.heap.objs.size (.lst xs)) sc.heap h' := un_add (f3.trans (Un.kept hk4)) hsc hnS
    have hxl : xs.length ≤ sizeLine := by
      have : xs.length = ds.length := by
        have := (outs_is ho).length
        rwa [List.length_map] at this
      omega
    have hok2 : HOk X.prog X.w (upd H2 s2.heap.objs.size (.lst xs)) h' := hok_add (f4.kept hk4) hnS ⟨hxl, acc.toList, c, hv, by rw [hS]⟩
    have I2 : Inv X pins σ (upd H2 s2.heap.objs.size (.lst xs)) { s4.setGen g .finished with heap := h' } := I1.call' (s' := { s4.setGen g .finished with heap := h' }) (ch := [s2.heap.objs.size, a]) f1 un2 hok2 (allBare_setGen (s := s4) f2 rfl) fun b hb => by
      have := fpOf b hb
      exact ⟨this.2.2.2.1, this.2.1, this.2.2.2.2.1, this.2.2.2.2.2⟩
    refine ⟨.ref s2.heap.objs.size, _, I2, rfl, ?_⟩
    have x5 : Evl.Ex H2 (upd H2 s2.heap.objs.size (.lst xs)) := Evl.Ex.new hnS
    have x6 : Evl.Ex H1 (upd H2 s2.heap.objs.size (.lst xs)) := ex2.trans x5
    exact ⟨_, _, x1.trans (x2.h.trans x6), .refl _, hW _ _ _ _ w0 (x2.h.trans x6), rfl, is_lst.mpr ⟨_, xs, rfl, upd_same, (outs_is ho).mono x5⟩⟩
end
/-- nothing hidden: all that stands ahead of the call stays -/
def Wm (H0 : Hp) : As := fun _ H => Evl.Ex H0 H
instance wmStb {H0 : Hp} : Stb (Wm H0) := ⟨fun h x => Evl.Ex.trans h x.h⟩
theorem wm_mono {H0 : Hp} : ∀ Hb H Hb' H', Wm H0 Hb H → Evl.Ex H H' → Wm H0 Hb' H' := fun _ _ _ _ h x => Evl.Ex.trans h x
/-- a loud def that gives a plain value -/
theorem fnE_sc {P : Program} {w : World} {K : PySem.W.Frag} {mg : Str → Option Value} {base : Heap} {x qual : Str} {st : Stmt} {f : Addr} {fd : FuncData} {N ps : List Str} {k : Nat} {φ : List D → D → Prop} (F : Fun K x qual st f fd) (S : FnScope N ps (defScope st)) (len : ∀ ds d, φ ds d → ds.length = ps.length)
    (hsc : ∀ ds d, φ ds d → ∃ b, d = .bl b)
    (hbody : ∀ (cdv : Value) (A : Around) (outer : List Env) (s : Shared) (H : Hp) (E : XK), Room k (A.deeper (envOfC qual (defScope st) s.heap.objs.size f cdv)) → ∀ ds d, φ ds d → ∀ H0,
      EBL (cxOf CX0 P w K mg base N qual (defScope st) f cdv A outer s H E).nox (Wm H0) (st0 N ds) (defBody st) No (fun d' Hb H => d' = d ∧ Wm H0 Hb H) No No) : FnE P w K mg base (k + 1) f fd ps (spP K φ) := by
  refine fnE_of F S (fun vs H Q E ⟨Hb, ds, d, _, h2, h3, _⟩ => by rw [h2.length]; exact len ds d h3) (fun cdv A outer s H vs Q E hr ⟨Hb, ds, d, h1, h2, h3, h4⟩ => ?_)
  obtain ⟨b, rfl⟩ := hsc ds d h3
  refine (hbody cdv A outer s H E hr ds _ h3 H H H _ (.refl H) (start_is (h2.mono h1)) (.refl H)).mono (fun σ H' ⟨ρ', Hb', a1, a2, a3, z⟩ => z.elim) (fun v H' ⟨d', Hb', a1, a2, a3, e, a4⟩ => ?_) (fun σ H' ⟨ρ', Hb', a1, a2, a3, z⟩ => z.elim) fun σ H' ⟨ρ', Hb', a1, a2, a3, z⟩ => z.elim
  subst e
  exact h4 _ _ ⟨Hb, ⟨a4, .refl _, h1.trans a4, fun _ _ z => z⟩, is_bl.mpr (is_bl.mp a3)⟩
end Lo
set_option maxHeartbeats 4000000
/-! Lo15: loud parts of an expression; a name set to a new list. -/
namespace Lo
open PySem PySem.Spec PyProof.Rows L2 GenW Sm

section
variable {X : Cx} {W : As} {ρ : En} {e a b c : Expr} {P : D → Prop} {pos p pp : Pos} {ds ds2 : List D} {d d1 d2 : D}
/-- [e] -/
theorem ewl_list1 (hW : ∀ Hb H Hb' H', W Hb H → Evl.Ex H H' → W Hb' H') (h : EWL X W ρ e (· = d)) (he : starEach [e] X.env = (false, eval e X.env) :: starEach [] X.env := by rfl) : EWL X W ρ (.List [e] pos) (· = .lst [d]) := fun Hb H σ x I w pins s J => by
  rw [arm_eval_List]
  have e0 : backTo pos (starEach [e] X.env) = [(false, eval e X.env)] := by rw [he]; rfl
  rw [e0, spliced]
  refine wpE_bind (wpE_standAt (wpE_bind (wpE_bind (wpE_thn (h Hb H σ x I w pins s J) fun u s1 ⟨v, H1, J1, r, Hb1, d', a1, a2, a3, a4, a5⟩ => ?_))))
  simp only [Bool.false_eq_true, if_false]
  refine wpE_bind (wpE_pure (wpE_bind (wpE_holding (wpE_of (Calls.spliced_nil (wpE_pure ?_))))))
  subst a4
  have hf : H1 s1.heap.objs.size = none := J1.hok.fresh (Nat.le_refl _)
  refine wpE_of (wpAny_newList ⟨.ref s1.heap.objs.size, upd H1 s1.heap.objs.size (.lst [v]), J1.laid (t' := s1.toks) (fun b u e => Heap.get?_push_of_some _ e) (Nat.le_refl _) ?_, rfl, ?_⟩ (by show 1 ≤ sizeLine; decide))
  · exact ⟨by show 1 ≤ sizeLine; decide, [u], 0, .cons r .nil, Heap.get?_push_size _ rfl⟩
  · have x5 : Evl.Ex H1 (upd H1 s1.heap.objs.size (.lst [v])) := Evl.Ex.new hf
    exact ⟨_, _, (a1.trans a2).trans x5, .refl _, hW _ _ _ _ a3 x5, rfl, is_lst.mpr ⟨_, [v], rfl, upd_same, isL_cons.mpr ⟨v, [], rfl, a5.mono (a2.trans x5), isL_nil.mpr rfl⟩⟩⟩
/-- a op b: a quiet, b loud -/
theorem ewl_opR [Stb W] {op : Operator} {r : R2} (hx : NoX X) (ho : OpR X (binaryOp op) r) (ha : ED X ρ a d1) (hb : EWL X W ρ b (· = d2)) (hr : R2D X.K r d1 d2 d) : EWL X W ρ (.BinOp a op b pos) (· = d) := fun Hb H σ x I w pins s J => by
  rw [eval_BinOp]
  refine wpE_bind (wpE_thn (LE.of hx (ha Hb H σ x I) pins s J) fun u s1 ⟨v, H1, J1, r1, Hb1, x1, q1⟩ => ?_)
  refine wpE_bind (wpE_holding (wpE_thn (hb Hb1 H1 σ x1.in_ (I.mono x1.b) (Stb.st w x1) pins s1 J1) fun u2 s2 ⟨v2, H2, J2, r2, Hb2, d', b1, b2, b3, b4, b5⟩ => ?_))
  subst b4
  refine wpE_bind (wpE_standAt ?_)
  refine wpE_mono (wpE_of (PyProof.Rows.wpAny_operate' (ho pins s2 σ H2 v v2 u u2 _ J2 r1 r2 (hr Hb2 H2 v v2 b2 (q1.mono b1) b5 _ fun v' H' ⟨Hb3, x3, q3⟩ => ⟨Hb3, d, (x1.b.trans b1).trans x3.b, x3.in_, Stb.st b3 x3, rfl, q3⟩)))) (fun _ _ z => z) fun e s z => (hx e s z).elim
/-- a cmp b: a loud -/
theorem ewl_cmpL [Stb W] {op : CmpOp} {r : R2} (hx : NoX X) (ho : OpR X (compareOp op) r) (ha : EWL X W ρ a (· = d1)) (hb : ED X ρ b d2) (hr : R2D X.K r d1 d2 d) (hm : behindInMarks op b = false) : EWL X W ρ (.Compare a [op] [b] pos) (· = d) := fun Hb H σ x I w pins s J => by
  rw [eval_Compare1, markedBehindIn_of_false hm]
  refine wpE_bind (wpE_thn (ha Hb H σ x I w pins s J) fun u s1 ⟨v, H1, J1, r1, Hb1, d', a1, a2, a3, a4, a5⟩ => ?_)
  subst a4
  refine wpE_bind (wpE_holding (wpE_thn (LE.of hx (hb Hb1 H1 σ a2 (I.mono a1)) pins s1 J1) fun u2 s2 ⟨v2, H2, J2, r2, Hb2, x2, q2⟩ => ?_))
  refine wpE_bind (wpE_standAt ?_)
  refine wpE_mono (wpE_of (PyProof.Rows.wpAny_operate' (ho pins s2 σ H2 v v2 u u2 _ J2 r1 r2 (hr Hb2 H2 v v2 x2.in_ (a5.mono x2.b) q2 _ fun v' H' ⟨Hb3, x3, q3⟩ => ⟨Hb3, d, (a1.trans x2.b).trans x3.b, x3.in_, Stb.st (Stb.st a3 x2) x3, rfl, q3⟩)))) (fun _ _ z => z) fun e s z => (hx e s z).elim
end
end Lo
set_option maxHeartbeats 4000000
/-! Lo16: from the law's call to the row's promise, where the call is loud. -/
namespace Lo
open PySem PySem.W PySem.Calls PyProof.Rows

theorem thread_endsL {prog : Program} {w : World} {t : Sem Fin} {s : Shared} {R : Result → Shared → Prop} (hz : s.asleep)
    (h : wpE prog w callerA t (fun fin s' => ∃ f, fin = .done f ∧ R (.ok f) s' ∧ leftWithCleanup s'.gens = false) (fun _ _ => False) s) :
    ∃ n r s' s'', schedN (denote table) prog w n (.single s ⟨t, .builtin "claim.caller" {}, default, []⟩) = .halted (outcomeOf r) s' ∧ s'.forget = s''.forget ∧ s'.heap.life = s.heap.life ∧ R r s'' := by
  have e : t = t.wrap (fun a => pure a) (fun x => throw x) id id := by
    have h1 : t = t >>= pure := (bind_pure t).symm
    conv => lhs; rw [h1]
    exact Sem.bind_eq_wrap' t pure
  have z := h (fun s2 t2 => ∃ r c p, t2 = ⟨leafOf r, c, p, []⟩ ∧ R r s2 ∧ leftWithCleanup s2.gens = false) (fun a => pure a) (fun x => throw x) id id (.builtin "claim.caller" {}) default [] caller_in
    (fun a s' p' ⟨f, e, a1, a2⟩ => by subst e; exact Ev.of ⟨.ok f, .builtin "claim.caller" {}, p', rfl, a1, a2⟩) fun _ _ _ z => z.elim
  rw [← e] at z
  obtain ⟨s2, t2, hg, r, c, p, e2, hR, hl⟩ := z
  obtain ⟨n, sb, q1, q2, q3⟩ := go_sched (r := r) hg ⟨c, p, e2⟩ hl s ⟨t, .builtin "claim.caller" {}, default, []⟩ rfl rfl hz
  exact ⟨n, r, sb, s2, q1, q2, q3, hR⟩
theorem callFrom_L {c : ClaimW} {tree : List Value → Sem Fin} {w : World} {s : Shared} {free : Addr → Prop} {gens : Prop} {kept : Heap → Prop} (hz : s.asleep) (hgens : s.gens = #[])
    (hspec : ∀ args, c.pre args = true → WData.layableAll args = true →
      ∀ ord : List DictEntry → List DictEntry, (∀ l, (ord l).Perm l) →
      ∃ vs s₁, layAllW c.records (classAt s.heap) w.params ord args s = some (vs, s₁) ∧
        wpE c.prog w callerA (tree vs) (fun fin s' => ∃ f, fin = .done f ∧ (c.Ends s args vs s₁ (.ok f) s' ∧ s'.os = s.os ∧ AllBare s'.gens ∧ kept s'.heap)) (fun _ _ => False) s₁) :
    c.CallFrom (fun vs => ⟨tree vs, .builtin "claim.caller" {}, default, []⟩) w free gens kept s := by
  intro args hpre hlay ord hord
  obtain ⟨vs, s₁, hlaid, hcode⟩ := hspec args hpre hlay ord hord
  have hal := layAllW_rest _ _ _ hlaid
  obtain ⟨k, r, s', s'', hsched, hfo, hlife, hcase, hos, hkp⟩ := thread_endsL (prog := c.prog) (w := w) (t := tree vs) (s := s₁)
    (R := fun r s' => c.Ends s args vs s₁ r s' ∧ s'.os = s.os ∧ kept s'.heap)
    (Shared.asleep_of_life hal.2.2.2 hz)
    (wpE_thn hcode (by
      rintro fin s' ⟨f, e, h1, h2, h3, h4⟩
      exact ⟨f, e, ⟨h1, h2, h4⟩, leftWithCleanup_false_of_bare h3⟩))
  obtain ⟨eh, _, _, eo, _⟩ := Shared.forget_eq hfo
  have hcase := hcase.congr eh
  have hkp : kept s'.heap := by first | exact eh ▸ hkp | (rw [eh] at hkp; exact hkp) | (rw [← eh] at hkp; exact hkp)
  rw [← eo] at hos
  have hlife : s'.heap.life = s.heap.life := hlife.trans hal.2.2.2
  refine ⟨vs, s₁, hlaid, k, _, s', hsched, ?_, (fun _ i x hx => by rw [hgens] at hx; simp at hx), hkp, by rw [hlife], Shared.rest_eq hos⟩
  rcases hcase with ⟨v, rfl, d1, d2, d3, d4, d5⟩ | ⟨e, ob, cls, rfl, d1, d2, d3, d4, d5⟩
  · exact .inl ⟨v, rfl, d1, d2, d3, fun b o y _ => d4 b o y, d5⟩
  · exact .inr ⟨e, ob, cls, rfl, d1, d2, d3, d4, fun b o y _ => d5 b o y⟩
/-- what is asked of the law's call -/
abbrev WalkL (q : Program) (loose : List Str) (XP : (Str → Option Value) → Heap → Prop) (YP : World → Heap → Prop) (r : RowW) (d : DefRec) (kwd : List (Str × Expr)) : Prop :=
  ∀ (w : World) (s₀ s₁ : Shared) (mg mb : Str → Option Value), Ground q loose r.records XP w s₀ mg mb s₁.heap → YP w s₀.heap → (∀ b o, s₀.heap.get? b = some o → s₁.heap.get? b = some o) → ∀ (a : Addr) (o : Obj) (pm cd doc dV kV : Value), s₁.heap.get? a = some o →
    o.data = .func { docDef d.name d.params d.body d.scope pm cd doc with defaults := dV, kwdefaults := kV } → s₁.heap.CodeRec cd d.name → Dflts mg s₁.heap d.params kwd dV kV → mg d.name = some (.ref a) → s₁.gens = #[] →
    ∀ (args : List WData) (vals : List Value) (as : List Addr), r.claim.pre args = true → WData.layableAll args = true → Laid r.records w s₀ s₁ args vals as →
      wpE r.prog w callerA (PySem.call (.ref a) vals) (fun v s' => GoodWG r.claim (classAt s₀.heap) (ExcName.means s₀.heap) args s₁ (.ok (.ret v)) s') (fun _ _ => False) s₁
theorem holds_openL {r : OpenRow} {q : Program} {loose : List Str} {Xt : Shared → Bool} {XP : (Str → Option Value) → Heap → Prop} {α : Type} {Yf : Shared → α} {Ya : World → α} {YP : World → Heap → Prop} {d : DefRec} {kwd : List (Str × Expr)} {N : Nat}
    (left : LeftO r.prog q loose Xt Yf Ya N) (hY : ∀ w s, Yf s = Ya w → YP w s.heap)
    (hX : ∀ s, Xt s = true → XP (s.heap.nsMap mainGlobals) s.heap) (hXk : ∀ mg h h', XP mg h → (∀ b o, h.get? b = some o → h'.get? b = some o) → XP mg h')
    (hdef : defOf q r.name = some (d, kwd)) (hp : r.prog.theDef r.name = some (d.params, d.body, d.scope)) (hk : kwWritten? d.params.kwonlyargs d.params.kw_defaults = some kwd) (hRf : ∀ s, Xt s = true → RecFacts r.records s.heap) (hwr : (!r.writes || r.records.isEmpty) = true)
    (k1 : r.wellSaid = true) (ok : (chainsOk q && opensWell r.prog && (frees r.toRowW && r.within.isEmpty)) = true) (hb : r.prog.bare) (hw : r.toRowW.promised)
    (call : WalkL q loose XP YP r.toRowW d kwd) : r.Holds := by
  refine ⟨k1, hw, ?_⟩
  obtain ⟨ok, k5⟩ := Bool.and_eq_true_iff.mp ok
  obtain ⟨hch, o1⟩ := Bool.and_eq_true_iff.mp ok
  obtain ⟨k5, k6⟩ := Bool.and_eq_true_iff.mp k5
  obtain ⟨hsame, hu, ha, hap, hm⟩ := frees_parts k5
  refine ⟨⟨hb, o1, by show r.toRowW.makers.map _ = []; rw [hm]; rfl⟩, hw.witness, fun w => ⟨(left.behind hX hch w).1, fun s' hs' => ?_⟩⟩
  obtain ⟨s₀, hf, hg0, s, hT, hz, hgens, hg, G00, y⟩ := (left.behind (XP := fun mg h => XP mg h ∧ RecFacts r.toRowW.records h) (fun s hs => ⟨hX s hs, hRf s hs⟩) hch w).2 s' hs'
  have G0 : Ground q loose [] XP w s (s.heap.nsMap mainGlobals) (s.heap.nsMap builtinsNs) s.heap := ⟨G00.T, G00.B, G00.D, G00.TE, G00.TD, G00.W, G00.X.1, G00.cls, G00.has, G00.apart, G00.once, G00.K⟩
  have RF := G00.X.2
  have hT' := hT
  refine ⟨s₀, hf, hg0, s, hT, fun n hn => ?_, RF.1, RF.2.1, ?_⟩
  · obtain rfl : n = r.name := by split at hn <;> simp_all
    exact pinned_of_view hg G0 hdef hp hk
  have hgens : s.gens = #[] := Array.eq_empty_of_size_eq_zero (beq_iff_eq.mp hgens)
  have G : Ground q loose r.toRowW.records XP w s _ _ s.heap := RF.ground G0
  refine callFrom_L (c := r.toRowW.claim) hz hgens fun args hpre hlay ord hord => ?_
  obtain ⟨⟨vs, s₁⟩, hlaid⟩ := Option.isSome_iff_exists.mp (layAllW_isSome (P := w.params) (ord := ord) G.has args r.toRowW.args s (pre_splitW hpre).1)
  have keeps := layAllW_keeps _ _ _ hlaid
  have hal := layAllW_rest _ _ _ hlaid
  obtain ⟨as, hrd, hin, hold⟩ := reads_layAllW hord _ _ _ hlaid hlay s₁.heap (fun _ _ e => e)
  have L : Laid r.toRowW.records w s s₁ args vs as := ⟨⟨ord, hord, hlaid⟩, hrd, hin, hold, keeps, hal.1.trans hgens, hal.2.2.1⟩
  have G₁ := G.keeps hXk keeps
  obtain ⟨a, o, pm, cd, doc, dV, kV, h1, h2, h3, h4, h5⟩ := G₁.fn hdef
  have h := call w s s₁ _ _ G₁ (hY w s y) keeps a o pm cd doc dV kV h2 h3 h4 h5 (defOf_name hdef ▸ h1) L.gens args vs as hpre hlay L
  have hi := ident_freeW hu ha hap
  have hwi : r.toRowW.claim.within = [] := List.isEmpty_iff.mp k6
  refine ⟨vs, s₁, hlaid, wpE_bind (wpE_of (wpAny_nsGet G₁.T.g (by
    rw [h1]
    exact wpE_bind (wpE_thn h fun v s' g => wpE_pure ⟨_, rfl, have z := g.laid (c := r.toRowW.claim) hsame hwi hi L; ⟨z.1, z.2.1, z.2.2, fun q => ⟨namesKept_of hT' hg _ keeps g.2.1.old, noTable hwr q⟩⟩⟩))))⟩
end Lo
set_option maxHeartbeats 4000000
/-! Lo17: the law's call from its promise; the head. -/
namespace Lo
open PySem PySem.Spec PyProof.Rows L2 Sm

/-- the script alone is tracked -/
def onlyH (a : Addr) (o : Obj) (xs : List V) : Hp := fun b => if b = a then some (.frz o (.lst xs)) else none
theorem onlyH_at {a : Addr} {o : Obj} {xs : List V} : onlyH a o xs a = some (.frz o (.lst xs)) := if_pos rfl
theorem onlyH_ne {a b : Addr} {o : Obj} {xs : List V} (h : b ≠ a) : onlyH a o xs b = none := if_neg h
theorem isL_ints {K : PySem.W.Frag} {H : Hp} : ∀ {ns : List Int}, IsL K H (ns.map D.int) (ns.map V.int)
  | [] => isL_nil.mpr rfl
  | n :: ns => isL_cons.mpr ⟨_, _, rfl, is_int.mpr rfl, isL_ints⟩
theorem law_callE {P : Program} {w : World} {K : PySem.W.Frag} {mg mb : Str → Option Value} {k : Nat} {fa a : Addr} {fd : FuncData} {x : Str} {φ : List D → D → Prop} {s₁ : Shared} {vs : List Value} {ns : List Int}
    (KX : K.In s₁.heap) (hns : s₁.heap.Ns mainGlobals mg) (hb : s₁.heap.Ns builtinsNs mb) (hbb : ∀ x : Str, x ≠ "__name__" → mb x = bootBuiltins x) (hlim : s₁.heap.NoLimit) (hg : s₁.gens = #[])
    (ha : s₁.heap.get? a = some { cls := .type "list", data := .seq vs.toArray }) (hi : IntsAre vs ns) (hl : ns.length ≤ sizeLine) (hr : Room k callerA) (hK : K.lookup a = none)
    (F : ∀ base : Heap, K.In base → base.Ns mainGlobals mg → FnE P w K mg base k fa fd [x] (spP K φ)) (hbind : ∀ (s : Shared) (u : Value), BindsTo s fd ⟨[u], []⟩ [(x, u)])
    (hφ : φ [.scr (ns.map .int)] (.bl true)) :
    codeE P w callerA (.call (.ref fa) ⟨[.ref a], []⟩) (fun r s' => r = .ok (.ret (.bool true)) ∧ OldK s₁.heap s'.heap ∧ s'.os = s₁.os ∧ AllBare s'.gens) s₁ := by
  let ob : Obj := { cls := .type "list", data := .seq vs.toArray }
  let H := onlyH a ob (ns.map V.int)
  have ha' : s₁.heap.get? a = some ob := ha
  have nsK : ∀ {b : Addr} {m : Str → Option Value}, s₁.heap.Ns b m → (hidT s₁.heap H).Ns b m := fun {b m} ⟨o, es, ep, e, d, r⟩ => by
    refine ⟨o, es, ep, hidT_get e (onlyH_ne fun q => ?_), d, r⟩
    subst q
    rw [ha'] at e
    cases e
    cases (show Data.seq vs.toArray _ = Data.dict es ep from d)
  have hKb : K.In (hidT s₁.heap H) := fun b o e => hidT_get (KX b o e) (onlyH_ne fun q => by subst q; rw [hK] at e; cases e)
  have hM : Mod K mg (hidT s₁.heap H) := ⟨hKb, nsK hns, ⟨mb, nsK hb, hbb⟩, let ⟨mc, h1, h2⟩ := hlim; ⟨mc, nsK h1, h2⟩⟩
  have hok : HOk P w H s₁.heap := fun b u z => by
    by_cases q : b = a
    · subst q
      have z' : some (HO.frz ob (.lst (ns.map V.int))) = some u := onlyH_at.symm.trans z
      cases z'
      exact ⟨ha, by rw [List.length_map]; exact hl, vs, _, vals_ints hi, ha⟩
    · have z' : (none : Option HO) = some u := (onlyH_ne q).symm.trans z
      cases z'
  have e0 : Env0 P w K mg (hidT s₁.heap H) callerA [] s₁ H := ⟨rfl, hM, fun b o e => of_hidT e, Nat.le_of_eq (hidT_size _ _), trivial, fun b hb => absurd (show b ∈ ([] : List Addr) from hb) (by simp), hok, .of_eq hg⟩
  refine codeE_mono ((F _ hKb (nsK hns)).run callerA [] s₁ H ⟨[.ref a], []⟩ [.ref a] [.ref a] (fun v _ => v = .bl true) (fun _ _ _ => False) hr e0 (hbind s₁ (.ref a)) (.cons rfl .nil) ⟨H, [.scr (ns.map .int)], .bl true, .refl H, ?_, hφ, fun v H' ⟨_, _, q⟩ => is_bl.mp q⟩) fun r s' h => ?_
  · exact isL_cons.mpr ⟨_, _, rfl, is_scr.mpr ⟨a, ob, ns.map V.int, rfl, onlyH_at, isL_ints⟩, isL_nil.mpr rfl⟩
  · cases r with
    | error e => exact h.elim
    | ok fl =>
      cases fl with
      | next => exact h.elim
      | brk => exact h.elim
      | cont => exact h.elim
      | ret u =>
        obtain ⟨v, H', os, bare, un, hok', r', q⟩ := h
        have q' : v = .bl true := q
        subst q'
        obtain rfl : u = Value.bool true := r'
        refine ⟨rfl, OldK.of_keep fun b o e => ?_, os, bare⟩
        by_cases z : b = a
        · subst z
          have z2 := un.frzs b ob _ onlyH_at
          obtain ⟨e2, _⟩ := hok' b _ z2
          rw [ha'] at e
          cases e
          exact e2
        · exact un.keep b o e (onlyH_ne z) (by intro y; exact absurd (show b ∈ ([] : List Addr) from y) (by simp)) (by simp)
end Lo
namespace Lo
open PySem PySem.W PySem.Calls PyProof.Rows Sm
/-- the law's walk from its def's promise over data -/
theorem walk_ofL {l : OpenLaw} {n k : Nat} {q : Program} {loose : List Str} {XP : (Str → Option Value) → Heap → Prop} {YP : World → Heap → Prop} {d : DefRec} {x : Str} {φ : List D → D → Prop}
    (hn : l.most = some n) (hn2 : n ≤ sizeLine) (hr : L2.Room k callerA) (hφ : ∀ ns : List Int, φ [.scr (ns.map .int)] (.bl true))
    (F : ∀ (w : World) (mg : Str → Option Value) (fa : Addr) (h h1 : Heap), YP w h → (∀ b o, h.get? b = some o → h1.get? b = some o) → h1.Ns mainGlobals mg → mg d.name = some (.ref fa) →
      ∃ (K : Frag) (fd : FuncData), K.In h ∧ (∀ (s : Shared) (u : Value), BindsTo s fd ⟨[u], []⟩ [(x, u)]) ∧
        ∀ base : Heap, K.In base → base.Ns mainGlobals mg → FnE l.prog w K mg base k fa fd [x] (spP K φ)) :
    WalkL q loose XP YP l.row.toRowW d [] := by
  intro w s₀ s₁ mg mb G Y keeps fa o pm cd doc dV kV ho hd hcd hD hmg hg args vals as hpre hlay L
  obtain ⟨ord, hord, hlaid⟩ := L.laid
  obtain ⟨a, vs, ns, rfl, rfl, hobj, hints, hlen⟩ := Att.script_of hn hpre (well_layAllW hord _ _ _ hlaid _ fun _ _ e => e)
  obtain ⟨K, fd, KX, hb, hF⟩ := F w mg fa _ _ Y keeps G.T.g hmg
  have ain : a ∈ as := by
    cases L.reads with
    | cons r1 r2 =>
      cases r1 with
      | list _ _ _ _ => simp
  have hnew : s₀.heap.objs.size ≤ a := (L.within.2.2 a ain).1
  have hK : K.lookup a = none := by
    cases e : K.lookup a with
    | none => rfl
    | some ob => exact absurd (Heap.lt_size (KX a ob e)) (Nat.not_lt.mpr hnew)
  refine wpE_call (codeE_mono (law_callE (KX.keeps keeps) G.T.g G.T.b G.T.builtins G.T.nolimit hg hobj hints (Nat.le_trans hlen hn2) hr hK hF hb (hφ ns)) fun r s' hq => ?_)
  obtain ⟨rfl, h2, h3, h4⟩ := hq
  exact ⟨.inl ⟨.bool true, .bool true, [], rfl, fun _ => rfl, .bool true, Att.post_true l _, fun _ => ⟨List.Pairwise.nil, fun _ hm => (nomatch hm)⟩⟩, h2, h3, h4⟩
/-- from the top's run to the law -/
theorem head_anyL {r : OpenRow} {q : Program} {H : Hook} {ob : SharedT → H.α} {M : Nat} {loose : List Str} {d : DefRec} {kwd : List (Str × Expr)} (ho : ∀ s : SharedT, ob s = H.obs s.abs)
    (e : opening r.prog = plainProg r.prog.main.scope.names) (f : ∀ s, fenceModules? r.prog s = some s) (run : ∀ w, HandSHeadRun.RunEq r q H ob M loose w)
    (hdef : defOf q r.name = some (d, kwd)) (hp : r.prog.theDef r.name = some (d.params, d.body, d.scope)) (hk : kwWritten? d.params.kwonlyargs d.params.kw_defaults = some kwd)
    (hwr : (!r.writes || r.records.isEmpty) = true) (k1 : r.wellSaid = true) (ok : (chainsOk q && opensWell r.prog && (frees r.toRowW && r.within.isEmpty)) = true) (hb : r.prog.bare) (hw : r.toRowW.promised)
    (call : WalkL q loose (XL q []) H.says r.toRowW d kwd) : r.Holds := by
  have left : LeftO r.prog q loose (fun s => xlAt q [] s && recOk r.toRowW.records s) H.obs H.val (M + 600) true :=
    HandSHeadRun.left_one (M := M) e (Nat.ble_eq_true_of_le (by omega)) f (Nat.ble_eq_true_of_le (by omega)) fun w os => by
      have z := run w os
      rw [show ob = fun s => H.obs s.abs from funext ho] at z
      simp only [HandSHeadRun.endQ_eq, HandSHeadRun.seenQ_eq]
      exact z
  exact holds_openL left H.of (fun s z => xl_of s (Bool.and_eq_true_iff.mp z).1) XL.keeps hdef hp hk (fun s z => recFacts_of (Bool.and_eq_true_iff.mp z).2) hwr k1 ok hb hw call
end Lo
set_option maxHeartbeats 4000000
/-! Fa1: the defs of webs and ties. -/
namespace Fa
open PySem PySem.Spec PyProof.Rows L2 Sm Tx

/-- the built-in names stand as they are -/
structure Gn (mg : Str → Option Value) : Prop where
  len : mg "len" = none
  range : mg "range" = none
  isi : mg "isinstance" = none
  int : mg "int" = none
  bool : mg "bool" = none
  tuple : mg "tuple" = none
  list : mg "list" = none
  all : mg "all" = none
  any : mg "any" = none
  sum : mg "sum" = none
  zip : mg "zip" = none
  sorted : mg "sorted" = none
  set : mg "set" = none
  max : mg "max" = none
  min : mg "min" = none
  abs : mg "abs" = none

theorem bt_int : bootBuiltins "int" = some (.type "int") := by decide +kernel
theorem bt_bool : bootBuiltins "bool" = some (.type "bool") := by decide +kernel
theorem bt_tuple : bootBuiltins "tuple" = some (.type "tuple") := by decide +kernel
theorem ki_ii {K : PySem.W.Frag} : PySem.W.kitOne K (.type "int") (.type "int") = some true := kit_ty (by decide +kernel)
theorem ki_ib {K : PySem.W.Frag} : PySem.W.kitOne K (.type "int") (.type "bool") = some false := kit_ty (by decide +kernel)
theorem ki_tt {K : PySem.W.Frag} : PySem.W.kitOne K (.type "tuple") (.type "tuple") = some true := kit_ty (by decide +kernel)
section
variable {P : Program} {w : World} {K : PySem.W.Frag} {mg : Str → Option Value} {base : Heap} {f : Addr} {fd : FuncData}
/-! ### is_integer -/
theorem scInt : FnScope ["value", "least", "most"] ["value", "least", "most"] (defScope sInt) := ⟨rfl, rfl, rfl, by decide +kernel, rfl, by decide +kernel, by decide +kernel⟩
def phInt (ds : List D) (d : D) : Prop := ∃ i lo hi : Int, ds = [.int i, .int lo, .int hi] ∧ d = .bl (decide (lo ≤ i) && decide (i ≤ hi))
theorem fnInt (F : Fun K "is_integer" "is_integer" sInt f fd) (g : Gn mg) : FnOk P w K mg base CX0 1 f fd ["value", "least", "most"] (spP K phInt) := by
  refine fn_pure F scInt (fun ds d ⟨i, lo, hi, e, _⟩ => by rw [e]; rfl) fun cdv A outer s H E hr ds d h Hb0 H0 => ?_
  obtain ⟨i, lo, hi, rfl, rfl⟩ := h
  refine eb_ifRet (b := decide (i < lo)) (et_is (eo_et (eo_orF (et_not (et_val (ed_isi g.isi (ed_v 0) (ed_bty "int" g.int bt_int) ty_int (.ty _) ki_ii)))
    (eo_orF (et_val (ed_isi g.isi (ed_v 0) (ed_bty "bool" g.bool bt_bool) ty_int (.ty _) ki_ib)) (eo_or1 (et_lt (ed_v 0) (ed_v 1)))))) rfl) (fun hlt => ?_) fun hge => ?_
  · refine eb_ret ed_bl fun Hb H x => ⟨?_, x⟩
    have : ¬ (lo ≤ i) := by have := of_decide_eq_true hlt; omega
    rw [decide_eq_false this]; rfl
  · refine eb_ret (ed_or (ed_isN (ed_v 2) ed_non) fun _ => ed_one (ed_le (ed_v 0) (ed_v 2))) fun Hb H x => ⟨?_, x⟩
    have : lo ≤ i := by have := of_decide_eq_false hge; omega
    rw [decide_eq_true this, Bool.true_and, Bool.false_or]
/-! ### is_ascending -/
abbrev nI (i : Nat) : D := .int (i : Int)
/-- a tie -/
abbrev dT (t : Nat × Nat) : D := .tup [nI t.1, nI t.2]
abbrev nAsc : List Str := ["items", "one", "other"]
theorem scAsc : FnScope nAsc ["items"] (defScope sAsc) := ⟨rfl, rfl, rfl, by decide +kernel, rfl, by decide +kernel, by decide +kernel⟩
def ltT (x y : Nat × Nat) : Bool := HT.lexLt [(x.1 : Int), (x.2 : Int)] [(y.1 : Int), (y.2 : Int)]
def ascT (ts : List (Nat × Nat)) : Bool := (ts.zip (ts.drop 1)).all fun q => ltT q.1 q.2
def phAsc (ds : List D) (d : D) : Prop := ∃ ts : List (Nat × Nat), ts.length ≤ 1000 ∧ ds = [.tup (ts.map dT)] ∧ d = .bl (ascT ts)
theorem line_of {n : Nat} (h : n ≤ 1000) : n ≤ sizeLine := Nat.le_of_lt (small1000 h)
theorem fnAsc (F : Fun K "is_ascending" "is_ascending" sAsc f fd) (g : Gn mg) : FnOk P w K mg base CX0 1 f fd ["items"] (spP K phAsc) := by
  refine fn_pure F scAsc (fun ds d ⟨ts, _, e, _⟩ => by rw [e]; rfl) fun cdv A outer s H E hr ds d h Hb0 H0 => ?_
  obtain ⟨ts, hz, rfl, rfl⟩ := h
  have hzl : (ts.zip (ts.drop 1)).length ≤ sizeLine := line_of (by rw [List.length_zip]; omega)
  refine eb_ret (ed_all ((ts.zip (ts.drop 1)).map fun q => ltT q.1 q.2) rfl g.all (ed_lc2 (xs := ts.zip (ts.drop 1)) (fun q => dT q.1) (fun q => dT q.2) 1 2 (p := fun _ => true) (f := fun q => .bl (ltT q.1 q.2)) rfl scAsc.nd ?_ (blkOk_by (N := nAsc) (sc := defScope sAsc) (by decide +kernel)) hzl
    (fun _ _ _ _ _ _ _ => ets_nil) fun q _ _ _ _ _ _ _ => ed_ltT (ns := [(q.1.1 : Int), (q.1.2 : Int)]) (ms := [(q.2.1 : Int), (q.2.2 : Int)]) hr.units0 (ed_v 1) (ed_v 2)) ?_) fun Hb H x => ⟨?_, x⟩
  · refine ei_is (ei_zipT g.zip (ed_v 0) (ed_tupFrom (k := 1) (ed_v 0) ed_int)) ?_
    rw [← List.map_drop, zipD_map]
  · rw [fil1, List.map_map]; rfl
  · rw [List.all_map]; rfl
/-! ### is_tie -/
abbrev nTie : List Str := ["value", "size", "one"]
theorem scTie : FnScope nTie ["value", "size"] (defScope sTie) := ⟨rfl, rfl, rfl, by decide +kernel, rfl, by decide +kernel, by decide +kernel⟩
def tieOk (n : Nat) (t : Nat × Nat) : Bool := decide (t.1 < n) && decide (t.2 < n) && decide (t.1 < t.2)
def phTie (ds : List D) (d : D) : Prop := ∃ (t : Nat × Nat) (n : Nat), ds = [dT t, nI n] ∧ d = .bl (tieOk n t)
theorem fnTie (F : Fun K "is_tie" "is_tie" sTie f fd) (g : Gn mg) (cI : Ca P w K mg base 1 "is_integer" phInt) : FnOk P w K mg base CX0 2 f fd ["value", "size"] (spP K phTie) := by
  refine fn_pure F scTie (fun ds d ⟨t, n, e, _⟩ => by rw [e]; rfl) fun cdv A outer s H E hr ds d h Hb0 H0 => ?_
  obtain ⟨⟨i, j⟩, n, rfl, rfl⟩ := h
  refine eb_ifRet (b := !(decide (i < n) && decide (j < n))) (et_is (eo_et (eo_orF (et_not (et_val (ed_isi g.isi (ed_v 0) (ed_bty "tuple" g.tuple bt_tuple) ty_tup (.ty _) ki_tt)))
    (eo_orF (et_is (et_ne (ed_lenT g.len (ed_v 0)) ed_int) rfl) (eo_or1 (et_not (et_val (ed_all [decide (i < n), decide (j < n)] rfl g.all
      (ed_lc1 (xs := [i, j]) nI 2 (p := fun _ => true) (f := fun k => .bl (decide (k < n))) rfl scTie.nd (ei_tup (ed_v 0)) (blkOk_by (N := nTie) (sc := defScope sTie) (by decide +kernel)) (line_of (by simp))
        (fun _ _ _ _ _ _ _ => ets_nil) fun k _ _ _ _ _ _ _ => ed_ca cI hr (es_cons (ed_v 2) (es_cons ed_int (es_cons (ed_sub (ed_v 1) ed_int) es_nil))) ⟨k, 0, (n : Int) - 1, rfl, ?_⟩) ?_))))))) ?_) (fun h1 => ?_) fun h1 => ?_
  · congr 1
    rw [decide_eq_true (show (0 : Int) ≤ (k : Int) by omega), Bool.true_and]
    exact decide_eq_decide.mpr (by omega)
  · rfl
  · simp
  · refine eb_ret ed_bl fun Hb H x => ⟨?_, x⟩
    unfold tieOk
    rw [Bool.not_eq_true'] at h1
    rw [h1, Bool.false_and]
  · refine eb_ret (ed_lt (ed_ixT (n := 0) (ed_v 0) ed_int rfl) (ed_ixT (n := 1) (ed_v 0) ed_int rfl)) fun Hb H x => ⟨?_, x⟩
    unfold tieOk
    rw [Bool.not_eq_false'] at h1
    rw [h1, Bool.true_and]
    congr 1
    exact decide_eq_decide.mpr (by omega)
/-! ### neighbours_of -/
abbrev nNbr : List Str := ["place", "ties", "one", "other"]
theorem scNbr : FnScope nNbr ["place", "ties"] (defScope sNbr) := ⟨rfl, rfl, rfl, by decide +kernel, rfl, by decide +kernel, by decide +kernel⟩
/-- the other ends of a place's ties -/
def nbrs (ts : List (Nat × Nat)) (p : Nat) : List Nat := (ts.filter fun t => decide (p = t.1) || decide (p = t.2)).map fun t => if t.1 = p then t.2 else t.1
def phNbr (ds : List D) (d : D) : Prop := ∃ (p : Nat) (ts : List (Nat × Nat)) (ms : List Nat), ts.length < 64 ∧ ms.Perm (nbrs ts p) ∧ ms.Pairwise (· ≤ ·) ∧ ds = [nI p, .tup (ts.map dT)] ∧ d = .lst (ms.map nI)
theorem fnNbr (F : Fun K "neighbours_of" "neighbours_of" sNbr f fd) (g : Gn mg) : FnOk P w K mg base CX0 1 f fd ["place", "ties"] (spP K phNbr) := by
  refine fn_pure F scNbr (fun ds d ⟨t, n, _, _, _, _, e, _⟩ => by rw [e]; rfl) fun cdv A outer s H E hr ds d h Hb0 H0 => ?_
  obtain ⟨p, ts, ms, hz, hp, hs, rfl, rfl⟩ := h
  refine eb_ret (ed_is (ed_sorted ((nbrs ts p).map fun k : Nat => (k : Int)) (ms.map fun k : Nat => (k : Int)) g.sorted (ed_lc2 (xs := ts) (fun t => nI t.1) (fun t => nI t.2) 2 3 (p := fun t => decide ((p : Int) ∈ [(t.1 : Int), (t.2 : Int)])) (f := fun t => nI (if t.1 = p then t.2 else t.1))
    rfl scNbr.nd (ei_tup (ed_v 1)) (blkOk_by (N := nNbr) (sc := defScope sNbr) (by decide +kernel)) (line_of (by omega))
    (fun t _ _ _ _ _ _ => ets_one (et_inT [(t.1 : Int), (t.2 : Int)] (ed_v 0) (ed_tup (es_cons (ed_v 2) (es_cons (ed_v 3) es_nil)) (line_of (by simp))) rfl))
    fun t _ _ _ _ _ _ _ => ed_if (et_eq (ed_v 2) (ed_v 0)) (fun h => ed_is (ed_v 3) ?_) fun h => ed_is (ed_v 2) ?_) ?_ ?_ ?_ ?_) ?_) fun Hb H x => ⟨rfl, x⟩
  · have : t.1 = p := by have := of_decide_eq_true h; omega
    rw [if_pos this]
  · have : ¬ t.1 = p := by have := of_decide_eq_false h; omega
    rw [if_neg this]
  · unfold nbrs
    rw [List.map_map, List.map_map]
    have e : (fun t : Nat × Nat => decide ((p : Int) ∈ [(t.1 : Int), (t.2 : Int)])) = fun t => decide (p = t.1) || decide (p = t.2) := by
      funext t
      rw [← Bool.decide_or]
      exact decide_eq_decide.mpr (by simp only [List.mem_cons, List.not_mem_nil, or_false]; omega)
    rw [e]
    rfl
  · rw [List.length_map]
    unfold nbrs
    rw [List.length_map]
    exact Nat.lt_of_le_of_lt (List.length_filter_le _ _) hz
  · exact hp.map _
  · exact List.pairwise_map.mpr (hs.imp fun h => by omega)
  · rw [List.map_map]; rfl
/-! ### near_of -/
def nbS (ts : List (Nat × Nat)) (p : Nat) : List Nat := (nbrs ts p).mergeSort fun a b => decide (a ≤ b)
theorem nbS_perm (ts : List (Nat × Nat)) (p : Nat) : (nbS ts p).Perm (nbrs ts p) := List.mergeSort_perm _ _
theorem nbS_sorted (ts : List (Nat × Nat)) (p : Nat) : (nbS ts p).Pairwise (· ≤ ·) := by
  have h := List.pairwise_mergeSort (le := fun a b : Nat => decide (a ≤ b)) (fun a b c h1 h2 => by simp only [decide_eq_true_eq] at *; omega) (fun a b => by simp only [Bool.or_eq_true, decide_eq_true_eq]; omega) (nbrs ts p)
  exact h.imp fun h => by simpa using h
theorem rngD_0 (n : Nat) : rngD 0 n = (List.range n).map nI := by
  unfold rngD
  refine List.map_congr_left fun i _ => ?_
  show D.int (0 + (i : Int)) = D.int (i : Int)
  rw [Int.zero_add]
abbrev kN (k : Nat) : Key := .inl (k : Int)
/-- a place's row: its neighbours -/
def nrow (ts : List (Nat × Nat)) (p : Nat) : D := .dct (dcD kN (fun _ => .bl true) (nbS ts p))
def nearD (n : Nat) (ts : List (Nat × Nat)) : D := .tup ((List.range n).map (nrow ts))
abbrev nNear : List Str := ["size", "ties", "place", "other"]
theorem scNear : FnScope nNear ["size", "ties"] (defScope sNear) := ⟨rfl, rfl, rfl, by decide +kernel, rfl, by decide +kernel, by decide +kernel⟩
def phNear (ds : List D) (d : D) : Prop := ∃ (n : Nat) (ts : List (Nat × Nat)), n ≤ 100 ∧ ts.length < 64 ∧ ds = [nI n, .tup (ts.map dT)] ∧ d = nearD n ts
theorem nbS_small {ts : List (Nat × Nat)} {p : Nat} (h : ts.length < 64) : (nbS ts p).length ≤ 1000 := by
  rw [(nbS_perm ts p).length_eq]
  unfold nbrs
  rw [List.length_map]
  have := List.length_filter_le (fun t : Nat × Nat => decide (p = t.1) || decide (p = t.2)) ts
  omega
theorem fnNear (F : Fun K "near_of" "near_of" sNear f fd) (g : Gn mg) (cN : Ca P w K mg base 1 "neighbours_of" phNbr) : FnOk P w K mg base CX0 2 f fd ["size", "ties"] (spP K phNear) := by
  refine fn_pure F scNear (fun ds d ⟨n, ts, _, _, e, _⟩ => by rw [e]; rfl) fun cdv A outer s H E hr ds d h Hb0 H0 => ?_
  obtain ⟨n, ts, hn, hz, rfl, rfl⟩ := h
  refine eb_ret (ed_is (ed_tupL g.tuple (ed_lc1 (xs := List.range n) nI 2 (p := fun _ => true) (f := nrow ts) rfl scNear.nd (ei_is (ei_range1 g.range (ed_v 0) (by omega)) (rngD_0 n)) (blkOk_by (N := nNear) (sc := defScope sNear) (by decide +kernel)) (line_of (by simp; omega))
    (fun _ _ _ _ _ _ _ => ets_nil) fun q _ _ s H C cl fp => ?_)) ?_) fun Hb H x => ⟨rfl, x⟩
  · refine ed_is (ed_dc (xs := nbS ts q) nI (own := [("other", 3)]) (g := gName 3) (pr := fun _ => true) (kf := kN) (vf := fun _ => .bl true) (τ := fun k => (wipeD _ [3]).set 3 (some (nI k))) rfl scNear.nd
      (ei_list (ed_ca cN hr (es_cons (ed_v 2) (es_cons (ed_v 1) es_nil)) ⟨q, ts, nbS ts q, hz, nbS_perm _ _, nbS_sorted _ _, rfl, rfl⟩)) ?_ (line_of (nbS_small hz))
      (fun _ _ _ _ _ => pg_name (i := 3) scNear.nd rfl (Or.inl rfl)) (fun k _ => tg_name (by simp)) (fun _ _ _ _ _ _ _ => ets_nil) (fun k _ _ _ _ _ _ _ => ed_v 3) fun k _ _ _ _ _ _ _ => ed_bl) ?_
    · exact blkOk_by (N := nNear) (sc := relS ⟨.function, [(".0", .local), ("place", .local), ("neighbours_of", .globalImplicit), ("ties", .free)], false, false, []⟩ (defScope sNear)) (by decide +kernel)
    · unfold nrow; rw [fil1]
  · unfold nearD; rw [fil1]
end
end Fa
set_option maxHeartbeats 4000000
/-! Fa2: webs. -/
namespace Fa
open PySem PySem.Spec PyProof.Rows L2 Sm Tx

section
variable {P : Program} {w : World} {K : PySem.W.Frag} {mg : Str → Option Value} {base : Heap} {f : Addr} {fd : FuncData}
/-! ### Parts -/
theorem scParts : FnScope ["self", "size", "ties"] ["self", "size", "ties"] (defScope sParts) := ⟨rfl, rfl, rfl, by decide +kernel, rfl, by decide +kernel, by decide +kernel⟩
theorem fnParts {C p0 p1 : Addr} (F : Fun K "__init__" "Parts.__init__" sParts f fd) (c : SCls K C) (t0 : L2.Slt K C "own_size" 0 p0) (t1 : L2.Slt K C "own_ties" 1 p1) : FnOk P w K mg base CX0 1 f fd ["self", "size", "ties"] (spS2 C) := by
  refine F.ok scParts (fun vs H Q E ⟨a, dx, v1, v2, e, _⟩ => by rw [e]; rfl) (fun cdv A outer s H vs Q E hr ⟨a, dx, v1, v2, e, hS, q⟩ => ?_)
  subst e
  refine ⟨_, pss_cons (ps_slot c t0 (pv 0) (pv 1)) (pss_one (ps_slot c t1 (pv 0) (pv 2))), ?_⟩
  refine ⟨v1, rfl, .ref a, rfl, a, dx, [], rfl, hS, v2, rfl, .ref a, rfl, a, dx, [some v1], rfl, hS.here, ?_⟩
  rw [upd_upd]
  exact q
/-! ### checked -/
/-- n places, ts the ties -/
structure WebOk (n : Nat) (ts : List (Nat × Nat)) : Prop where
  pos : 1 ≤ n
  le : n ≤ 10
  few : ts.length < 64
  ok : ∀ t ∈ ts, tieOk n t = true
  asc : ascT ts = true
abbrev nChk : List Str := ["size", "ties", "tie"]
theorem scChk : FnScope nChk ["size", "ties"] (defScope sChk) := ⟨rfl, rfl, rfl, by decide +kernel, rfl, by decide +kernel, by decide +kernel⟩
def phChk (C : Addr) (ds : List D) (d : D) : Prop := ∃ (n : Nat) (ts : List (Nat × Nat)), WebOk n ts ∧ ds = [nI n, .tup (ts.map dT)] ∧ d = .slt C [nI n, .tup (ts.map dT)]
theorem fnChk {C fP : Addr} {fdP : FuncData} (F : Fun K "checked" "checked" sChk f fd) (g : Gn mg) (cI : Ca P w K mg base 1 "is_integer" phInt) (cT : Ca P w K mg base 2 "is_tie" phTie) (cA : Ca P w K mg base 1 "is_ascending" phAsc)
    (M : Mk K C fP) (GP : FnOk P w K mg base CX0 1 fP fdP ["self", "size", "ties"] (spS2 C)) (bP : Binds K fdP ["self", "size", "ties"] []) (mP : mg "Parts" = some (.ref C)) {tk : Tok} (mM : mg "MAX_PASSED" = some (.int 10 tk)) : FnOk P w K mg base CX0 3 f fd ["size", "ties"] (spP K (phChk C)) := by
  refine fn_pure F scChk (fun ds d ⟨t, n, _, e, _⟩ => by rw [e]; rfl) fun cdv A outer s H E hr ds d h Hb0 H0 => ?_
  obtain ⟨n, ts, ok, rfl, rfl⟩ := h
  have hz : ts.length ≤ 1000 := by have := ok.few; omega
  refine eb_ifF (et_is (et_not (et_val (ed_ca cI (hr.mono (by decide)) (es_cons (ed_v 0) (es_cons ed_int (es_cons (ed_const mM) es_nil))) ⟨n, 1, 10, rfl, rfl⟩))) ?_) ?_
  · rw [decide_eq_true (show (1 : Int) ≤ (n : Int) by have := ok.pos; omega), decide_eq_true (show (n : Int) ≤ 10 by have := ok.le; omega)]; rfl
  refine eb_ifF (et_is (eo_et (eo_orF (et_not (et_val (ed_isi g.isi (ed_v 1) (ed_bty "tuple" g.tuple bt_tuple) ty_tup (.ty _) ki_tt))) (eo_orF (et_is (et_not (et_val (ed_all (ts.map fun t => tieOk n t) rfl g.all
    (ed_lc1 (xs := ts) dT 2 (p := fun _ => true) (f := fun t => .bl (tieOk n t)) rfl scChk.nd (ei_tup (ed_v 1)) (blkOk_by (N := nChk) (sc := defScope sChk) (by decide +kernel)) (line_of hz)
      (fun _ _ _ _ _ _ _ => ets_nil) fun t _ _ _ _ _ _ _ => ed_ca cT hr (es_cons (ed_v 2) (es_cons (ed_v 0) es_nil)) ⟨t, n, rfl, rfl⟩) ?_))) ?_)
    (eo_or1 (et_is (et_not (et_val (ed_ca cA (hr.mono (by decide)) (es_cons (ed_v 1) es_nil) ⟨ts, hz, rfl, rfl⟩))) (u := false) ?_))))) rfl) ?_
  · rw [fil1, List.map_map]; rfl
  · rw [List.all_map, show ts.all (id ∘ fun t => tieOk n t) = true from List.all_eq_true.mpr ok.ok]; rfl
  · rw [ok.asc]; rfl
  · exact eb_ret (ed_mkS2 M GP hr mP bP (ed_v 0) (ed_v 1)) fun Hb H x => ⟨rfl, x⟩
/-! ### an __init__ with defaults -/
theorem okD {x qual : Str} {params : Arguments} {body : List Stmt} {scope : Scope} {dvs : List V} {kws : List (Str × V)} {N ps : List Str} {k : Nat} {sp : Sp} (F : FunD K x qual params body scope dvs kws f fd) (S : FnScope N ps scope) (len : ∀ vs H Q E, sp vs H Q E → vs.length = ps.length)
    (hbody : ∀ (cdv : Value) (A : Around) (outer : List Env) (s : Shared) (H : Hp) (vs : List V) (Q : VK) (E : XK), Room k (A.deeper (envOfC qual scope s.heap.objs.size f cdv)) → sp vs H Q E →
      ∃ t, PSs (cxOf CX0 P w K mg base N qual scope f cdv A outer s H E).nox body t ∧ t { nx := fun _ H' => Q .non H', rt := Q } (start N vs) H) : FnOk P w K mg base CX0 (k + 1) f fd ps sp :=
  F.ok S len fun cdv A outer s H vs Q E hr hsp => let ⟨t, h, q⟩ := hbody cdv A outer s H vs Q E hr hsp; ⟨t, h.nox, q⟩
theorem fn_initD {x qual : Str} {params : Arguments} {body : List Stmt} {scope : Scope} {dvs : List V} {kws : List (Str × V)} {C : Addr} {N ps : List Str} {k : Nat} {φ : List D → List (Str × D) → Prop} (F : FunD K x qual params body scope dvs kws f fd) (S : FnScope N ps scope) (len : ∀ ds fs, φ ds fs → ds.length + 1 = ps.length)
    (hbody : ∀ (cdv : Value) (A : Around) (outer : List Env) (s : Shared) (H : Hp) (E : XK), Room k (A.deeper (envOfC qual scope s.heap.objs.size f cdv)) → ∀ ds fs, φ ds fs → ∀ Hb0 H0 a,
      EB (cxOf CX0 P w K mg base N qual scope f cdv A outer s H E).nox (FramI K (Xt Hb0 H0) a C []) (st0 N (.adr a :: ds)) body (fun _ => FramI K (Xt Hb0 H0) a C fs) (fun d' Hb H => d' = .non ∧ FramI K (Xt Hb0 H0) a C fs Hb H) No No) :
    FnOk P w K mg base CX0 (k + 1) f fd ps (spI K C φ) := by
  refine okD F S (fun vs H Q E ⟨Hb, a, dx, us, ds, fs, h1, _, _, _, h5, h6, _⟩ => by rw [h1, List.length_cons, h5.length]; exact len ds fs h6) (fun cdv A outer s H vs Q E hr ⟨Hb, a, dx, us, ds, fs, h1, h2, h3, h4, h5, h6, h7⟩ => ?_)
  refine ⟨_, pss_sm, ?_⟩
  subst h1
  have w0 : FramI K (Xt Hb (hid H a)) a C [] Hb H := ⟨h3, ⟨dx, [], h4, isF_nil.mpr rfl⟩, .refl (ex_hid h2 h3)⟩
  refine (hbody cdv A outer s H E hr ds fs h6 Hb (hid H a) a Hb H _ h2 (start_is (isL_cons.mpr ⟨_, _, rfl, is_adr.mpr rfl, h5⟩)) w0).mono (fun σ H' ⟨ρ', Hb', a1, a2, a3, a4⟩ => h7 Hb' H' a2 a4) (fun v H' ⟨d', Hb', a1, a2, a3, e, a4⟩ => ?_) (fun σ H' ⟨ρ', Hb', a1, a2, a3, z⟩ => z.elim) fun σ H' ⟨ρ', Hb', a1, a2, a3, z⟩ => z.elim
  subst e
  rw [is_non.mp a3]
  exact h7 Hb' H' a2 a4
/-! ### Web -/
abbrev nWeb : List Str := ["self", "size", "ties", "held"]
theorem scWeb : FnScope nWeb ["self", "size", "ties"] (defScope sWeb) := ⟨rfl, rfl, rfl, by decide +kernel, rfl, by decide +kernel, by decide +kernel⟩
/-- a web's attributes -/
def webF (n : Nat) (ts : List (Nat × Nat)) : List (Str × D) := [("own_size", nI n), ("own_ties", .tup (ts.map dT)), ("own_near", nearD n ts), ("own_places", .tup ((List.range n).map nI))]
def phWeb (ds : List D) (fs : List (Str × D)) : Prop := ∃ (n : Nat) (ts : List (Nat × Nat)), WebOk n ts ∧ ds = [nI n, .tup (ts.map dT)] ∧ fs = webF n ts
structure WebC (K : PySem.W.Frag) (C : Addr) : Prop where
  cl : Cls K C
  n1 : NoAttr K C "own_size"
  n2 : NoAttr K C "own_ties"
  n3 : NoAttr K C "own_near"
  n4 : NoAttr K C "own_places"
theorem fnWeb {C CP p0 p1 : Addr} {dvs : List V} {kws : List (Str × V)} (F : FunD K "__init__" "Web.__init__" (defArgs sWeb) (defBody sWeb) (defScope sWeb) dvs kws f fd) (g : Gn mg) (wc : WebC K C) (cC : Ca P w K mg base 3 "checked" (phChk CP)) (cN : Ca P w K mg base 2 "near_of" phNear) (mP : mg "Parts" = some (.ref CP)) (kP : PySem.W.kitOne K (.type "int") (.ref CP) = some false)
    (c : SCls K CP) (t0 : L2.Slt K CP "own_size" 0 p0) (t1 : L2.Slt K CP "own_ties" 1 p1) : FnOk P w K mg base CX0 4 f fd ["self", "size", "ties"] (spI K C phWeb) := by
  refine fn_initD F scWeb (fun ds fs ⟨n, ts, _, e, _⟩ => by rw [e]; rfl) fun cdv A outer s H E hr ds fs h Hb0 H0 a => ?_
  obtain ⟨n, ts, ok, rfl, rfl⟩ := h
  have hn : n ≤ 1000 := by have := ok.le; omega
  refine eb_set 3 scWeb.nd (ed_if (et_val (ed_isi g.isi (ed_v 1) (ed_own mP) ty_int (.own _) kP)) (fun e => nomatch e) fun _ => ed_ca cC hr (es_cons (ed_v 1) (es_cons (ed_v 2) es_nil)) ⟨n, ts, ok, rfl, rfl⟩) ?_
  refine eb_fld (ed_slot c t0 (ed_v 3) (d := nI n) rfl) (ed_v 0) wc.cl wc.n1 (by decide) ?_
  refine eb_fld (ed_slot c t1 (ed_v 3) (d := .tup (ts.map dT)) rfl) (ed_v 0) wc.cl wc.n2 (Nat.lt_of_le_of_lt (pl pl0) (by decide)) ?_
  refine eb_fld (ed_ca cN (hr.mono (by decide)) (es_cons (ed_slot c t0 (ed_v 3) (d := nI n) rfl) (es_cons (ed_slot c t1 (ed_v 3) (d := .tup (ts.map dT)) rfl) es_nil)) ⟨n, ts, by have := ok.le; omega, ok.few, rfl, rfl⟩) (ed_v 0) wc.cl wc.n3 (Nat.lt_of_le_of_lt (pl (pl pl0)) (by decide)) ?_
  refine eb_fld (ed_tupL g.tuple (ed_listRg rfl g.list g.range (ed_slot c t0 (ed_v 3) (d := nI n) rfl) hn)) (ed_v 0) wc.cl wc.n4 (Nat.lt_of_le_of_lt (pl (pl (pl pl0))) (by decide)) ?_
  exact eb_nil fun Hb H w => w
end
end Fa
set_option maxHeartbeats 4000000
/-! Fa3: sets of places. -/
namespace Fa
open PySem PySem.Spec PyProof.Rows L2 Sm Tx

section
variable {P : Program} {w : World} {K : PySem.W.Frag} {mg : Str → Option Value} {base : Heap} {f : Addr} {fd : FuncData}
theorem passOwn {X : Cx} (h : X.xe = fun _ _ => False) : PassesOwn (model X.prog X.w) X.A X.env X.xe := by rw [h]; exact PassesOwn.never
/-- places -/
abbrev dR (r : List Nat) : D := .tup (r.map nI)
/-! ### less -/
abbrev nLess : List Str := ["left", "places", "gone", "place"]
theorem scLess : FnScope nLess ["left", "places"] (defScope sLess) := ⟨rfl, rfl, rfl, by decide +kernel, rfl, by decide +kernel, by decide +kernel⟩
def lessF (left places : List Nat) : List Nat := left.filter fun p => !decide (p ∈ places)
def phLess (ds : List D) (d : D) : Prop := ∃ left places : List Nat, left.length ≤ 1000 ∧ places.length ≤ 1000 ∧ ds = [dR left, dR places] ∧ d = dR (lessF left places)
theorem dcD_nat (ms : List Nat) (k : Nat) : (valD (dcD kN (fun _ => .bl true) ms) (kN k)).isSome = decide (k ∈ ms) := by
  have h := dcD_has (kf := kN) (vf := fun _ => D.bl true) (k := kN k) ms
  rw [Bool.eq_iff_iff, h, decide_eq_true_iff, List.mem_map]
  constructor
  · rintro ⟨a, ha, e⟩
    have : (a : Int) = (k : Int) := Sum.inl.inj e
    have : a = k := by omega
    exact this ▸ ha
  · exact fun h => ⟨k, h, rfl⟩
theorem fnLess (F : Fun K "less" "less" sLess f fd) (g : Gn mg) : FnOk P w K mg base CX0 1 f fd ["left", "places"] (spP K phLess) := by
  refine fn_pure F scLess (fun ds d ⟨t, n, _, _, e, _⟩ => by rw [e]; rfl) fun cdv A outer s H E hr ds d h Hb0 H0 => ?_
  obtain ⟨left, places, h1, h2, rfl, rfl⟩ := h
  refine eb_set 2 scLess.nd (ed_dc (xs := places) nI (own := [("place", 3)]) (g := gName 3) (pr := fun _ => true) (kf := kN) (vf := fun _ => .bl true) (τ := fun k => (wipeD _ [3]).set 3 (some (nI k))) rfl scLess.nd (ei_tup (ed_v 1))
    (blkOk_by (N := nLess) (sc := defScope sLess) (by decide +kernel)) (line_of h2) (fun _ _ _ _ _ => pg_name (i := 3) scLess.nd rfl (Or.inl rfl)) (fun k _ => tg_name (by simp)) (fun _ _ _ _ _ _ _ => ets_nil) (fun k _ _ _ _ _ _ _ => ed_v 3) fun k _ _ _ _ _ _ _ => ed_bl) ?_
  refine eb_ret (ed_tupL g.tuple (ed_lc1 (xs := left) nI 3 (p := fun k => !decide (k ∈ places)) (f := nI) rfl scLess.nd (ei_tup (ed_v 0)) (blkOk_by (N := nLess) (sc := defScope sLess) (by decide +kernel)) (line_of h1)
    (fun k _ _ _ _ _ _ => ets_one (et_is (et_dnotin (k := kN k) (hu_of hr) (ed_v 3) (ed_v 2)) ?_)) fun k _ _ _ _ _ _ _ => ed_v 3)) fun Hb H x => ⟨rfl, x⟩
  rw [fil1, dcD_nat]
/-! ### apart_sets -/
abbrev nApt : List Str := ["web", "places", "found", "place", "near", "row", "other"]
theorem scApt : FnScope nApt ["web", "places"] (defScope sApt) := ⟨rfl, rfl, rfl, by decide +kernel, rfl, by decide +kernel, by decide +kernel⟩
/-- p beside the places of row -/
def freeOf (ts : List (Nat × Nat)) (p : Nat) (row : List Nat) : Bool := !(row.any fun o => decide (o ∈ nbS ts p))
def aptStep (ts : List (Nat × Nat)) (found : List (List Nat)) (p : Nat) : List (List Nat) := found ++ (found.filter (freeOf ts p)).map fun row => row ++ [p]
def aptF (ts : List (Nat × Nat)) (places : List Nat) : List (List Nat) := places.foldl (aptStep ts) [[]]
theorem aptF_length (ts : List (Nat × Nat)) (places : List Nat) : (aptF ts places).length ≤ 2 ^ places.length := by
  have h : ∀ (ps : List Nat) (found : List (List Nat)), (ps.foldl (aptStep ts) found).length ≤ found.length * 2 ^ ps.length := by
    intro ps
    induction ps with
    | nil => intro found; simp
    | cons p ps ih =>
      intro found
      have h1 := ih (aptStep ts found p)
      have h2 : (aptStep ts found p).length ≤ found.length * 2 := by
        unfold aptStep
        rw [List.length_append, List.length_map]
        have := List.length_filter_le (freeOf ts p) found
        omega
      rw [List.foldl_cons, List.length_cons, Nat.pow_succ]
      calc _ ≤ (aptStep ts found p).length * 2 ^ ps.length := h1
        _ ≤ (found.length * 2) * 2 ^ ps.length := Nat.mul_le_mul_right _ h2
        _ = found.length * (2 ^ ps.length * 2) := by rw [Nat.mul_assoc, Nat.mul_comm 2]
  have := h places [[]]
  simpa [aptF] using this
theorem aptF_snoc (ts : List (Nat × Nat)) (pl : List Nat) (p : Nat) : aptF ts (pl ++ [p]) = aptStep ts (aptF ts pl) p := by unfold aptF; rw [List.foldl_append]; rfl
theorem aptF_sub (ts : List (Nat × Nat)) (pl : List Nat) : ∀ row ∈ aptF ts pl, row.Sublist pl := by
  have h : ∀ (m : Nat) (pl : List Nat), pl.length = m → ∀ row ∈ aptF ts pl, row.Sublist pl := by
    intro m
    induction m with
    | zero =>
      intro pl hl row hr
      rw [List.length_eq_zero_iff.mp hl] at hr ⊢
      have : row = [] := by simpa [aptF] using hr
      rw [this]
      exact List.Sublist.refl _
    | succ m ih =>
      intro pl hl row hr
      have hne : pl ≠ [] := by intro z; rw [z] at hl; simp at hl
      rw [← List.dropLast_concat_getLast hne] at hr ⊢
      rw [aptF_snoc] at hr
      have hl2 : pl.dropLast.length = m := by rw [List.length_dropLast]; omega
      unfold aptStep at hr
      rcases List.mem_append.mp hr with z | z
      · exact (ih _ hl2 row z).trans (List.sublist_append_left _ _)
      · obtain ⟨r, hr2, rfl⟩ := List.mem_map.mp z
        exact (ih _ hl2 r (List.mem_filter.mp hr2).1).append (List.Sublist.refl _)
  exact h _ pl rfl
/-- a web -/
abbrev dW (CW : Addr) (n : Nat) (ts : List (Nat × Nat)) : D := .obj CW (webF n ts)
def phApt (CW : Addr) (ds : List D) (d : D) : Prop := ∃ (n : Nat) (ts : List (Nat × Nat)) (places : List Nat), WebOk n ts ∧ (∀ p ∈ places, p < n) ∧ places.length ≤ 9 ∧ ds = [dW CW n ts, dR places] ∧ d = .lst ((aptF ts places).map dR)
theorem fnApt {CW : Addr} (F : Fun K "apart_sets" "apart_sets" sApt f fd) (g : Gn mg) (wc : WebC K CW) : FnOk P w K mg base CX0 1 f fd ["web", "places"] (spP K (phApt CW)) := by
  refine fn_pure F scApt (fun ds d ⟨n, ts, pl, _, _, _, e, _⟩ => by rw [e]; rfl) fun cdv A outer s H E hr ds d h Hb0 H0 => ?_
  obtain ⟨n, ts, places, ok, hp, h9, rfl, rfl⟩ := h
  refine eb_set 2 scApt.nd (ed_lst (es_cons (ed_tup es_nil (line_of (by simp))) es_nil) (line_of (by simp))) ?_
  refine eb_forN (xs := places) nI 3 (fun i ρ' => Pr (∃ o3 o4, ρ' = [some (dW CW n ts), some (dR places), some (.lst ((aptF ts (places.take i)).map dR)), o3, o4, none, none]) (Xt Hb0 H0)) (passOwn rfl) rfl (ei_tup (ed_v 1)) (pg_name (i := 3) scApt.nd rfl (Or.inr rfl)) (fun Hb H x => ⟨⟨none, none, ?_⟩, x⟩) (fun i p hip ρ' => ?_) fun ρ' => ?_
  · rw [List.take_zero]; rfl
  · refine eb_pr fun ⟨o3, o4, e⟩ => ?_
    subst e
    have hi : i < places.length := (List.getElem?_eq_some_iff.mp hip).1
    have hpn : p < n := hp p (List.mem_of_getElem? hip)
    have hnr : (nearD n ts) = .tup ((List.range n).map (nrow ts)) := rfl
    have hrow : ((List.range n).map (nrow ts))[p]? = some (nrow ts p) := by rw [List.getElem?_map, List.getElem?_range hpn]; rfl
    have hsz : (aptF ts (places.take i)).length ≤ 512 := by
      refine Nat.le_trans (aptF_length _ _) (Nat.le_trans (Nat.pow_le_pow_right (by decide) (show (places.take i).length ≤ 9 by rw [List.length_take]; omega)) (by decide))
    have htk : aptF ts (places.take (i + 1)) = aptStep ts (aptF ts (places.take i)) p := by
      unfold aptF
      rw [List.take_add_one, hip]
      show List.foldl _ _ (places.take i ++ [p]) = _
      rw [List.foldl_append]
      rfl
    refine eb_set 4 scApt.nd (ed_ixT (n := p) (ed_fld (ed_v 0) wc.cl wc.n3 (d := .tup ((List.range n).map (nrow ts))) rfl) (ed_v 3) hrow) ?_
    refine eb_set 2 scApt.nd (d := .lst ((aptStep ts (aptF ts (places.take i)) p).map dR)) (ed_is (ed_catL (ed_v 2) (ed_lc1 (xs := aptF ts (places.take i)) dR 5 (p := freeOf ts p) (f := fun row => dR (row ++ [p])) rfl scApt.nd (ei_list (ed_v 2)) (blkOk_by (N := nApt) (sc := defScope sApt) (by decide +kernel)) (line_of (by omega))
      (fun row hr1 s1 H1 C1 cl1 fp1 => ets_one (et_is (et_not (et_val (ed_any (row.map fun o => decide (o ∈ nbS ts p)) rfl g.any (ed_lc1 (xs := row) nI 6 (p := fun _ => true) (f := fun o => .bl (decide (o ∈ nbS ts p))) rfl scApt.nd (ei_tup (ed_v 5)) ?_ ?_
        (fun _ _ _ _ _ _ _ => ets_nil) fun o _ _ _ _ _ _ _ => ed_is (ed_din (k := kN o) (hu_of hr) (ed_v 6) (ed_v 4)) ?_) ?_))) ?_))
      fun row hr1 _ _ _ _ _ _ => ed_is (ed_tup (es_star (ed_v 5) (es_cons (ed_v 3) es_nil)) ?_) ?_) ?_) ?_) ?_
    · exact blkOk_by (N := nApt) (sc := relS ⟨.function, [(".0", .local), ("row", .local), ("any", .globalImplicit), ("near", .free), ("place", .free)], false, false, []⟩ (defScope sApt)) (by decide +kernel)
    · have := (aptF_sub ts _ row hr1).length_le
      rw [List.length_take] at this
      exact line_of (by omega)
    · exact congrArg D.bl (dcD_nat _ _)
    · rw [fil1, List.map_map]; rfl
    · rw [List.any_map]; rfl
    · have := (aptF_sub ts _ row hr1).length_le
      rw [List.length_take] at this
      exact line_of (by simp; omega)
    · show D.tup _ = D.tup _
      rw [List.map_append]; rfl
    · have := List.length_filter_le (freeOf ts p) (aptF ts (places.take i))
      exact Evl.sz_of (by simp; omega)
    · unfold aptStep
      rw [List.map_append, List.map_map]
      rfl
    · exact eb_nil fun Hb H w => ⟨⟨_, _, by rw [htk]; rfl⟩, w⟩
  · refine eb_pr fun ⟨o3, o4, e⟩ => ?_
    subst e
    refine eb_ret (ed_v 2) fun Hb H x => ⟨?_, x⟩
    rw [List.take_length]
end
end Fa
set_option maxHeartbeats 4000000
/-! Fa4: what is asked of arguments; the search. -/
namespace Fa
open PySem PySem.Spec PyProof.Rows L2 Sm Tx

/-- isinstance of a web -/
structure IsiC (K : PySem.W.Frag) (C : Addr) : Prop where
  ha : PySem.W.findIn K (.ref C) "__class__" = some (some (.builtin "object.__class__"))
  hn : PySem.W.specialIn K (.builtin "object.__class__") "__get__" = some (some (.builtin "getset_descriptor.__get__"))
  htk : PySem.W.takesIn K (.builtin "object.__class__") = some true
  hm : PySem.W.mroIn K C (.type "object") = some true
  ki : PySem.W.kitOne K (.ref C) (.ref C) = some true
section
variable {P : Program} {w : World} {K : PySem.W.Frag} {mg : Str → Option Value} {base : Heap} {f CW : Addr} {fd : FuncData}
/-! ### require_web, require_exact, require_asked -/
theorem scRw : FnScope ["value"] ["value"] (defScope sRw) := ⟨rfl, rfl, rfl, by decide +kernel, rfl, by decide +kernel, by decide +kernel⟩
def phRw (CW : Addr) (ds : List D) (d : D) : Prop := ∃ (n : Nat) (ts : List (Nat × Nat)), ds = [dW CW n ts] ∧ d = .non
theorem fnRw (F : Fun K "require_web" "require_web" sRw f fd) (g : Gn mg) (wc : WebC K CW) (ic : IsiC K CW) (mW : mg "Web" = some (.ref CW)) : FnOk P w K mg base CX0 1 f fd ["value"] (spP K (phRw CW)) := by
  refine fn_pure F scRw (fun ds d ⟨n, ts, e, _⟩ => by rw [e]; rfl) fun cdv A outer s H E hr ds d h Hb0 H0 => ?_
  obtain ⟨n, ts, rfl, rfl⟩ := h
  exact eb_ifF (et_is (et_not (et_val (ed_isi g.isi (ed_v 0) (ed_own mW) (ty_obj wc.cl ic.ha ic.hn ic.htk ic.hm) (.own _) ic.ki))) rfl) (eb_nil fun Hb H x => ⟨rfl, x⟩)
theorem scRe : FnScope ["web", "most"] ["web", "most"] (defScope sRe) := ⟨rfl, rfl, rfl, by decide +kernel, rfl, by decide +kernel, by decide +kernel⟩
def phRe (CW : Addr) (ds : List D) (d : D) : Prop := ∃ (n m : Nat) (ts : List (Nat × Nat)), n ≤ m ∧ ds = [dW CW n ts, nI m] ∧ d = .non
theorem fnRe (F : Fun K "require_exact" "require_exact" sRe f fd) (wc : WebC K CW) : FnOk P w K mg base CX0 1 f fd ["web", "most"] (spP K (phRe CW)) := by
  refine fn_pure F scRe (fun ds d ⟨n, m, ts, _, e, _⟩ => by rw [e]; rfl) fun cdv A outer s H E hr ds d h Hb0 H0 => ?_
  obtain ⟨n, m, ts, hnm, rfl, rfl⟩ := h
  exact eb_ifF (et_is (et_gt (ed_fld (ed_v 0) wc.cl wc.n1 (d := nI n) rfl) (ed_v 1)) (decide_eq_false (by omega))) (eb_nil fun Hb H x => ⟨rfl, x⟩)
theorem scRa : FnScope ["web", "hues"] ["web", "hues"] (defScope sRa) := ⟨rfl, rfl, rfl, by decide +kernel, rfl, by decide +kernel, by decide +kernel⟩
def phRa (CW : Addr) (ds : List D) (d : D) : Prop := ∃ (n h : Nat) (ts : List (Nat × Nat)), 1 ≤ h ∧ h ≤ 20 ∧ ds = [dW CW n ts, nI h] ∧ d = .non
theorem fnRa (F : Fun K "require_asked" "require_asked" sRa f fd) (cW : Ca P w K mg base 1 "require_web" (phRw CW)) (cI : Ca P w K mg base 1 "is_integer" phInt) {tk : Tok} (mM : mg "MAX_HUES" = some (.int 20 tk)) : FnOk P w K mg base CX0 2 f fd ["web", "hues"] (spP K (phRa CW)) := by
  refine fn_pure F scRa (fun ds d ⟨n, h, ts, _, _, e, _⟩ => by rw [e]; rfl) fun cdv A outer s H E hr ds d h Hb0 H0 => ?_
  obtain ⟨n, h, ts, h1, h2, rfl, rfl⟩ := h
  refine eb_drop (ed_ca cW hr (es_cons (ed_v 0) es_nil) ⟨n, ts, rfl, rfl⟩) (eb_ifF (et_is (et_not (et_val (ed_ca cI hr (es_cons (ed_v 1) (es_cons ed_int (es_cons (ed_const mM) es_nil))) ⟨h, 1, 20, rfl, rfl⟩))) ?_) (eb_nil fun Hb H x => ⟨rfl, x⟩))
  rw [decide_eq_true (show (1 : Int) ≤ (h : Int) by omega), decide_eq_true (show (h : Int) ≤ 20 by omega)]; rfl
/-! ### Search -/
theorem scSi : FnScope ["self", "web", "hues"] ["self", "web", "hues"] (defScope sSi) := ⟨rfl, rfl, rfl, by decide +kernel, rfl, by decide +kernel, by decide +kernel⟩
/-- a search's attributes -/
def srF (CW n : Nat) (ts : List (Nat × Nat)) (h : Nat) (a : Addr) : List (Str × D) := [("own_web", dW CW n ts), ("own_hues", nI h), ("own_dead", .dct []), ("own_counts", .adr a)]
structure SrC (K : PySem.W.Frag) (C : Addr) : Prop where
  cl : Cls K C
  n1 : NoAttr K C "own_web"
  n2 : NoAttr K C "own_hues"
  n3 : NoAttr K C "own_dead"
  n4 : NoAttr K C "own_counts"
def phSi (CW : Addr) (ds : List D) (fs : Addr → List (Str × D)) : Prop := ∃ (n h : Nat) (ts : List (Nat × Nat)), ds = [dW CW n ts, nI h] ∧ fs = srF CW n ts h
theorem fnSi {C : Addr} (F : Fun K "__init__" "Search.__init__" sSi f fd) (sc : SrC K C) : FnOk P w K mg base CX0 1 f fd ["self", "web", "hues"] (spIN P w K C (phSi CW)) := by
  refine fn_initN F scSi (fun ds fs ⟨n, h, ts, e, _⟩ => by rw [e]; rfl) fun cdv A outer s H E hr ds fs h Hb0 H0 a => ?_
  obtain ⟨n, h, ts, rfl, rfl⟩ := h
  refine eb_fld (ed_v 1) (ed_v 0) sc.cl sc.n1 (by decide) ?_
  refine eb_fld (ed_v 2) (ed_v 0) sc.cl sc.n2 (Nat.lt_of_le_of_lt (pl pl0) (by decide)) ?_
  refine eb_fld ed_dict0 (ed_v 0) sc.cl sc.n3 (Nat.lt_of_le_of_lt (pl (pl pl0)) (by decide)) ?_
  refine eb_fldN (ed_v 0) sc.cl sc.n4 (Nat.lt_of_le_of_lt (pl (pl (pl pl0))) (by decide)) fun d => ?_
  exact eb_nil fun Hb H x => ⟨d, x⟩
/-! ### choices -/
/-- a set of places and what is left -/
abbrev dPR (q : List Nat × Nat) : D := .tup [dR q.1, nI q.2]
/-- what choices gives, of an object with these attributes -/
def phCh (C : Addr) (fs : List (Str × D)) (n : Nat) (ch : List Nat → Nat → List (List Nat × Nat)) (ds : List D) (d : D) : Prop := ∃ (hue more : Nat) (left : List Nat), left.Sublist (List.range n) ∧ ds = [.obj C fs, nI hue, dR left, nI more] ∧ d = .lst ((ch left more).map dPR)
def chS (ts : List (Nat × Nat)) (left : List Nat) (more : Nat) : List (List Nat × Nat) := (aptF ts left).map fun p => (p, more)
theorem sub_lt {n : Nat} {l : List Nat} (h : l.Sublist (List.range n)) : ∀ p ∈ l, p < n := fun p hp => List.mem_range.mp (h.subset hp)
theorem sub_len {n : Nat} {l : List Nat} (h : l.Sublist (List.range n)) : l.length ≤ n := by have := h.length_le; rwa [List.length_range] at this
abbrev nSc : List Str := ["self", "hue", "left", "more", "places"]
theorem scSc : FnScope nSc ["self", "hue", "left", "more"] (defScope sSc) := ⟨rfl, rfl, rfl, by decide +kernel, rfl, by decide +kernel, by decide +kernel⟩
theorem fnSc {C : Addr} {n h : Nat} {ts : List (Nat × Nat)} {a : Addr} (F : Fun K "choices" "Search.choices" sSc f fd) (sc : SrC K C) (cA : Ca P w K mg base 1 "apart_sets" (phApt CW)) (ok : WebOk n ts) (h9 : n ≤ 9) :
    FnOk P w K mg base CX0 2 f fd ["self", "hue", "left", "more"] (spP K (phCh C (srF CW n ts h a) n (chS ts))) := by
  refine fn_pure F scSc (fun ds d ⟨_, _, _, _, e, _⟩ => by rw [e]; rfl) fun cdv A outer s H E hr ds d h Hb0 H0 => ?_
  obtain ⟨hue, more, left, hs, rfl, rfl⟩ := h
  have hl := sub_len hs
  refine eb_ret (ed_is (ed_lc1 (xs := aptF ts left) dR 4 (p := fun _ => true) (f := fun p => dPR (p, more)) rfl scSc.nd (ei_list (ed_ca cA hr (es_cons (ed_fld (ed_v 0) sc.cl sc.n1 (d := dW CW n ts) rfl) (es_cons (ed_v 2) es_nil)) ⟨n, ts, left, ok, sub_lt hs, by omega, rfl, rfl⟩))
    (blkOk_by (N := nSc) (sc := defScope sSc) (by decide +kernel)) ?_ (fun _ _ _ _ _ _ _ => ets_nil) fun p _ _ _ _ _ _ _ => ed_tup (es_cons (ed_v 4) (es_cons (ed_v 3) es_nil)) (line_of (by simp))) ?_) fun Hb H x => ⟨rfl, x⟩
  · exact Evl.sz_of (Nat.le_trans (aptF_length ts left) (Nat.le_trans (Nat.pow_le_pow_right (by decide) (show left.length ≤ 9 by omega)) (by decide)))
  · rw [fil1]; unfold chS; rw [List.map_map]; rfl
/-! ### count -/
/-- the number of ways, r hues still to be laid -/
def cntF (ch : List Nat → Nat → List (List Nat × Nat)) : Nat → List Nat → Nat → Nat
  | 0, left, _ => if left = [] then 1 else 0
  | r + 1, left, more => ((ch left more).map fun q => cntF ch r (lessF left q.1) q.2).sum
def keyC (hue : Nat) (left : List Nat) (more : Nat) : NestedKey := .tup [.num (hue : Int), .tup (left.map fun p : Nat => .num (p : Int)), .num (more : Int)]
theorem keyNs_nat : ∀ l : List Nat, keyNs (l.map fun p : Nat => .num (p : Int)) = l.map nI
  | [] => rfl
  | p :: l => by
    rw [List.map_cons, List.map_cons]
    unfold keyNs
    rw [keyNs_nat l]
    rfl
theorem keyN_C (hue : Nat) (left : List Nat) (more : Nat) : keyN (keyC hue left more) = .tup [nI hue, dR left, nI more] := by
  unfold keyC keyN
  unfold keyNs
  unfold keyNs
  unfold keyNs
  unfold keyNs
  show D.tup [nI hue, keyN (.tup _), nI more] = _
  unfold keyN
  rw [keyNs_nat]
theorem dep_nums : ∀ l : List Nat, NestedKey.depthAll (l.map fun p : Nat => NestedKey.num (p : Int)) = 0
  | [] => rfl
  | p :: l => by rw [List.map_cons, NestedKey.depthAll, dep_nums l]; rfl
theorem keyC_dep (hue : Nat) (left : List Nat) (more : Nat) : (keyC hue left more).depth ≤ 8 := by
  unfold keyC
  simp only [NestedKey.depth, NestedKey.depthAll, dep_nums]
  decide
theorem num_inj : ∀ {l m : List Nat}, (l.map fun p : Nat => NestedKey.num (p : Int)) = (m.map fun p : Nat => NestedKey.num (p : Int)) → l = m
  | [], [], _ => rfl
  | [], _ :: _, h => by cases h
  | _ :: _, [], h => by cases h
  | a :: l, b :: m, h => by
    rw [List.map_cons, List.map_cons, List.cons.injEq, NestedKey.num.injEq] at h
    have : a = b := by omega
    rw [this, num_inj h.2]
theorem keyC_inj {hue hue' more more' : Nat} {left left' : List Nat} (h : keyC hue left more = keyC hue' left' more') : hue = hue' ∧ left = left' ∧ more = more' := by
  unfold keyC at h
  simp only [NestedKey.tup.injEq, List.cons.injEq, NestedKey.num.injEq, and_true] at h
  obtain ⟨h1, h2, h3⟩ := h
  exact ⟨by omega, num_inj h2, by omega⟩
/-- all is right in the table -/
def PsC (ch : List Nat → Nat → List (List Nat × Nat)) (n h : Nat) (xs : XN) : Prop := ∀ x ∈ xs, ∃ (hue more r : Nat) (left : List Nat), hue + r = h ∧ left.Sublist (List.range n) ∧ more ≤ 10 ∧ x.1 = keyC hue left more ∧ x.2.2 = .int (cntF ch r left more : Nat)
/-- every key that there may be -/
def univC (n h : Nat) : List NestedKey := (List.range (h + 1)).flatMap fun hue => (Ma.subs (List.range n)).flatMap fun left => (List.range 11).map fun more => keyC hue left more
theorem flat_len {α β : Type} {f : α → List β} {k : Nat} : ∀ {l : List α}, (∀ x ∈ l, (f x).length ≤ k) → (l.flatMap f).length ≤ l.length * k
  | [], _ => by simp
  | x :: l, h => by
    rw [List.flatMap_cons, List.length_append, List.length_cons, Nat.succ_mul]
    have h1 := h x List.mem_cons_self
    have h2 := flat_len (l := l) fun y hy => h y (List.mem_cons_of_mem _ hy)
    omega
theorem univC_len {n h : Nat} (hn : n ≤ 10) (hh : h ≤ 20) : (univC n h).length ≤ 300000 := by
  have h1 : (univC n h).length ≤ (List.range (h + 1)).length * (1024 * 11) := flat_len fun hue _ => by
    refine Nat.le_trans (flat_len (k := 11) fun left _ => by simp) ?_
    rw [Ma.subs_length, List.length_range]
    exact Nat.mul_le_mul_right _ (Nat.pow_le_pow_right (by decide) hn)
  rw [List.length_range] at h1
  omega
theorem PsC.small {ch : List Nat → Nat → List (List Nat × Nat)} {n h : Nat} {xs : XN} (p : PsC ch n h xs) (nd : (xs.map (·.1)).Nodup) (hn : n ≤ 10) (hh : h ≤ 20) : xs.length < sizeLine := by
  have h1 : (xs.map (·.1)).length ≤ (univC n h).length := Ma.nodup_len nd fun k hk => by
    obtain ⟨x, hx, rfl⟩ := List.mem_map.mp hk
    obtain ⟨hue, more, r, left, e1, e2, e3, e4, _⟩ := p x hx
    rw [e4]
    exact List.mem_flatMap.mpr ⟨hue, List.mem_range.mpr (by omega), List.mem_flatMap.mpr ⟨left, Ma.mem_subs e2, List.mem_map.mpr ⟨more, List.mem_range.mpr (by omega), rfl⟩⟩⟩
  rw [List.length_map] at h1
  have h2 := univC_len hn hh
  rw [sizeLine_eq]
  omega
/-- choices is fit for such sets -/
structure ChOk (ch : List Nat → Nat → List (List Nat × Nat)) (n : Nat) : Prop where
  few : ∀ left more, left.Sublist (List.range n) → (ch left more).length ≤ 1000
  sub : ∀ left more, left.Sublist (List.range n) → ∀ q ∈ ch left more, q.1.length ≤ 1000
  more : ∀ left more, left.Sublist (List.range n) → more ≤ 10 → ∀ q ∈ ch left more, q.2 ≤ 10
abbrev nCt : List Str := ["self", "hue", "left", "more", "key", "later", "places", "rest"]
theorem scCt : FnScope nCt ["self", "hue", "left", "more"] (defScope sCt) := ⟨rfl, rfl, rfl, by decide +kernel, rfl, by decide +kernel, by decide +kernel⟩
def phCt (P : Program) (w : World) (K : PySem.W.Frag) (C : Addr) (fs : Addr → List (Str × D)) (ch : List Nat → Nat → List (List Nat × Nat)) (n h r : Nat) (ds : List D) (a : Addr) (G : As) (R : D → Prop) : Prop :=
  ∃ (hue more : Nat) (left : List Nat), hue + r = h ∧ left.Sublist (List.range n) ∧ more ≤ 10 ∧ ds = [.obj C (fs a), nI hue, dR left, nI more] ∧ G = GN K P w a (PsC ch n h) ∧ R = (· = nI (cntF ch r left more))

theorem sum_cast : ∀ l : List Nat, ((l.sum : Nat) : Int) = (l.map fun k : Nat => (k : Int)).sum
  | [] => rfl
  | a :: l => by rw [List.sum_cons, List.map_cons, List.sum_cons, ← sum_cast l]; omega
theorem putN_has {xs : XN} {k : NestedKey} {b : Addr} {v : V} : (valN (putN xs k b v) k).isSome = true := by
  cases q : valN (putN xs k b v) k with
  | some _ => rfl
  | none =>
    refine absurd ?_ (valN_none.mp q)
    rw [putN_keys]
    split
    · rename_i h
      refine Classical.byContradiction fun z => ?_
      rw [valN_none.mpr z] at h
      cases h
    · simp
/-- what the attributes of a search must hold -/
structure SrL (C : Addr) (fs : Addr → List (Str × D)) (h : Nat) : Prop where
  hu : ∀ a, (fs a).lookup ("own_hues" : Str) = some (nI h)
  ct : ∀ a, (fs a).lookup ("own_counts" : Str) = some (.adr a)
  m1 : ∀ a, (fs a).lookup ("count" : Str) = none
  m2 : ∀ a, (fs a).lookup ("choices" : Str) = none
theorem fnCt {C gC : Addr} {gd : FuncData} {fs : Addr → List (Str × D)} {ch : List Nat → Nat → List (List Nat × Nat)} {n h : Nat} (F : Fun K "count" "Search.count" sCt f fd) (g : Gn mg) (sc : SrC K C) (L : SrL C fs h) (hn : n ≤ 10) (hh : h ≤ 20) (ok : ChOk ch n)
    (mC : Meth K C "choices" gC) (G : ∀ a, FnOk P w K mg base CX0 2 gC gd ["self", "hue", "left", "more"] (spP K (phCh C (fs a) n ch))) (bC : Binds K gd ["self", "hue", "left", "more"] []) (cL : Ca P w K mg base 1 "less" phLess)
    (mS : Meth K C "count" f) (bS : Binds K fd ["self", "hue", "left", "more"] []) :
    ∀ r, FnOk P w K mg base CX0 (3 + r + 1) f fd ["self", "hue", "left", "more"] (spC K (phCt P w K C fs ch n h r))
  | 0 => by
    refine fn_C F scCt (fun ds a G R ⟨_, _, _, _, _, _, e, _⟩ => by rw [e]; rfl) fun cdv A outer s H E hr ds a G R hφ Hb0 H0 => ?_
    obtain ⟨hue, more, left, e1, hs, hm, rfl, rfl, rfl⟩ := hφ
    refine eb_ifR (et_is (et_eq (ed_v 1) (ed_fld (ed_v 0) sc.cl sc.n2 (d := nI h) (L.hu a))) (decide_eq_true (by omega))) ?_
    refine eb_ret (ed_intB g.int (Eqd.nat.tup.ed_eq hr.units (by decide) left [] (ed_v 2) (ed_tup es_nil (line_of (by simp))))) fun Hb H w => ⟨?_, w⟩
    show D.int _ = D.int _
    unfold cntF
    by_cases q : left = []
    · simp [q]
    · simp [q]
  | r + 1 => by
    have ih := fnCt F g sc L hn hh ok mC G bC cL mS bS r
    refine fn_C F scCt (fun ds a G R ⟨_, _, _, _, _, _, e, _⟩ => by rw [e]; rfl) fun cdv A outer s H E hr ds a GG R hφ Hb0 H0 => ?_
    obtain ⟨hue, more, left, e1, hs, hm, rfl, rfl, rfl⟩ := hφ
    have hu16 : (cxOf CX0 P w K mg base nCt "Search.count" (defScope sCt) f cdv A outer s H E).nox.A.units + 16 < cLine := by have := hr.units; exact Nat.lt_of_le_of_lt (Nat.add_le_add_left (by decide : 16 ≤ 64) _) this
    have hl := sub_len hs
    refine eb_ifF (et_is (et_eq (ed_v 1) (ed_fld (ed_v 0) sc.cl sc.n2 (d := nI h) (L.hu a))) (decide_eq_false (by omega))) ?_
    refine eb_set 4 scCt.nd (ed_tup (es_cons (ed_v 1) (es_cons (ed_v 2) (es_cons (ed_v 3) es_nil))) (line_of (by simp))) ?_
    refine eb_ifNin (Ψ' := fun xs => PsC ch n h xs ∧ (valN xs (keyC hue left more)).isSome = true) (ks := [.num (hue : Int), .tup (left.map fun p : Nat => .num (p : Int)), .num (more : Int)]) hu16 (ed_is (ed_v 4) (keyN_C hue left more).symm) (ed_fld (ed_v 0) sc.cl sc.n4 (L.ct a)) (keyC_dep hue left more) ?_ (fun xs p q => ⟨p, q⟩) ?_
    · refine EB.pre (W := FrC (GN K P w a (PsC ch n h)) a (Xt Hb0 H0)) ?_ fun Hb H ⟨n1, n2, ⟨xs, g1, g2, g3, g4⟩, wr⟩ => ⟨n1, n2, ⟨xs, g1, g2, g3, g4.1⟩, wr⟩
      refine eb_setLc (xs := ch left more) dPR 5 (p := fun _ => true) (f := fun q => dPR (lessF left q.1, q.2)) (own := [("places", 6), ("rest", 7)]) (g := gTup _ 2 (gCons (gName 6) (gCons (gName 7) gNil))) (τ := fun q => ((wipeD _ [6, 7]).set 6 (some (dR q.1))).set 7 (some (nI q.2))) rfl scCt.nd
        (ei_list (ed_meth (dd := []) (ed_v 0) sc.cl mC (G a) (hr.mono (by omega)) bC .nil (fun _ => isL_nil.mpr rfl) (L.m2 a) (es_cons (ed_v 1) (es_cons (ed_v 2) (es_cons (ed_v 3) es_nil))) ⟨hue, more, left, hs, rfl, rfl⟩))
        (blkOk_by (N := nCt) (sc := defScope sCt) (by decide +kernel)) (line_of (ok.few left more hs)) (pg_own2 rfl scCt.nd rfl rfl (fun _ _ _ _ _ => ⟨Or.inl rfl, Or.inr rfl⟩) (fun _ _ _ _ _ => ⟨Or.inl rfl, Or.inr rfl⟩) (fun _ _ _ _ _ => rfl) (fun _ _ _ _ _ => rfl)) (fun q _ => tg_pair (by simp) (by simp)) (fun _ _ _ _ _ _ _ => ets_nil)
        (fun q hq _ _ _ _ _ _ => ed_tup (es_cons (ed_ca cL (hr.mono (by omega)) (es_cons (ed_v 2) (es_cons (ed_v 6) es_nil)) ⟨left, q.1, by omega, ok.sub left more hs q hq, rfl, rfl⟩) (es_cons (ed_v 7) es_nil)) (line_of (by simp))) ?_
      rw [fil1]
      refine eb_nput (P := (· = .int (cntF ch (r + 1) left more : Nat))) (ks := [.num (hue : Int), .tup (left.map fun p : Nat => .num (p : Int)), .num (more : Int)]) hu16 ?_ (fun d e => ⟨_, e⟩) (ed_fld (ed_v 0) sc.cl sc.n4 (L.ct a)) (ed_is (ed_v 4) (keyN_C hue left more).symm) (keyC_dep hue left more) (fun xs b i p nd e => ⟨p.small nd hn hh, ?_, ?_⟩) (eb_nil fun Hb H w => ⟨Kn.set rfl, w⟩)
      · have e4 : D.int (cntF ch (r + 1) left more : Nat) = D.int ((ch left more).map fun q => ((cntF ch r (lessF left q.1) q.2 : Nat) : Int)).sum := by
          congr 1
          rw [cntF, sum_cast, List.map_map]
          rfl
        rw [e4]
        refine ew_sum ((ch left more).map fun q => ((cntF ch r (lessF left q.1) q.2 : Nat) : Int)) rfl g.sum (ew_lc (xs := (ch left more).map fun q => (lessF left q.1, q.2)) dPR (T := fun q o => q ∈ (ch left more).map (fun q => (lessF left q.1, q.2)) → o = some (nI (cntF ch r q.1 q.2))) (own := [("places", 6), ("rest", 7)]) (g := gTup _ 2 (gCons (gName 6) (gCons (gName 7) gNil)))
          (τ := fun q => ((wipeD _ [6, 7]).set 6 (some (dR q.1))).set 7 (some (nI q.2))) rfl scCt.nd (ei_is (ei_list (ed_v 5)) (by rw [List.map_map]; rfl)) (blkOk_by (N := nCt) (sc := defScope sCt) (by decide +kernel)) (line_of (by rw [List.length_map]; exact ok.few left more hs))
          (pg_own2 rfl scCt.nd rfl rfl (fun _ _ _ _ _ => ⟨Or.inl rfl, Or.inr rfl⟩) (fun _ _ _ _ _ => ⟨Or.inl rfl, Or.inr rfl⟩) (fun _ _ _ _ _ => rfl) (fun _ _ _ _ _ => rfl)) (fun q _ => tg_pair (by simp) (by simp)) (fun _ b => b = true) (fun q d => d = nI (cntF ch r q.1 q.2)) (fun q _ e => nomatch e) (fun q _ d _ e _ => by rw [e])
          (fun q _ l es _ _ _ _ _ => tws_nil) fun q hq _ l es _ _ _ _ _ => ?_) fun d ⟨es, e5, tr⟩ => ?_
        · obtain ⟨q0, hq0, e6⟩ := List.mem_map.mp hq
          have e7 : q.1 = lessF left q0.1 := by rw [← e6]
          have e8 : q.2 = q0.2 := by rw [← e6]
          show EW _ (Fram K (FrC (GN K P w a (PsC ch n h)) a (Xt Hb0 H0)) l es) _ _ _
          refine ew_meth (a := a) (G := GN K P w a (PsC ch n h)) (ed_v 0) sc.cl mS ih hr bS (L.m1 a) (es_cons (ed_add (ed_v 1) ed_int) (es_cons (ed_v 6) (es_cons (ed_v 7) es_nil))) ⟨hue + 1, q.2, q.1, by omega, ?_, ?_, ?_, rfl, rfl⟩
          · rw [e7]; exact List.filter_sublist.trans hs
          · rw [e8]; exact ok.more left more hs hm q0 hq0
          · show [_, D.int _, _, _] = [_, D.int _, _, _]
            rw [show (((hue + 1 : Nat)) : Int) = (hue : Int) + 1 by omega]
        · rw [e5, tr.det (p := fun _ => true) (f := fun q => nI (cntF ch r q.1 q.2)) fun q hq o t => by rw [if_pos rfl]; exact t hq, fil1, List.map_map, List.map_map]
          rfl
      · intro x hx
        rcases putN_mem x hx with z | ⟨z1, z2, _⟩
        · exact p x z
        · cases e
          exact ⟨hue, more, r + 1, left, e1, hs, hm, z1, z2⟩
      · exact putN_has
    · refine eb_retW (P := (· = nI (cntF ch (r + 1) left more))) (ew_nget (Ψ := fun xs => PsC ch n h xs ∧ (valN xs (keyC hue left more)).isSome = true) (ks := [.num (hue : Int), .tup (left.map fun p : Nat => .num (p : Int)), .num (more : Int)]) hu16 (ed_fld (ed_v 0) sc.cl sc.n4 (L.ct a)) (ed_is (ed_v 4) (keyN_C hue left more).symm) (keyC_dep hue left more) fun xs pq => ?_) fun d Hb H e ww => ?_
      · obtain ⟨p, q⟩ := pq
        obtain ⟨v, hv⟩ := Option.isSome_iff_exists.mp q
        obtain ⟨b, hb⟩ := valN_mem hv
        obtain ⟨hue', more', r', left', f1, f2, f3, f4, f5⟩ := p _ hb
        obtain ⟨rfl, rfl, rfl⟩ := keyC_inj f4
        obtain rfl : r' = r + 1 := by omega
        exact ⟨_, by rw [← f5]; exact hv, rfl⟩
      · obtain ⟨n1, n2, ⟨xs, g1, g2, g3, g4⟩, wr⟩ := ww
        exact ⟨e, n1, n2, ⟨xs, g1, g2, g3, g4.1⟩, wr⟩
end
end Fa
set_option maxHeartbeats 4000000
/-! Fa5: the count of all, of the level ones. -/
namespace Fa
open PySem PySem.Spec PyProof.Rows L2 Sm Tx

section
variable {P : Program} {w : World} {K : PySem.W.Frag} {mg : Str → Option Value} {base : Heap} {f CW : Addr} {fd : FuncData}
/-! ### LevelSearch.__init__ -/
abbrev nVi : List Str := ["self", "web", "hues", "given"]
theorem scVi : SScope nVi nVi (defScope sVi) := ⟨rfl, rfl, rfl, by decide +kernel, rfl, by decide +kernel, by decide +kernel, fun y h => by
  have hm : (y, NameKind.free) ∈ (defScope sVi).names := PySem.mem_of_lookup h
  have hall : ∀ z ∈ (defScope sVi).names, z.2 = .free → z.1 = "__class__" := by decide +kernel
  exact hall _ hm rfl, rfl, rfl⟩
def lvF (CW n : Nat) (ts : List (Nat × Nat)) (h : Nat) (a : Addr) : List (Str × D) := [("own_web", dW CW n ts), ("own_hues", nI h), ("own_dead", .dct []), ("own_counts", .adr a), ("own_least", nI (n / h)), ("own_given", .dct []), ("own_free", nI (n % h))]
structure LvC (K : PySem.W.Frag) (C : Addr) : Prop where
  sr : SrC K C
  n5 : NoAttr K C "own_least"
  n6 : NoAttr K C "own_given"
  n7 : NoAttr K C "own_free"
def phVi (CW : Addr) (ds : List D) (fs : Addr → List (Str × D)) : Prop := ∃ (n h : Nat) (ts : List (Nat × Nat)), 1 ≤ h ∧ h ≤ 20 ∧ ds = [dW CW n ts, nI h, .dct []] ∧ fs = lvF CW n ts h
theorem fnVi {C B g cc cda : Addr} {gd : FuncData} (F : FunS K "__init__" "LevelSearch.__init__" sVi f fd cc cda) (wc : WebC K CW) (lc : LvC K C) (U : SupF P K mg C B "__init__" g cc cda)
    (G : FnOk P w K mg base CX0 1 g gd ["self", "web", "hues"] (spIN P w K C (phSi CW))) (bG : Binds K gd ["self", "web", "hues"] []) : FnOk P w K mg base CX0 2 f fd nVi (spIN P w K C (phVi CW)) := by
  refine fn_initS (ψ := phSi CW) F rfl scVi U rfl rfl rfl (fun ds fs ⟨_, _, _, _, _, e, _⟩ => by rw [e]; rfl) G bG (fun _ => rfl) (fun _ => rfl) (fun _ => rfl) _ (fun _ => rfl) (fun A outer s H hr ds fs hφ => ?_)
  obtain ⟨n, h, ts, h1, h20, rfl, rfl⟩ := hφ
  refine ⟨[dW CW n ts, nI h], srF CW n ts h, ⟨n, h, ts, rfl, rfl⟩, fun a => ⟨es_cons (ed_v 1) (es_cons (ed_v 2) es_nil), fun Hb0 H0 d => ?_⟩⟩
  have hp : (0 : Int) < (h : Int) := by omega
  refine eb_fld (ed_fdiv (ed_fld (ed_v 1) wc.cl wc.n1 (d := nI n) rfl) (ed_v 2) ?_) (ed_v 0) lc.sr.cl lc.n5 (show 4 < 1000 by decide) ?_
  · exact ⟨hp, by omega⟩
  refine eb_fld (ed_v 3) (ed_v 0) lc.sr.cl lc.n6 (show 5 < 1000 by decide) ?_
  refine eb_fld (ed_mod (ed_fld (ed_v 1) wc.cl wc.n1 (d := nI n) rfl) (ed_v 2) hp) (ed_v 0) lc.sr.cl lc.n7 (show 6 < 1000 by decide) ?_
  exact eb_nil fun Hb H w => w
/-! ### fits -/
abbrev nFi : List Str := ["self", "hue", "left", "places", "wanted", "place"]
theorem scFi : FnScope nFi ["self", "hue", "left", "places"] (defScope sFi) := ⟨rfl, rfl, rfl, by decide +kernel, rfl, by decide +kernel, by decide +kernel⟩
def phFi (C : Addr) (fs : List (Str × D)) (ds : List D) (d : D) : Prop := ∃ (hue : Nat) (left places : List Nat), left.length ≤ 1000 ∧ places.length ≤ 1000 ∧ ds = [.obj C fs, nI hue, dR left, dR places] ∧ d = .bl true
theorem fnFi {C : Addr} {fs : List (Str × D)} (F : Fun K "fits" "LevelSearch.fits" sFi f fd) (g : Gn mg) (lc : LvC K C) (hg : fs.lookup ("own_given" : Str) = some (.dct [])) :
    FnOk P w K mg base CX0 1 f fd ["self", "hue", "left", "places"] (spP K (phFi C fs)) := by
  refine fn_pure F scFi (fun ds d ⟨_, _, _, _, _, e, _⟩ => by rw [e]; rfl) fun cdv A outer s H E hr ds d h Hb0 H0 => ?_
  obtain ⟨hue, left, places, h1, h2, rfl, rfl⟩ := h
  refine eb_setLc (xs := left) nI 4 (p := fun _ => false) (f := nI) (own := [("place", 5)]) (g := gName 5) (τ := fun p => (wipeD _ [5]).set 5 (some (nI p))) rfl scFi.nd (ei_tup (ed_v 2)) (blkOk_by (N := nFi) (sc := defScope sFi) (by decide +kernel)) (line_of h1)
    (pg_own scFi.nd rfl (fun _ _ _ _ _ => ⟨Or.inl rfl, Or.inr rfl⟩)) (fun p _ => tg_name (by simp))
    (fun p _ _ _ _ _ _ => ets_one (et_is (Eqd.opt.et_eq hr.units (by decide) none (some (hue : Int)) (ed_dget2 (k := kN p) (hu_of hr) (ed_fld (ed_v 0) lc.sr.cl lc.n6 (d := .dct []) hg) (ed_v 5) ed_non ⟨rfl, rfl, rfl, rfl⟩ rfl) (ed_v 1)) rfl)) (fun p _ e => nomatch e) ?_
  rw [show (left.filter fun _ => false) = [] from List.filter_eq_nil_iff.mpr fun _ _ => Bool.false_ne_true]
  refine eb_ifF (et_is (et_not (et_val (ed_all [] rfl g.all (ed_lc1 (xs := ([] : List Nat)) nI 5 (p := fun _ => true) (f := fun _ => .bl true) rfl scFi.nd (ei_list (ed_v 4)) (blkOk_by (N := nFi) (sc := defScope sFi) (by decide +kernel)) (line_of (by simp)) (fun _ h => nomatch h) (fun _ h => nomatch h)) rfl))) rfl) ?_
  refine eb_ret (ed_is (ed_all (places.map fun _ => true) rfl g.all (ed_lc1 (xs := places) nI 5 (p := fun _ => true) (f := fun _ => .bl true) rfl scFi.nd (ei_tup (ed_v 3)) (blkOk_by (N := nFi) (sc := defScope sFi) (by decide +kernel)) (line_of h2) (fun _ _ _ _ _ _ _ => ets_nil)
    fun p _ _ _ _ _ _ _ => ed_is (Sm.ed_eq (ed_dget2 (k := kN p) (hu_of hr) (ed_fld (ed_v 0) lc.sr.cl lc.n6 (d := .dct []) hg) (ed_v 5) (ed_v 1) ⟨rfl, rfl, rfl, rfl⟩ rfl) (ed_v 1)) (by rw [decide_eq_true rfl])) ?_) ?_) fun Hb H x => ⟨rfl, x⟩
  · rw [fil1, List.map_map]; rfl
  · congr 1
    rw [List.all_map]
    exact List.all_eq_true.mpr fun _ _ => rfl
/-! ### LevelSearch.choices -/
def lvP (n h more : Nat) (p : List Nat) : Option (List Nat × Nat) := if n / h ≤ p.length ∧ p.length ≤ n / h + 1 ∧ p.length ≤ more + n / h then some (p, more + n / h - p.length) else none
def chL (ts : List (Nat × Nat)) (n h : Nat) (left : List Nat) (more : Nat) : List (List Nat × Nat) := (aptF ts left).filterMap (lvP n h more)
abbrev nLc : List Str := ["self", "hue", "left", "more", "found", "places", "rest"]
theorem scLc : FnScope nLc ["self", "hue", "left", "more"] (defScope sLc) := ⟨rfl, rfl, rfl, by decide +kernel, rfl, by decide +kernel, by decide +kernel⟩
theorem rd_leI {i j : Int} : R2D K (rI0 fun i j => .bl (decide (i ≤ j))) (.int i) (.int j) (.bl (decide (i ≤ j))) := rd_I0 fun _ => is_bl.mpr rfl
theorem fnLc {C gF : Addr} {gd : FuncData} {n h : Nat} {ts : List (Nat × Nat)} {a : Addr} (F : Fun K "choices" "LevelSearch.choices" sLc f fd) (g : Gn mg) (lc : LvC K C) (cA : Ca P w K mg base 1 "apart_sets" (phApt CW)) (ok : WebOk n ts) (h9 : n ≤ 9)
    (mF : Meth K C "fits" gF) (G : FnOk P w K mg base CX0 1 gF gd ["self", "hue", "left", "places"] (spP K (phFi C (lvF CW n ts h a)))) (bF : Binds K gd ["self", "hue", "left", "places"] []) :
    FnOk P w K mg base CX0 2 f fd ["self", "hue", "left", "more"] (spP K (phCh C (lvF CW n ts h a) n (chL ts n h))) := by
  refine fn_pure F scLc (fun ds d ⟨_, _, _, _, e, _⟩ => by rw [e]; rfl) fun cdv A outer s H E hr ds d hφ Hb0 H0 => ?_
  obtain ⟨hue, more, left, hs, rfl, rfl⟩ := hφ
  have hl := sub_len hs
  have hzA : (aptF ts left).length ≤ 512 := Nat.le_trans (aptF_length ts left) (Nat.le_trans (Nat.pow_le_pow_right (by decide) (show left.length ≤ 9 by omega)) (by decide))
  refine eb_newL 4 scLc.nd es_nil (line_of (by simp)) fun l => ?_
  refine eb_forN (xs := aptF ts left) dR 5 (fun i ρ' => Pr (∃ o5 o6, ρ' = [some (.obj C (lvF CW n ts h a)), some (nI hue), some (dR left), some (nI more), some (.adr l), o5, o6]) (Fram K (Xt Hb0 H0) l ((((aptF ts left).take i).filterMap (lvP n h more)).map dPR)))
    (passOwn rfl) rfl (ei_list (ed_ca cA hr (es_cons (ed_fld (ed_v 0) lc.sr.cl lc.sr.n1 (d := dW CW n ts) rfl) (es_cons (ed_v 2) es_nil)) ⟨n, ts, left, ok, sub_lt hs, by omega, rfl, rfl⟩)) (pg_name (i := 5) scLc.nd rfl (Or.inl rfl)) (fun Hb H x => ⟨⟨none, none, rfl⟩, x⟩) (fun i p hip ρ' => ?_) fun ρ' => ?_
  · refine eb_pr fun ⟨o5, o6, e⟩ => ?_
    subst e
    have hpm : p ∈ aptF ts left := List.mem_of_getElem? hip
    have hpl : p.length ≤ left.length := (aptF_sub ts left p hpm).length_le
    have htk : (aptF ts left).take (i + 1) = (aptF ts left).take i ++ [p] := by rw [List.take_add_one, hip]; rfl
    refine eb_set 6 scLc.nd (d := .int ((more : Int) - ((p.length : Int) - ((n / h : Nat) : Int)))) (ed_is (ed_sub (ed_v 3) (ed_sub (ed_lenT g.len (ed_v 5)) (ed_fld (ed_v 0) lc.sr.cl lc.n5 (d := nI (n / h)) rfl))) (by rw [List.length_map])) ?_
    refine eb_if (b := (decide (((n / h : Nat) : Int) ≤ (p.length : Int)) && decide ((p.length : Int) ≤ ((n / h : Nat) : Int) + 1)) && (decide ((0 : Int) ≤ (more : Int) - ((p.length : Int) - ((n / h : Nat) : Int))) && true))
      (eo_et (eo_and (et_chain op_le op_le (ed_fld (ed_v 0) lc.sr.cl lc.n5 (d := nI (n / h)) rfl) (ed_is (ed_lenT g.len (ed_v 5)) (by rw [List.length_map])) (ed_add (ed_fld (ed_v 0) lc.sr.cl lc.n5 (d := nI (n / h)) rfl) ed_int) rd_leI rd_leI) fun _ => eo_and (et_ge (ed_v 6) ed_int) fun _ => eo_and1 (et_val
        (ed_meth (dd := []) (ed_v 0) lc.sr.cl mF G hr bF .nil (fun _ => isL_nil.mpr rfl) rfl (es_cons (ed_v 1) (es_cons (ed_v 2) (es_cons (ed_v 5) es_nil))) ⟨hue, left, p, by omega, by omega, rfl, rfl⟩)))) (fun hb => ?_) (fun hb => ?_) fun ρ' => eb_nil fun Hb H w => w
    · simp only [Bool.and_true, Bool.and_eq_true, decide_eq_true_eq] at hb
      have hpv : lvP n h more p = some (p, more + n / h - p.length) := if_pos ⟨by omega, by omega, by omega⟩
      refine eb_appW (ew_ed (ed_tup (es_cons (ed_v 5) (es_cons (ed_v 6) es_nil)) (line_of (by simp)))) ?_ (ed_v 4) fun d e => ?_
      · rw [List.length_map]
        refine Nat.lt_of_le_of_lt (List.length_filterMap_le _ _) (small1000 ?_)
        rw [List.length_take]
        omega
      · subst e
        refine eb_nil fun Hb H w => ⟨⟨_, _, rfl⟩, ?_⟩
        rw [htk, List.filterMap_append, List.map_append]
        have e2 : ([p].filterMap (lvP n h more)).map dPR = [.tup [dR p, .int ((more : Int) - ((p.length : Int) - ((n / h : Nat) : Int)))]] := by
          rw [List.filterMap_cons, hpv]
          show [dPR (p, more + n / h - p.length)] = _
          show [D.tup [dR p, .int ((more + n / h - p.length : Nat) : Int)]] = _
          rw [show ((more + n / h - p.length : Nat) : Int) = (more : Int) - ((p.length : Int) - ((n / h : Nat) : Int)) by omega]
        rw [e2]
        exact w
    · have hpv : lvP n h more p = none := if_neg fun ⟨q1, q2, q3⟩ => by
        rw [decide_eq_true (by omega), decide_eq_true (by omega), decide_eq_true (by omega)] at hb
        cases hb
      refine eb_nil fun Hb H w => ⟨⟨_, _, rfl⟩, ?_⟩
      rw [htk, List.filterMap_append, List.filterMap_cons, hpv]
      show Fram K _ l ((_ ++ []).map dPR) Hb H
      rw [List.append_nil]
      exact w
  · refine eb_pr fun ⟨o5, o6, e⟩ => ?_
    subst e
    rw [List.take_length]
    refine eb_frz 4 (eb_ret (ed_v 4) fun Hb H x => ⟨rfl, x⟩)
/-! ### count_colourings, count_level -/
theorem ChOk.S {n : Nat} {ts : List (Nat × Nat)} (h9 : n ≤ 9) : ChOk (chS ts) n := by
  refine ⟨fun left more hs => ?_, fun left more hs q hq => ?_, fun left more hs hm q hq => ?_⟩
  · unfold chS
    rw [List.length_map]
    have := sub_len hs
    exact Nat.le_trans (aptF_length ts left) (Nat.le_trans (Nat.pow_le_pow_right (by decide) (show left.length ≤ 9 by omega)) (by decide))
  · obtain ⟨p, hp, rfl⟩ := List.mem_map.mp hq
    have := (aptF_sub ts left p hp).length_le
    have := sub_len hs
    show p.length ≤ 1000
    omega
  · obtain ⟨p, hp, rfl⟩ := List.mem_map.mp hq
    exact hm
theorem lvP_some {n h more : Nat} {p : List Nat} {q : List Nat × Nat} (e : lvP n h more p = some q) : n / h ≤ p.length ∧ p.length ≤ n / h + 1 ∧ p.length ≤ more + n / h ∧ q = (p, more + n / h - p.length) := by
  unfold lvP at e
  split at e
  · rename_i c
    cases e
    exact ⟨c.1, c.2.1, c.2.2, rfl⟩
  · cases e
theorem ChOk.L {n h : Nat} {ts : List (Nat × Nat)} (h9 : n ≤ 9) : ChOk (chL ts n h) n := by
  refine ⟨fun left more hs => ?_, fun left more hs q hq => ?_, fun left more hs hm q hq => ?_⟩
  · unfold chL
    have := sub_len hs
    exact Nat.le_trans (List.length_filterMap_le _ _) (Nat.le_trans (aptF_length ts left) (Nat.le_trans (Nat.pow_le_pow_right (by decide) (show left.length ≤ 9 by omega)) (by decide)))
  · obtain ⟨p, hp, e⟩ := List.mem_filterMap.mp hq
    obtain ⟨_, _, _, rfl⟩ := lvP_some e
    have := (aptF_sub ts left p hp).length_le
    have := sub_len hs
    show p.length ≤ 1000
    omega
  · obtain ⟨p, hp, e⟩ := List.mem_filterMap.mp hq
    obtain ⟨g1, _, _, rfl⟩ := lvP_some e
    show more + n / h - p.length ≤ 10
    omega
theorem scCc : FnScope ["web", "hues"] ["web", "hues"] (defScope sCc) := ⟨rfl, rfl, rfl, by decide +kernel, rfl, by decide +kernel, by decide +kernel⟩
def phCc (CW : Addr) (ds : List D) (d : D) : Prop := ∃ (n h : Nat) (ts : List (Nat × Nat)), WebOk n ts ∧ n ≤ 9 ∧ 1 ≤ h ∧ h ≤ 20 ∧ ds = [dW CW n ts, nI h] ∧ d = nI (cntF (chS ts) h (List.range n) 0)
theorem fnCc {C fI fC : Addr} {fdI fdC : FuncData} {tk : Tok} (F : Fun K "count_colourings" "count_colourings" sCc f fd) (wc : WebC K CW) (sc : SrC K C) (cRa : Ca P w K mg base 2 "require_asked" (phRa CW)) (cRe : Ca P w K mg base 1 "require_exact" (phRe CW)) (mM : mg "MAX_EXACT" = some (.int 10 tk))
    (M : Mk K C fI) (GI : FnOk P w K mg base CX0 1 fI fdI ["self", "web", "hues"] (spIN P w K C (phSi CW))) (bI : Binds K fdI ["self", "web", "hues"] []) (mS : mg "Search" = some (.ref C))
    (mC : Meth K C "count" fC) (GC : ∀ (n h : Nat) (ts : List (Nat × Nat)), WebOk n ts → n ≤ 9 → 1 ≤ h → h ≤ 20 → FnOk P w K mg base CX0 24 fC fdC ["self", "hue", "left", "more"] (spC K (phCt P w K C (srF CW n ts h) (chS ts) n h h))) (bC : Binds K fdC ["self", "hue", "left", "more"] []) :
    FnOk P w K mg base CX0 25 f fd ["web", "hues"] (spP K (phCc CW)) := by
  refine fn_pure F scCc (fun ds d ⟨_, _, _, _, _, _, _, e, _⟩ => by rw [e]; rfl) fun cdv A outer s H E hr ds d hφ Hb0 H0 => ?_
  obtain ⟨n, h, ts, ok, h9, h1, h20, rfl, rfl⟩ := hφ
  refine eb_drop (ed_ca cRa (hr.mono (by decide)) (es_cons (ed_v 0) (es_cons (ed_v 1) es_nil)) ⟨n, h, ts, h1, h20, rfl, rfl⟩) ?_
  refine eb_drop (ed_ca cRe (hr.mono (by decide)) (es_cons (ed_v 0) (es_cons (ed_const mM) es_nil)) ⟨n, 10, ts, by omega, rfl, rfl⟩) ?_
  refine eb_ret (ed_mkMeth (Ψ := PsC (chS ts) n h) (fs := srF CW n ts h) (ds2 := [nI 0, dR (List.range n), nI 0]) M GI (hr.mono (by decide)) mS bI (es_cons (ed_v 0) (es_cons (ed_v 1) es_nil)) ⟨n, h, ts, rfl, rfl⟩ sc.cl mC (GC n h ts ok h9 h1 h20) hr bC (fun _ => rfl)
    (es_cons ed_int (es_cons (ed_fld (ed_v 0) wc.cl wc.n4 (d := dR (List.range n)) rfl) (es_cons ed_int es_nil))) (fun a => ⟨0, 0, List.range n, by omega, List.Sublist.refl _, by omega, rfl, rfl, rfl⟩) (fun x hx => nomatch hx)) fun Hb H x => ⟨rfl, x⟩
theorem scCl : FnScope ["web", "hues"] ["web", "hues"] (defScope sCl) := ⟨rfl, rfl, rfl, by decide +kernel, rfl, by decide +kernel, by decide +kernel⟩
def phCl (CW : Addr) (ds : List D) (d : D) : Prop := ∃ (n h : Nat) (ts : List (Nat × Nat)), WebOk n ts ∧ n ≤ 9 ∧ 1 ≤ h ∧ h ≤ 20 ∧ ds = [dW CW n ts, nI h] ∧ d = nI (cntF (chL ts n h) h (List.range n) (n % h))
theorem fnCl {C fI fC : Addr} {fdI fdC : FuncData} {tk : Tok} (F : Fun K "count_level" "count_level" sCl f fd) (wc : WebC K CW) (lc : LvC K C) (cRa : Ca P w K mg base 2 "require_asked" (phRa CW)) (cRe : Ca P w K mg base 1 "require_exact" (phRe CW)) (mM : mg "MAX_EXACT" = some (.int 10 tk))
    (M : Mk K C fI) (GI : FnOk P w K mg base CX0 2 fI fdI nVi (spIN P w K C (phVi CW))) (bI : Binds K fdI nVi []) (mS : mg "LevelSearch" = some (.ref C))
    (mC : Meth K C "count" fC) (GC : ∀ (n h : Nat) (ts : List (Nat × Nat)), WebOk n ts → n ≤ 9 → 1 ≤ h → h ≤ 20 → FnOk P w K mg base CX0 24 fC fdC ["self", "hue", "left", "more"] (spC K (phCt P w K C (lvF CW n ts h) (chL ts n h) n h h))) (bC : Binds K fdC ["self", "hue", "left", "more"] []) :
    FnOk P w K mg base CX0 25 f fd ["web", "hues"] (spP K (phCl CW)) := by
  refine fn_pure F scCl (fun ds d ⟨_, _, _, _, _, _, _, e, _⟩ => by rw [e]; rfl) fun cdv A outer s H E hr ds d hφ Hb0 H0 => ?_
  obtain ⟨n, h, ts, ok, h9, h1, h20, rfl, rfl⟩ := hφ
  have hp : (0 : Int) < (h : Int) := by omega
  have hmod : n % h ≤ 10 := Nat.le_trans (Nat.mod_le _ _) (by omega)
  refine eb_drop (ed_ca cRa (hr.mono (by decide)) (es_cons (ed_v 0) (es_cons (ed_v 1) es_nil)) ⟨n, h, ts, h1, h20, rfl, rfl⟩) ?_
  refine eb_drop (ed_ca cRe (hr.mono (by decide)) (es_cons (ed_v 0) (es_cons (ed_const mM) es_nil)) ⟨n, 10, ts, by omega, rfl, rfl⟩) ?_
  refine eb_ret (ed_mkMeth (Ψ := PsC (chL ts n h) n h) (fs := lvF CW n ts h) (ds2 := [nI 0, dR (List.range n), nI (n % h)]) M GI (hr.mono (by decide)) mS bI (es_cons (ed_v 0) (es_cons (ed_v 1) (es_cons ed_dict0 es_nil))) ⟨n, h, ts, h1, h20, rfl, rfl⟩ lc.sr.cl mC (GC n h ts ok h9 h1 h20) hr bC (fun _ => rfl)
    (es_cons ed_int (es_cons (ed_fld (ed_v 0) wc.cl wc.n4 (d := dR (List.range n)) rfl) (es_cons (ed_mod (ed_fld (ed_v 0) wc.cl wc.n1 (d := nI n) rfl) (ed_v 1) hp) es_nil))) (fun a => ⟨0, n % h, List.range n, by omega, List.Sublist.refl _, hmod, rfl, rfl, rfl⟩) (fun x hx => nomatch hx)) fun Hb H x => ⟨rfl, x⟩
end
end Fa
set_option maxHeartbeats 4000000
/-! Fa6: the law's dice. -/
namespace Fa
open PySem PySem.Spec PyProof.Rows L2 Sm Tx

theorem op_powW {X : Cx} : OpR X (binaryOp .Pow) (rI (fun i j => 0 ≤ j ∧ (Builtin.Int.intBits i : Int) * j ≤ 2 ^ 27) fun i j => .int (i ^ j.toNat)) := opI fun _ _ _ _ _ _ _ hc q => pow_int hc.1 hc.2 q
/-- what a def gives that makes a list -/
def spNL (K : PySem.W.Frag) (φ : List D → (List D → Prop) → Prop) : Sp := fun vs H Q _ => ∃ Hb ds Ψ, Evl.Ex Hb H ∧ IsL K Hb ds vs ∧ φ ds Ψ ∧ ∀ l Hb' H' es, Ψ es → Evl.Ex Hb' H' → Fram K (Xt Hb H) l es Hb' H' → Q (.ref l) H'
section
variable {P : Program} {w : World} {K : PySem.W.Frag} {mg : Str → Option Value} {base : Heap} {f CW : Addr} {fd : FuncData}
theorem fn_new {x qual : Str} {st : Stmt} {f : Addr} {fd : FuncData} {N ps : List Str} {k : Nat} {φ : List D → (List D → Prop) → Prop} (F : Fun K x qual st f fd) (S : FnScope N ps (defScope st)) (len : ∀ ds Ψ, φ ds Ψ → ds.length = ps.length)
    (hbody : ∀ (cdv : Value) (A : Around) (outer : List Env) (s : Shared) (H : Hp) (E : XK), Room k (A.deeper (envOfC qual (defScope st) s.heap.objs.size f cdv)) → ∀ ds Ψ, φ ds Ψ → ∀ Hb0 H0,
      EB (cxOf CX0 P w K mg base N qual (defScope st) f cdv A outer s H E).nox (Xt Hb0 H0) (st0 N ds) (defBody st) (fun _ _ _ => False) (fun d Hb H => ∃ l es, d = .adr l ∧ Ψ es ∧ Fram K (Xt Hb0 H0) l es Hb H) No No) :
    FnOk P w K mg base CX0 (k + 1) f fd ps (spNL K φ) := by
  refine F.ok S (fun vs H Q E ⟨Hb, ds, Ψ, _, h2, h3, _⟩ => by rw [h2.length]; exact len ds Ψ h3) (fun cdv A outer s H vs Q E hr ⟨Hb, ds, Ψ, h1, h2, h3, h4⟩ => ?_)
  refine ⟨_, pss_sm, ?_⟩
  refine (hbody cdv A outer s H E hr ds Ψ h3 Hb H Hb H _ h1 (start_is h2) (.refl h1)).mono (fun σ H' ⟨ρ', Hb', a1, a2, a3, z⟩ => z.elim) (fun v H' ⟨d', Hb', a1, a2, a3, l, es, e1, e2, e3⟩ => ?_) (fun σ H' ⟨ρ', Hb', a1, a2, a3, z⟩ => z.elim) fun σ H' ⟨ρ', Hb', a1, a2, a3, z⟩ => z.elim
  subst e1
  rw [is_adr.mp a3]
  exact h4 l Hb' H' es e2 a2 e3
section
variable {X : Cx} {W : As} {ρ : En} {a b e : Expr} {i j : Int} {pos p : Pos} {rest : List Stmt} {N : En → As} {R : D → As} {B C : En → As} {x : Str}
theorem ed_powW (ha : ED X ρ a (.int i)) (hb : ED X ρ b (.int j)) (h0 : 0 ≤ j) (hz : (Builtin.Int.intBits i : Int) * j ≤ 2 ^ 27) : ED X ρ (.BinOp a .Pow b pos) (.int (i ^ j.toNat)) := ed_2 (pe_op op_powW pe_sm pe_sm) ha hb (rd_I ⟨h0, hz⟩ fun _ => is_int.mpr rfl)
theorem ed_fdivW (ha : ED X ρ a (.int i)) (hb : ED X ρ b (.int j)) (hc : CDivW i j) : ED X ρ (.BinOp a .FloorDiv b pos) (.int (i / j)) := ed_2 (pe_op op_fdivW pe_sm pe_sm) ha hb (rd_I hc fun _ => is_int.mpr rfl)
/-- some number -/
theorem eb_setI (k : Nat) (hN : X.N.Nodup) [Stb W] (h : ED X ρ e (.int i)) (q : ∀ i : Int, EB X W (ρ.set k (some (.int i))) rest N R B C) (hi : X.N[k]? = some x := by rfl) (hx : Loc X.env.scope x := by first | exact Or.inl rfl | exact Or.inr rfl)
    (hs : swapsWith e (some (.Name x p)) pos.line X.env = pure false := by rfl) (hf : X.fn x = true ∨ X.env.scope.names.lookup x = some .local := by first | exact .inl rfl | exact .inr rfl) : EB X W ρ (.Assign [.Name x p] e pos :: rest) N R B C := eb_set k hN h (q i) hi hx hs hf
end
theorem mulL {i j : Int} (h1 : -18446744073709551616 < i) (h2 : i < 18446744073709551616) : CMul i j := .inl ⟨h1, h2⟩
theorem mulR {i j : Int} (h1 : -18446744073709551616 < j) (h2 : j < 18446744073709551616) : CMul i j := .inr ⟨h1, h2⟩
/-! ### _law_dice -/
abbrev nDi : List Str := ["_law_script", "_law_at", "_law_cell", "_law_great", "_law_left", "_law_mixed_here"]
theorem scDi : FnScope nDi ["_law_script", "_law_at"] (defScope sDi) := ⟨rfl, rfl, rfl, by decide +kernel, rfl, by decide +kernel, by decide +kernel⟩
def threeI (es : List D) : Prop := ∃ x y z : Int, es = [.int x, .int y, .int z]
def phDi (ds : List D) (Ψ : List D → Prop) : Prop := ∃ (sc : List Int) (k : Nat), ds = [.scr (sc.map .int), nI k] ∧ Ψ = threeI
theorem fnDi (F : Fun K "_law_dice" "_law_dice" sDi f fd) (g : Gn mg) : FnOk P w K mg base CX0 1 f fd ["_law_script", "_law_at"] (spNL K phDi) := by
  refine fn_new F scDi (fun ds d ⟨_, _, e, _⟩ => by rw [e]; rfl) fun cdv A outer s H E hr ds Ψ hφ Hb0 H0 => ?_
  obtain ⟨sc, k, rfl, rfl⟩ := hφ
  refine eb_set 2 scDi.nd (ed_add (ed_mul ed_int (ed_v 1) (mulL (by decide) (by decide))) ed_int) ?_
  refine eb_if (b := decide ((k : Int) < ((sc.map D.int).length : Int))) (N1 := fun ρ' => Pr (∃ c : Int, ρ' = [some (.scr (sc.map .int)), some (nI k), some (.int c), none, none, none]) (Xt Hb0 H0)) (et_lt (ed_v 1) (ed_lenS g.len (ed_v 0))) (fun hb => ?_) (fun _ => eb_nil fun Hb H x => ⟨⟨_, rfl⟩, x⟩) fun ρ' => ?_
  · have hk : k < sc.length := by
      have := of_decide_eq_true hb
      rw [List.length_map] at this
      omega
    exact eb_set 2 scDi.nd (ed_ixS (n := k) (ed_v 0) (ed_v 1) (d := .int sc[k]) (by rw [List.getElem?_map, List.getElem?_eq_getElem hk]; rfl)) (eb_nil fun Hb H x => ⟨⟨_, rfl⟩, x⟩)
  refine eb_pr fun ⟨c, e⟩ => ?_
  subst e
  refine eb_setI 3 scDi.nd (ed_mod (ed_intI g.int (ed_abs g.abs (ed_v 2))) (ed_powW (ed_powW ed_int ed_int (by decide) (by decide +kernel)) ed_int (by decide) (by decide +kernel)) (by decide +kernel)) fun G => ?_
  refine eb_setI 4 scDi.nd (ed_fdivW (ed_v 3) (ed_powW ed_int ed_int (by decide) (by decide +kernel)) ⟨by decide +kernel, by decide +kernel⟩) fun L => ?_
  refine eb_setI 5 scDi.nd (ed_add (ed_add (ed_add (ed_mul (ed_mod (ed_v 3) ed_int (by decide)) ed_int (mulR (by decide) (by decide))) (ed_mul ed_int (ed_v 1) (mulL (by decide) (by decide)))) (ed_mul ed_int (ed_intB g.int (Sm.ed_lt (ed_v 2) ed_int)) (mulL (by decide) (by decide)))) ed_int) fun M => ?_
  refine eb_retN (en_lst (es_cons (ed_v 4) (es_cons (ed_mod (ed_v 5) ed_int (by decide)) (es_cons ed_int es_nil))) (line_of (by simp))) fun l Hb H w => ⟨l, _, rfl, ⟨_, _, _, rfl⟩, w⟩
/-! ### _law_roll -/
/-- dice stand at a -/
def Dc (a : Addr) : As := fun _ H => ∃ x y z : Int, H a = some (.lst [.int x, .int y, .int z])
instance dcLcl {a : Addr} : Lcl a (Dc a) := ⟨fun ⟨x, y, z, h⟩ e _ => ⟨x, y, z, e.trans h⟩⟩
theorem isL_three {K : PySem.W.Frag} {H : Hp} {x y z : Int} : IsL K H [.int x, .int y, .int z] [.int x, .int y, .int z] := isL_cons.mpr ⟨_, _, rfl, is_int.mpr rfl, isL_cons.mpr ⟨_, _, rfl, is_int.mpr rfl, isL_cons.mpr ⟨_, _, rfl, is_int.mpr rfl, isL_nil.mpr rfl⟩⟩⟩
theorem threeV {K : PySem.W.Frag} {H : Hp} {x y z : Int} {vs : List V} (h : IsL K H [.int x, .int y, .int z] vs) : vs = [.int x, .int y, .int z] := by
  obtain ⟨v, r, rfl, h1, h2⟩ := isL_cons.mp h
  obtain ⟨v2, r2, rfl, h3, h4⟩ := isL_cons.mp h2
  obtain ⟨v3, r3, rfl, h5, h6⟩ := isL_cons.mp h4
  rw [is_int.mp h1, is_int.mp h3, is_int.mp h5, isL_nil.mp h6]
theorem dice_back {W : As} {a : Addr} {es : List D} {Hb H : Hp} (h : threeI es) (w : Fram K W a es Hb H) : FrC (Dc a) a W Hb H := by
  obtain ⟨x, y, z, rfl⟩ := h
  obtain ⟨h1, ⟨ys, h2, h3⟩, h4⟩ := w
  rw [threeV h3] at h2
  exact ⟨h1, by rw [h2]; exact (fun z => nomatch z), ⟨x, y, z, h2⟩, h4⟩
theorem eb_dice {X : Cx} {W : As} {ρ : En} {a : Addr} {rest : List Stmt} {N : En → As} {R : D → As} {B C : En → As} (k : ∀ x y z : Int, EB X (Fram X.K W a [.int x, .int y, .int z]) ρ rest N R B C) : EB X (FrC (Dc a) a W) ρ rest N R B C := fun Hb H σ e I ⟨h1, h2, ⟨x, y, z, h3⟩, h4⟩ =>
  k x y z Hb H σ e I ⟨h1, ⟨_, h3, isL_three⟩, h4⟩
theorem eb_ifRetW {X : Cx} {W : As} {ρ : En} {c : Expr} {b : Bool} {body rest : List Stmt} {pos : Pos} {N : En → As} {R : D → As} {B C : En → As} (h : TW X W ρ c (· = b)) (h1 : b = true → EB X W ρ body No R B C) (h2 : b = false → EB X W ρ rest N R B C) : EB X W ρ (.If c body [] pos :: rest) N R B C :=
  eb_ifW (N1 := fun ρ' Hb H => ρ' = ρ ∧ b = false ∧ W Hb H) h (fun e => (h1 e.symm).imp (fun _ _ _ z => z.elim) (fun _ _ _ z => z) (fun _ _ _ z => z) fun _ _ _ z => z) (fun e => eb_nil fun Hb H w => ⟨rfl, e.symm, w⟩) fun ρ' Hb H σ x I ⟨e, eb, w⟩ => by subst e; exact h2 eb Hb H σ x I w
abbrev nRo : List Str := ["_law_dice_here", "_law_total", "_law_number_here", "_law_drawn", "_law_one", "_law_two"]
theorem scRo : FnScope nRo ["_law_dice_here", "_law_total"] (defScope sRo) := ⟨rfl, rfl, rfl, by decide +kernel, rfl, by decide +kernel, by decide +kernel⟩
def phRo (ds : List D) (a : Addr) (G : As) (R : D → Prop) : Prop := ∃ t : Int, 1 ≤ t ∧ t < 1073741824 ∧ ds = [.adr a, .int t] ∧ G = Dc a ∧ R = fun d => ∃ r : Int, 0 ≤ r ∧ r < t ∧ d = .int r
theorem fnRo (F : Fun K "_law_roll" "_law_roll" sRo f fd) (g : Gn mg) : FnOk P w K mg base CX0 1 f fd ["_law_dice_here", "_law_total"] (spC K phRo) := by
  refine fn_C F scRo (fun ds a G R ⟨_, _, _, e, _⟩ => by rw [e]; rfl) fun cdv A outer s H E hr ds a G R hφ Hb0 H0 => ?_
  obtain ⟨t, h1, h2, rfl, rfl, rfl⟩ := hφ
  have ht : 0 < t := by omega
  refine eb_set 2 scRo.nd (ed_intI g.int (ed_v 1)) ?_
  refine eb_dice fun x y z => ?_
  refine eb_ifRetW (b := decide (0 < x)) (tw_frz 0 (et_gt (ed_ixL (n := 0) (ed_v 0) ed_int rfl) ed_int)) (fun _ => ?_) fun _ => ?_
  · refine eb_setW 3 scRo.nd (ew_frz 0 (ed_mod (ed_ixL (n := 0) (d := .int x) (ed_v 0) ed_int rfl) (ed_v 2) ht) sc_int) fun d e => ?_
    subst e
    refine eb_putW (n := 0) (ew_frz 0 (ed_fdiv (ed_ixL (n := 0) (d := .int x) (ed_v 0) ed_int rfl) (ed_v 2) ⟨ht, h2⟩) sc_int) (ed_v 0) ed_int (Nat.succ_pos _) fun d e => ?_
    subst e
    exact eb_ret (ed_intI g.int (ed_v 3)) fun Hb H w => ⟨⟨_, Int.emod_nonneg _ (by omega), Int.emod_lt_of_pos _ ht, rfl⟩, dice_back ⟨_, _, _, rfl⟩ w⟩
  · refine eb_putW (n := 2) (ew_frz 0 (ed_add (ed_ixL (n := 2) (d := .int z) (ed_v 0) ed_int rfl) ed_int) sc_int) (ed_v 0) ed_int (Nat.lt_succ_self _) fun d e => ?_
    subst e
    refine eb_setW (P := fun d => ∃ i : Int, d = .int i ∧ 0 ≤ i ∧ i < 2305843009213693951) 4 scRo.nd ((ew_frz 0 (ed_mod (ed_add (ed_ixL (n := 1) (d := .int y) (ed_v 0) ed_int rfl) (ed_mul ed_int (ed_ixL (n := 2) (d := .int (z + 1)) (ed_v 0) ed_int rfl) (mulL (by decide) (by decide)))) ed_int (by decide)) sc_int).imp fun d e =>
      ⟨_, e, Int.emod_nonneg _ (by decide), Int.emod_lt_of_pos _ (by decide)⟩) fun d ⟨o, e, o1, o2⟩ => ?_
    subst e
    refine eb_setW (P := fun d => ∃ i : Int, d = .int i) 5 scRo.nd ((ew_frz 0 (ed_add (ed_mul (ed_mod (ed_mul (ed_v 4) (ed_v 4) (mulL (by omega) (by omega))) ed_int (by decide)) (ed_v 4) (mulR (by omega) (by omega))) (ed_mul ed_int (ed_ixL (n := 2) (d := .int (z + 1)) (ed_v 0) ed_int rfl) (mulL (by decide) (by decide)))) sc_int).imp fun d e => ⟨_, e⟩) fun d ⟨o2, e⟩ => ?_
    subst e
    refine eb_setI 5 scRo.nd (ed_mod (ed_v 5) ed_int (by decide)) fun o3 => ?_
    exact eb_ret (ed_intI g.int (ed_mod (ed_fdiv (ed_v 5) ed_int ⟨by decide, by decide⟩) (ed_v 2) ht)) fun Hb H w => ⟨⟨_, Int.emod_nonneg _ (by omega), Int.emod_lt_of_pos _ ht, rfl⟩, dice_back ⟨_, _, _, rfl⟩ w⟩
end
end Fa
set_option maxHeartbeats 4000000
/-! Fa7: the law's ties. -/
namespace Fa
open PySem PySem.Spec PyProof.Rows L2 Sm Tx

section
variable {P : Program} {w : World} {K : PySem.W.Frag} {mg : Str → Option Value} {base : Heap} {f CW : Addr} {fd : FuncData}
/-! ### _law_mixed -/
abbrev nMi : List Str := ["_law_dice_here", "_law_items", "_law_left", "_law_found"]
theorem scMi : FnScope nMi ["_law_dice_here", "_law_items"] (defScope sMi) := ⟨rfl, rfl, rfl, by decide +kernel, rfl, by decide +kernel, by decide +kernel⟩
def phMi (ds : List D) (a : Addr) (G : As) (R : D → Prop) : Prop := ∃ (α : Type) (enc : α → D) (E : Eqd enc) (_ : DecidableEq α) (xs : List α), E.dep ≤ 60 ∧ xs.length ≤ 1000 ∧ ds = [.adr a, .lst (xs.map enc)] ∧ G = Dc a ∧ R = fun d => ∃ ys : List α, ys.Perm xs ∧ d = .lst (ys.map enc)
theorem map_erase {α β : Type} (f : α → β) : ∀ (xs : List α) (n : Nat), (xs.eraseIdx n).map f = (xs.map f).eraseIdx n
  | [], n => rfl
  | x :: xs, 0 => rfl
  | x :: xs, n + 1 => by
    show f x :: (xs.eraseIdx n).map f = _
    rw [map_erase f xs n]
    rfl
theorem perm_erase {α : Type} : ∀ {xs : List α} {n : Nat} {x : α}, xs[n]? = some x → (x :: xs.eraseIdx n).Perm xs
  | [], n, x, h => by cases h
  | y :: xs, 0, x, h => by cases h; exact List.Perm.refl _
  | y :: xs, n + 1, x, h => by
    have := perm_erase (xs := xs) (n := n) h
    exact (List.Perm.swap y x _).trans (this.cons y)
theorem fnMi (F : Fun K "_law_mixed" "_law_mixed" sMi f fd) (g : Gn mg) (cR : CaC P w K mg base 1 "_law_roll" phRo) : FnOk P w K mg base CX0 2 f fd ["_law_dice_here", "_law_items"] (spC K phMi) := by
  refine fn_C F scMi (fun ds a G R ⟨_, _, _, _, _, _, _, e, _⟩ => by rw [e]; rfl) fun cdv A outer s H E hr ds a G R hφ Hb0 H0 => ?_
  obtain ⟨α, enc, Eq, dec, items, hdep, hz, rfl, rfl, rfl⟩ := hφ
  refine eb_parN 2 3 rfl scMi.nd (en_listL g.list (ed_v 1)) (en_lst es_nil (line_of (by simp))) fun l1 l2 => ?_
  refine eb_while (fun m ρ' => Pr (ρ' = [some (.adr a), some (.lst (items.map enc)), some (.adr l1), some (.adr l2)]) (Exs fun q : List α × List α => Pr (q.1.length = m ∧ (q.2 ++ q.1).Perm items) (Fram K (Fram K (FrC (Dc a) a (Xt Hb0 H0)) l1 (q.1.map enc)) l2 (q.2.map enc)))) (passOwn rfl) (fun m b => b = !decide (m = 0)) items.length
    (fun Hb H w => ⟨rfl, (items, []), ⟨rfl, List.Perm.refl _⟩, w⟩) (fun m ρ' => ?_) (fun m hm ρ' => ?_) fun m hm ρ' => ?_
  · refine TW.pr fun e => TW.exs fun ⟨xs, ys⟩ => TW.pr fun ⟨hx, hp⟩ => ?_
    subst e
    refine TW.imp (TW.pre (tw_frz (W := Fram K (FrC (Dc a) a (Xt Hb0 H0)) l2 (ys.map enc)) (fs := xs.map enc) 2 (Eq.lst.et_ne hr.units (Nat.le_trans (Nat.succ_le_succ hdep) (by decide)) xs [] (ed_v 2) (ed_lst es_nil (line_of (by simp))))) (fun _ _ => Fram.swap) (fun _ _ => Fram.swap)) fun b e => ?_
    rw [e]
    congr 1
    exact decide_eq_decide.mpr (by rw [← hx]; exact List.length_eq_zero_iff.symm)
  · have hm0 : m ≠ 0 := by simpa using hm
    refine ⟨m - 1, by omega, eb_pr fun e => eb_exs fun ⟨xs, ys⟩ => eb_pr fun ⟨hx, hp⟩ => ?_⟩
    subst e
    have hx : xs.length = m := hx
    have hp : (ys ++ xs).Perm items := hp
    have hlen : ys.length + xs.length = items.length := by rw [← List.length_append]; exact hp.length_eq
    refine eb_appC (fs := ys.map enc) (ι := Nat) (Φ := fun n d => ∃ x, xs[n]? = some x ∧ d = enc x) (V := fun n => Fram K (FrC (Dc a) a (Xt Hb0 H0)) l1 ((xs.eraseIdx n).map enc)) ?_ (fun Hb H w => ⟨_, w.2.1.choose_spec.1⟩) ?_ (ed_v 3) fun n d ⟨x, hx2, e⟩ => ?_
    · refine EWc.imp (ewc_pop (W := Fram K (FrC (Dc a) a (Xt Hb0 H0)) l2 (ys.map enc)) (fs := xs.map enc) (l := l1) ?_ ?_ (ed_v 2)) (fun _ _ => Fram.swap) (fun d Hb H ⟨n, e, w⟩ => ⟨n, ?_, ?_⟩)
      · refine EW.imp (ew_caW (t := a) (G := Dc a) (Φ := (· = [.adr a, .int ((xs.map enc).length : Int)])) (R' := fun d => ∃ r : Int, 0 ≤ r ∧ r < ((xs.map enc).length : Int) ∧ d = .int r) cR hr (ews_cons (Φ := (· = [.int ((xs.map enc).length : Int)])) (ew_ed (ed_v 0)) (ews_cons (Φ := (· = [])) (ew_frz 2 (ed_lenL g.len (ed_v 2)) sc_int) ews_nil ?_) ?_) ?_) ?_
        · exact fun d ds e1 e2 => by rw [e1, e2]
        · exact fun d ds e1 e2 => by rw [e1, e2]
        · refine fun ds e => ⟨_, ?_, ?_, e, rfl, rfl⟩
          · rw [List.length_map]; omega
          · rw [List.length_map]; omega
        · exact fun d ⟨r, r1, r2, e⟩ => ⟨r.toNat, by omega, by rw [e, Int.toNat_of_nonneg r1]⟩
      · rw [List.length_map]; omega
      · rw [List.getElem?_map] at e
        obtain ⟨x, hx1, hx2⟩ := Option.map_eq_some_iff.mp e
        exact ⟨x, hx1, hx2.symm⟩
      · rw [← map_erase] at w
        exact w.swap
    · rw [List.length_map]
      exact small1000 (by omega)
    · subst e
      have hn : n < xs.length := (List.getElem?_eq_some_iff.mp hx2).1
      refine eb_nil fun Hb H w => ⟨rfl, (xs.eraseIdx n, ys ++ [x]), ⟨?_, ?_⟩, ?_⟩
      · show (xs.eraseIdx n).length = m - 1
        rw [List.length_eraseIdx_of_lt hn, hx]
      · show (ys ++ [x] ++ xs.eraseIdx n).Perm items
        rw [List.append_assoc]
        exact (List.Perm.append_left ys (perm_erase hx2)).trans hp
      · show Fram K _ l2 ((ys ++ [x]).map enc) Hb H
        rw [List.map_append]
        exact w
  · have hm0 : m = 0 := by simpa using hm
    refine eb_pr fun e => eb_exs fun ⟨xs, ys⟩ => eb_pr fun ⟨hx, hp⟩ => ?_
    subst e
    have hx0 : xs = [] := List.length_eq_zero_iff.mp (by rw [hx, hm0])
    subst hx0
    rw [List.append_nil] at hp
    refine eb_frz 3 (eb_frz 2 (eb_ret (ed_v 3) fun Hb H w => ⟨⟨ys, hp, rfl⟩, w⟩))
end
end Fa
set_option maxHeartbeats 4000000
/-! Fa8: the law's ties. -/
namespace Fa
open PySem PySem.Spec PyProof.Rows L2 Sm Tx

section
variable {P : Program} {w : World} {K : PySem.W.Frag} {mg : Str → Option Value} {base : Heap} {f CW : Addr} {fd : FuncData}
/-! ### _law_all_ties -/
def pairRow (n i : Nat) : List (Nat × Nat) := (List.range (n - (i + 1))).map fun j => (i, i + 1 + j)
def pairsN (n : Nat) : List (Nat × Nat) := (List.range n).flatMap (pairRow n)
theorem pairsN_mem {n : Nat} {t : Nat × Nat} (h : t ∈ pairsN n) : t.1 < t.2 ∧ t.2 < n := by
  obtain ⟨i, hi, hj⟩ := List.mem_flatMap.mp h
  obtain ⟨j, hj2, rfl⟩ := List.mem_map.mp hj
  have := List.mem_range.mp hi
  have := List.mem_range.mp hj2
  show i < i + 1 + j ∧ i + 1 + j < n
  omega
theorem pairsN_len {n : Nat} (h : n ≤ 10) : (pairsN n).length ≤ 45 := by
  have hh : ∀ n ∈ List.range 11, (pairsN n).length ≤ 45 := by decide +kernel
  exact hh n (List.mem_range.mpr (by omega))
theorem flatMap_sub {α β : Type} {f : α → List β} {xs ys : List α} (h : xs.Sublist ys) : (xs.flatMap f).length ≤ (ys.flatMap f).length := by
  induction h with
  | slnil => exact Nat.le_refl _
  | cons a _ ih => rw [List.flatMap_cons, List.length_append]; omega
  | cons_cons a _ ih => rw [List.flatMap_cons, List.flatMap_cons, List.length_append, List.length_append]; omega
theorem pairs_take (n i : Nat) (h : i < n) : ((List.range n).take (i + 1)).flatMap (pairRow n) = ((List.range n).take i).flatMap (pairRow n) ++ pairRow n i := by
  have : (List.range n)[i]? = some i := List.getElem?_range h
  rw [List.take_add_one, this]
  simp
abbrev nAt : List Str := ["_law_size", "_law_found", "_law_one", "_law_two"]
theorem scAt : FnScope nAt ["_law_size"] (defScope sAt) := ⟨rfl, rfl, rfl, by decide +kernel, rfl, by decide +kernel, by decide +kernel⟩
def phAt (ds : List D) (d : D) : Prop := ∃ n : Nat, n ≤ 10 ∧ ds = [nI n] ∧ d = .lst ((pairsN n).map dT)
theorem fnAt (F : Fun K "_law_all_ties" "_law_all_ties" sAt f fd) (g : Gn mg) : FnOk P w K mg base CX0 1 f fd ["_law_size"] (spP K phAt) := by
  refine fn_pure F scAt (fun ds d ⟨_, _, e, _⟩ => by rw [e]; rfl) fun cdv A outer s H E hr ds d hφ Hb0 H0 => ?_
  obtain ⟨n, hn, rfl, rfl⟩ := hφ
  refine eb_newN 1 scAt.nd (en_lst es_nil (line_of (by simp))) fun l => ?_
  refine eb_forN (xs := List.range n) nI 2 (fun i ρ' => Pr (∃ o2, ρ' = [some (nI n), some (.adr l), o2, none]) (Fram K (Xt Hb0 H0) l ((((List.range n).take i).flatMap (pairRow n)).map dT))) (passOwn rfl) rfl (ei_is (ei_range1 g.range (ed_v 0) (by omega)) (rngD_0 n)) (pg_name (i := 2) scAt.nd rfl (Or.inr rfl)) (fun Hb H x => ⟨⟨none, rfl⟩, x⟩) (fun i p hip ρ' => ?_) fun ρ' => ?_
  · refine eb_pr fun ⟨o2, e⟩ => ?_
    subst e
    have hi : i < n := by have := (List.getElem?_eq_some_iff.mp hip).1; rwa [List.length_range] at this
    have hpi : p = i := by rw [List.getElem?_range hi] at hip; cases hip; rfl
    subst hpi
    have hle : (((List.range n).take (p + 1)).flatMap (pairRow n)).length ≤ 45 := by
      refine Nat.le_trans ?_ (pairsN_len hn)
      unfold pairsN
      exact flatMap_sub (List.take_sublist _ _)
    have hsum : (((List.range n).take p).flatMap (pairRow n)).length + (pairRow n p).length ≤ 45 := by
      rw [pairs_take n p hi, List.length_append] at hle
      exact hle
    refine eb_extW (es2 := (pairRow n p).map dT) (ed_is (ed_lc1 (xs := List.range (n - (p + 1))) (fun j : Nat => D.int ((p : Int) + 1 + (j : Int))) 3 (p := fun _ => true) (f := fun j => dT (p, p + 1 + j)) rfl scAt.nd (ei_is (ei_range2 g.range (ed_add (ed_v 2) ed_int) (ed_v 0) ?_) ?_) (blkOk_by (N := nAt) (sc := defScope sAt) (by decide +kernel)) (line_of (by simp; omega)) (fun _ _ _ _ _ _ _ => ets_nil)
      fun j _ _ _ _ _ _ _ => ed_is (ed_tup (es_cons (ed_v 2) (es_cons (ed_v 3) es_nil)) (line_of (by simp))) ?_) ?_) ?_ (ed_v 1) (eb_nil fun Hb H w => ⟨⟨_, rfl⟩, ?_⟩)
    · omega
    · unfold rngD
      rw [show ((n : Int) - ((p : Int) + 1)).toNat = n - (p + 1) by omega]
    · show D.tup [nI p, D.int ((p : Int) + 1 + (j : Int))] = D.tup [nI p, D.int ((p + 1 + j : Nat) : Int)]
      rw [show ((p + 1 + j : Nat) : Int) = (p : Int) + 1 + (j : Int) by omega]
    · rw [fil1]
      unfold pairRow
      rw [List.map_map]
      rfl
    · rw [List.length_map, List.length_map]
      exact line_of (by omega)
    · rw [pairs_take n p hi, List.map_append]
      exact w
  · refine eb_pr fun ⟨o2, e⟩ => ?_
    subst e
    refine eb_frz 1 (eb_ret (ed_v 1) fun Hb H x => ⟨?_, x⟩)
    rw [List.take_length]
    rfl
/-! ### _law_parted_ties -/
abbrev nPt : List Str := ["_law_parts", "_law_tie"]
theorem scPt : FnScope nPt ["_law_parts"] (defScope sPt) := ⟨rfl, rfl, rfl, by decide +kernel, rfl, by decide +kernel, by decide +kernel⟩
def partF (ps : List Int) (t : Nat × Nat) : Bool := !decide (ps.getD t.1 0 = ps.getD t.2 0)
def phPt (ds : List D) (d : D) : Prop := ∃ ps : List Int, ps.length ≤ 10 ∧ ds = [.lst (ps.map .int)] ∧ d = .lst (((pairsN ps.length).filter (partF ps)).map dT)
theorem fnPt (F : Fun K "_law_parted_ties" "_law_parted_ties" sPt f fd) (g : Gn mg) (cA : Ca P w K mg base 1 "_law_all_ties" phAt) : FnOk P w K mg base CX0 2 f fd ["_law_parts"] (spP K phPt) := by
  refine fn_pure F scPt (fun ds d ⟨_, _, e, _⟩ => by rw [e]; rfl) fun cdv A outer s H E hr ds d hφ Hb0 H0 => ?_
  obtain ⟨ps, hn, rfl, rfl⟩ := hφ
  refine eb_ret (ed_lc1 (xs := pairsN ps.length) dT 1 (p := partF ps) (f := dT) rfl scPt.nd (ei_list (ed_ca cA hr (es_cons (ed_is (ed_lenL g.len (ed_v 0)) (d2 := nI ps.length) (by rw [List.length_map])) es_nil) ⟨ps.length, hn, rfl, rfl⟩)) (blkOk_by (N := nPt) (sc := defScope sPt) (by decide +kernel)) (line_of (by have := pairsN_len hn; omega))
    (fun t ht _ _ _ _ _ => ets_one (et_is (Sm.et_ne (i := ps.getD t.1 0) (j := ps.getD t.2 0) (ed_ixL (n := t.1) (ed_v 0) (ed_ixT (n := 0) (ed_v 1) ed_int rfl) ?_) (ed_ixL (n := t.2) (ed_v 0) (ed_ixT (n := 1) (ed_v 1) ed_int rfl) ?_)) rfl))
    fun t _ _ _ _ _ _ _ => ed_v 1) fun Hb H x => ⟨rfl, x⟩
  · have := pairsN_mem ht
    rw [List.getElem?_map, List.getElem?_eq_getElem (show t.1 < ps.length by omega), List.getD_eq_getElem?_getD, List.getElem?_eq_getElem (show t.1 < ps.length by omega)]
    rfl
  · have := pairsN_mem ht
    rw [List.getElem?_map, List.getElem?_eq_getElem (show t.2 < ps.length by omega), List.getD_eq_getElem?_getD, List.getElem?_eq_getElem (show t.2 < ps.length by omega)]
    rfl
/-! ### _law_ties -/
abbrev nTi : List Str := ["_law_dice_here", "_law_size", "_law_sort", "_law_rows", "_law_ends", "_law_parts", "_law_cut", "_law_inner", "_law_counts_here", "_law_found", "_law_one", "_law_two", "_law_tie", "_law_spot"]
theorem scTi : FnScope nTi ["_law_dice_here", "_law_size", "_law_sort"] (defScope sTi) := ⟨rfl, rfl, rfl, by decide +kernel, rfl, by decide +kernel, by decide +kernel⟩
def tiOk (n : Nat) (t : Nat × Nat) : Prop := t.1 < t.2 ∧ t.2 < n
def tiL (n : Nat) (d : D) : Prop := ∃ ts : List (Nat × Nat), (∀ t ∈ ts, tiOk n t) ∧ ts.length < 64 ∧ d = .lst (ts.map dT)
def phTi (ds : List D) (a : Addr) (G : As) (R : D → Prop) : Prop := ∃ (n : Nat) (s : Int), 1 ≤ n ∧ n ≤ 7 ∧ ds = [.adr a, nI n, .int s] ∧ G = Dc a ∧ R = tiL n
theorem u65 {A : Around} {k : Nat} (hr : Room k A) : A.units + 65 < cLine := by have := hr.un; omega
theorem succD (k : Nat) : D.tup [nI k, .int ((k : Int) + 1)] = dT (k, k + 1) := by
  show _ = D.tup [nI k, D.int ((k + 1 : Nat) : Int)]
  rw [show ((k + 1 : Nat) : Int) = (k : Int) + 1 by omega]
theorem tiL_of {n : Nat} {xs : List (Nat × Nat)} {T : Nat × Nat → Option D → Prop} {d : D} (h : ∃ es, d = .lst es ∧ Trn T xs es) (hT : ∀ x ∈ xs, ∀ r, T x (some r) → ∃ t, tiOk n t ∧ r = dT t) (hz : xs.length < 64) : tiL n d := by
  obtain ⟨es, e, tr⟩ := h
  obtain ⟨ts, e2, q, l⟩ := tr.rel (enc := dT) (Q := tiOk n) hT
  exact ⟨ts, q, by omega, by rw [e, e2]⟩
theorem fnTi (F : Fun K "_law_ties" "_law_ties" sTi f fd) (g : Gn mg) (cR : CaC P w K mg base 1 "_law_roll" phRo) (cA : Ca P w K mg base 1 "_law_all_ties" phAt) (cP : Ca P w K mg base 2 "_law_parted_ties" phPt) (cM : CaC P w K mg base 2 "_law_mixed" phMi) :
    FnOk P w K mg base CX0 3 f fd ["_law_dice_here", "_law_size", "_law_sort"] (spC K phTi) := by
  refine fn_C F scTi (fun ds a G R ⟨_, _, _, _, e, _⟩ => by rw [e]; rfl) fun cdv A outer s H E hr ds a G R hφ Hb0 H0 => ?_
  obtain ⟨n, so, h1, h7, rfl, rfl, rfl⟩ := hφ
  have hz : (pairsN n).length ≤ 45 := pairsN_len (by omega)
  refine eb_set 3 scTi.nd (ed_ca cA (hr.mono (by decide)) (es_cons (ed_v 1) es_nil) ⟨n, by omega, rfl, rfl⟩) ?_
  refine eb_ifRet (b := decide (so = 0)) (Sm.et_eq (ed_v 2) ed_int) (fun _ => ?_) fun _ => ?_
  · refine eb_retW (P := tiL n) (EW.imp (ew_lc (xs := pairsN n) dT (T := fun t o => ∀ r, o = some r → r = dT t) (own := [("_law_tie", 12)]) (g := gName 12) (τ := fun t => (wipeD _ [12]).set 12 (some (dT t))) rfl scTi.nd (ei_list (ed_v 3)) (blkOk_by (N := nTi) (sc := defScope sTi) (by decide +kernel)) (line_of (by omega))
      (pg_own scTi.nd rfl (fun _ _ _ _ _ => ⟨Or.inl rfl, Or.inr rfl⟩)) (fun t _ => tg_name (by simp)) (fun _ _ => True) (fun t d => d = dT t) (fun _ _ _ _ e => nomatch e) (fun t _ r _ e r' e' => by cases e'; exact e) (fun t ht l es _ _ _ _ _ => tws_one ?_) fun t ht _ l es _ _ _ _ _ => ew_ed (ed_v 12)) fun d h => tiL_of h (fun t ht r q => ⟨t, pairsN_mem ht, q r rfl⟩) (by omega)) fun d Hb H p w => ⟨p, w⟩
    show TW _ (Fram K (FrC (Dc a) a (Xt Hb0 H0)) l es) _ _ _
    exact tw_eqI ((ew_ca (a := a) (G := Dc a) cR (hr.mono (by decide)) (es_cons (ed_v 0) (es_cons ed_int es_nil)) ⟨4, by decide, by decide, rfl, rfl, rfl⟩).imp fun d ⟨r, _, _, e⟩ => ⟨r, e⟩) (ew_ed ed_int |>.imp fun d e => ⟨_, e⟩)
  refine eb_ifRet (b := decide (so = 1)) (Sm.et_eq (ed_v 2) ed_int) (fun _ => ?_) fun _ => ?_
  · refine eb_retW (P := tiL n) (EW.imp (ew_lc (xs := pairsN n) dT (T := fun t o => ∀ r, o = some r → r = dT t) (own := [("_law_tie", 12)]) (g := gName 12) (τ := fun t => (wipeD _ [12]).set 12 (some (dT t))) rfl scTi.nd (ei_list (ed_v 3)) (blkOk_by (N := nTi) (sc := defScope sTi) (by decide +kernel)) (line_of (by omega))
      (pg_own scTi.nd rfl (fun _ _ _ _ _ => ⟨Or.inl rfl, Or.inr rfl⟩)) (fun t _ => tg_name (by simp)) (fun _ _ => True) (fun t d => d = dT t) (fun _ _ _ _ e => nomatch e) (fun t _ r _ e r' e' => by cases e'; exact e) (fun t ht l es _ _ _ _ _ => tws_one ?_) fun t ht _ l es _ _ _ _ _ => ew_ed (ed_v 12)) fun d h => tiL_of h (fun t ht r q => ⟨t, pairsN_mem ht, q r rfl⟩) (by omega)) fun d Hb H p w => ⟨p, w⟩
    show TW _ (Fram K (FrC (Dc a) a (Xt Hb0 H0)) l es) _ _ _
    exact tw_eqI ((ew_ca (a := a) (G := Dc a) cR (hr.mono (by decide)) (es_cons (ed_v 0) (es_cons ed_int es_nil)) ⟨2, by decide, by decide, rfl, rfl, rfl⟩).imp fun d ⟨r, _, _, e⟩ => ⟨r, e⟩) (ew_ed ed_int |>.imp fun d e => ⟨_, e⟩)
  refine eb_ifRet (b := decide (so = 2)) (Sm.et_eq (ed_v 2) ed_int) (fun _ => ?_) fun _ => ?_
  · refine eb_setW (P := fun d => ∃ ts : List (Nat × Nat), (∀ t ∈ ts, tiOk n t) ∧ ts.length ≤ 1 ∧ d = .lst (ts.map dT)) 4 scTi.nd (ew_ite (tw_and2 (t := decide ((2 : Int) < (n : Int))) (et_gt (ed_v 1) ed_int) fun _ => ?_) (fun h => ?_) fun _ => ?_) fun d ⟨ts, t1, t2, e⟩ => ?_
    · exact tw_eqI ((ew_ca (a := a) (G := Dc a) cR (hr.mono (by decide)) (es_cons (ed_v 0) (es_cons ed_int es_nil)) ⟨2, by decide, by decide, rfl, rfl, rfl⟩).imp fun d ⟨r, _, _, e⟩ => ⟨r, e⟩) (ew_ed ed_int |>.imp fun d e => ⟨_, e⟩)
    · have h2 : (2 : Int) < (n : Int) := of_decide_eq_true (h rfl)
      refine (ew_ed (ed_lst (es_cons (ed_tup (es_cons ed_int (es_cons (ed_sub (ed_v 1) ed_int) es_nil)) (line_of (by simp))) es_nil) (line_of (by simp)))).imp fun d e => ⟨[(0, n - 1)], fun t ht => ?_, by simp, ?_⟩
      · rw [List.mem_singleton.mp ht]
        exact ⟨show 0 < n - 1 by omega, show n - 1 < n by omega⟩
      · rw [e]
        show D.lst [D.tup [.int 0, .int ((n : Int) - 1)]] = D.lst [D.tup [.int 0, .int ((n - 1 : Nat) : Int)]]
        rw [show ((n - 1 : Nat) : Int) = (n : Int) - 1 by omega]
    · exact (ew_ed (ed_lst es_nil (line_of (by simp)))).imp fun d e => ⟨[], (fun t ht => nomatch ht), Nat.zero_le _, e⟩
    · subst e
      refine eb_ret (d := .lst ((((List.range (n - 1)).map fun k => (k, k + 1)) ++ ts).map dT)) (ed_is (ed_catL (ed_lc1 (xs := List.range (n - 1)) nI 13 (p := fun _ => true) (f := fun k => dT (k, k + 1)) rfl scTi.nd (ei_is (ei_range1 (n := n - 1) g.range (ed_is (ed_sub (ed_v 1) ed_int) ?_) (by omega)) (rngD_0 (n - 1))) (blkOk_by (N := nTi) (sc := defScope sTi) (by decide +kernel)) (line_of (by simp; omega)) (fun _ _ _ _ _ _ _ => ets_nil)
        fun k _ _ _ _ _ _ _ => ed_is (ed_tup (es_cons (ed_v 13) (es_cons (ed_add (ed_v 13) ed_int) es_nil)) (line_of (by simp))) (succD k)) (ed_v 4) ?_) ?_) fun Hb H x => ⟨⟨_, fun t ht => ?_, ?_, rfl⟩, x⟩
      · rw [show ((n - 1 : Nat) : Int) = (n : Int) - 1 by omega]
      · rw [fil1, List.length_map, List.length_map, List.length_range]
        exact line_of (by omega)
      · rw [fil1, List.map_append, List.map_map]
        rfl
      · rcases List.mem_append.mp ht with z | z
        · obtain ⟨k, hk, rfl⟩ := List.mem_map.mp z
          have := List.mem_range.mp hk
          exact ⟨Nat.lt_succ_self k, show k + 1 < n by omega⟩
        · exact t1 t z
      · rw [List.length_append, List.length_map, List.length_range]
        omega
  refine eb_ifRet (b := decide (so = 3)) (Sm.et_eq (ed_v 2) ed_int) (fun _ => ?_) fun _ => ?_
  · refine eb_retW (P := tiL n) (EW.imp (ew_lc (xs := List.range (n - 1)) (fun k : Nat => D.int (1 + (k : Int))) (T := fun k o => ∀ r, o = some r → ∃ t, tiOk n t ∧ r = dT t) (own := [("_law_spot", 13)]) (g := gName 13) (τ := fun k => (wipeD _ [13]).set 13 (some (.int (1 + (k : Int))))) rfl scTi.nd (ei_is (ei_range2 g.range ed_int (ed_v 1) (by omega)) ?_) (blkOk_by (N := nTi) (sc := defScope sTi) (by decide +kernel)) (line_of (by simp; omega))
      (pg_own scTi.nd rfl (fun _ _ _ _ _ => ⟨Or.inl rfl, Or.inr rfl⟩)) (fun t _ => tg_name (by simp)) (fun _ b => b = true) (fun k d => ∃ t, tiOk n t ∧ d = dT t) (fun _ _ e => nomatch e) (fun k _ r _ e r' e' => by cases e'; exact e) (fun t ht l es _ _ _ _ _ => tws_nil) fun k hk _ l es _ _ _ _ _ => ?_) fun d ⟨es, e, tr⟩ => ?_) fun d Hb H p w => ⟨p, w⟩
    · unfold rngD
      rw [show ((n : Int) - 1).toNat = n - 1 by omega]
    · have hk2 := List.mem_range.mp hk
      show EW _ (Fram K (FrC (Dc a) a (Xt Hb0 H0)) l es) _ _ _
      refine EW.imp (ew_tup (Φ := fun ds => ∃ v : Nat, v < 1 + k ∧ ds = [.int (v : Int), .int (1 + (k : Int))]) (ews_cons (P := fun d => ∃ v : Nat, v < 1 + k ∧ d = .int (v : Int)) (Φ := (· = [.int (1 + (k : Int))])) (ew_2 (pe_op op_mul pe_sm pe_sm) (ew_ca (a := a) (G := Dc a) cR (hr.mono (by decide)) (es_cons (ed_v 0) (es_cons (ed_v 13) es_nil)) ⟨1 + (k : Int), by omega, by omega, rfl, rfl, rfl⟩)
        (ew_intB g.int (ew_gtI ((ew_ca (a := a) (G := Dc a) cR (hr.mono (by decide)) (es_cons (ed_v 0) (es_cons ed_int es_nil)) ⟨3, by decide, by decide, rfl, rfl, rfl⟩).imp fun d ⟨r, _, _, e⟩ => ⟨r, e⟩) (ew_ed ed_int |>.imp fun d e => ⟨_, e⟩))) ?_) (ews_cons (Φ := (· = [])) (ew_ed (ed_v 13)) ews_nil ?_) ?_) ?_) ?_
      · rintro d1 d2 ⟨r, r1, r2, rfl⟩ z
        rcases z with rfl | rfl
        · exact ⟨.int 0, ⟨0, by omega, rfl⟩, by have h := @rd_I K (.int (r * 0)) _ (fun i j => .int (i * j)) r 0 (mulL (i := r) (j := 0) (by omega) (by omega)) (fun _ => is_int.mpr rfl); rwa [Int.mul_zero] at h⟩
        · exact ⟨.int r, ⟨r.toNat, by omega, by rw [Int.toNat_of_nonneg r1]⟩, by have h := @rd_I K (.int (r * 1)) _ (fun i j => .int (i * j)) r 1 (mulL (i := r) (j := 1) (by omega) (by omega)) (fun _ => is_int.mpr rfl); rwa [Int.mul_one] at h⟩
      · exact fun d ds e1 e2 => by rw [e1, e2]
      · exact fun d ds ⟨v, v1, e1⟩ e2 => ⟨v, v1, by rw [e1, e2]⟩
      · exact fun ds ⟨v, _, e⟩ => by rw [e]; exact line_of (by simp)
      · rintro d ⟨ds, ⟨v, v1, e1⟩, e⟩
        refine ⟨(v, 1 + k), ⟨v1, show 1 + k < n by omega⟩, ?_⟩
        rw [e, e1]
        show _ = D.tup [.int (v : Int), .int ((1 + k : Nat) : Int)]
        rw [show ((1 + k : Nat) : Int) = 1 + (k : Int) by omega]
    · obtain ⟨ts, e2, q, l⟩ := tr.rel (enc := dT) (Q := tiOk n) fun x _ r t => t r rfl
      exact ⟨ts, q, by rw [List.length_range] at l; omega, by rw [e, e2]⟩
  refine eb_ifRet (b := decide (so = 4)) (Sm.et_eq (ed_v 2) ed_int) (fun _ => ?_) fun _ => ?_
  · refine eb_setLcW (xs := List.range n) nI 5 (T := fun k o => ∃ r, o = some r ∧ anI r) (own := [("_law_spot", 13)]) (g := gName 13) (τ := fun k => (wipeD _ [13]).set 13 (some (nI k))) rfl scTi.nd (ei_is (ei_range1 g.range (ed_v 1) (by omega)) (rngD_0 n)) (blkOk_by (N := nTi) (sc := defScope sTi) (by decide +kernel)) (line_of (by simp; omega))
      (pg_own scTi.nd rfl (fun _ _ _ _ _ => ⟨Or.inl rfl, Or.inr rfl⟩)) (fun t _ => tg_name (by simp)) (fun _ b => b = true) (fun _ d => anI d) (fun _ _ e => nomatch e) (fun _ _ r _ e => ⟨r, rfl, e⟩) (fun t ht l es _ _ _ _ _ => tws_nil) (fun k hk _ l es _ _ _ _ _ => ?_) fun es tr => ?_
    · show EW _ (Fram K (FrC (Dc a) a (Xt Hb0 H0)) l es) _ _ _
      exact (ew_ca (a := a) (G := Dc a) cR (hr.mono (by decide)) (es_cons (ed_v 0) (es_cons ed_int es_nil)) ⟨3, by decide, by decide, rfl, rfl, rfl⟩).imp fun d ⟨r, _, _, e⟩ => ⟨r, e⟩
    · obtain ⟨ps, e2, _, _⟩ := tr.rel (enc := D.int) (Q := fun _ => True) fun x _ r ⟨r', e1, i, e2⟩ => ⟨i, trivial, by cases e1; exact e2⟩
      have hl := tr.len_eq fun x _ ⟨r, e, _⟩ => nomatch e
      rw [e2, List.length_map, List.length_range] at hl
      subst e2
      refine eb_ret (ed_ca cP hr (es_cons (ed_v 5) es_nil) ⟨ps, by omega, rfl, rfl⟩) fun Hb H x => ⟨⟨_, fun t ht => ?_, ?_, rfl⟩, x⟩
      · have := pairsN_mem (List.mem_filter.mp ht).1
        rw [hl] at this
        exact this
      · have h1 := List.length_filter_le (partF ps) (pairsN ps.length)
        rw [hl] at h1 ⊢
        omega
  refine eb_ifRet (b := decide (so = 5)) (Sm.et_eq (ed_v 2) ed_int) (fun _ => ?_) fun _ => ?_
  · refine eb_setLcW (xs := List.range n) nI 5 (T := fun k o => ∃ r, o = some r ∧ anI r) (own := [("_law_spot", 13)]) (g := gName 13) (τ := fun k => (wipeD _ [13]).set 13 (some (nI k))) rfl scTi.nd (ei_is (ei_range1 g.range (ed_v 1) (by omega)) (rngD_0 n)) (blkOk_by (N := nTi) (sc := defScope sTi) (by decide +kernel)) (line_of (by simp; omega))
      (pg_own scTi.nd rfl (fun _ _ _ _ _ => ⟨Or.inl rfl, Or.inr rfl⟩)) (fun t _ => tg_name (by simp)) (fun _ b => b = true) (fun _ d => anI d) (fun _ _ e => nomatch e) (fun _ _ r _ e => ⟨r, rfl, e⟩) (fun t ht l es _ _ _ _ _ => tws_nil) (fun k hk _ l es _ _ _ _ _ => ?_) fun es tr => ?_
    · show EW _ (Fram K (FrC (Dc a) a (Xt Hb0 H0)) l es) _ _ _
      exact (ew_ca (a := a) (G := Dc a) cR (hr.mono (by decide)) (es_cons (ed_v 0) (es_cons ed_int es_nil)) ⟨2, by decide, by decide, rfl, rfl, rfl⟩).imp fun d ⟨r, _, _, e⟩ => ⟨r, e⟩
    · obtain ⟨ps, e2, _, _⟩ := tr.rel (enc := D.int) (Q := fun _ => True) fun x _ r ⟨r', e1, i, e2⟩ => ⟨i, trivial, by cases e1; exact e2⟩
      have hl := tr.len_eq fun x _ ⟨r, e, _⟩ => nomatch e
      rw [e2, List.length_map, List.length_range] at hl
      subst e2
      have hpl : ((pairsN ps.length).filter (partF ps)).length ≤ 45 := by
        have h1 := List.length_filter_le (partF ps) (pairsN ps.length)
        rw [hl] at h1 ⊢
        omega
      refine eb_retW (P := tiL n) (EW.imp (ew_lc (xs := (pairsN ps.length).filter (partF ps)) dT (T := fun t o => ∀ r, o = some r → r = dT t) (own := [("_law_tie", 12)]) (g := gName 12) (τ := fun t => (wipeD _ [12]).set 12 (some (dT t))) rfl scTi.nd (ei_list (ed_ca cP hr (es_cons (ed_v 5) es_nil) ⟨ps, by omega, rfl, rfl⟩)) (blkOk_by (N := nTi) (sc := defScope sTi) (by decide +kernel)) (line_of (by omega))
        (pg_own scTi.nd rfl (fun _ _ _ _ _ => ⟨Or.inl rfl, Or.inr rfl⟩)) (fun t _ => tg_name (by simp)) (fun _ _ => True) (fun t d => d = dT t) (fun _ _ _ _ e => nomatch e) (fun t _ r _ e r' e' => by cases e'; exact e) (fun t ht l es _ _ _ _ _ => tws_one ?_) fun t ht _ l es _ _ _ _ _ => ew_ed (ed_v 12)) fun d h => tiL_of h (fun t ht r q => ⟨t, ?_, q r rfl⟩) (by omega)) fun d Hb H p w => ⟨p, w⟩
      · show TW _ (Fram K (FrC (Dc a) a (Xt Hb0 H0)) l es) _ _ _
        exact tw_gtI ((ew_ca (a := a) (G := Dc a) cR (hr.mono (by decide)) (es_cons (ed_v 0) (es_cons ed_int es_nil)) ⟨3, by decide, by decide, rfl, rfl, rfl⟩).imp fun d ⟨r, _, _, e⟩ => ⟨r, e⟩) (ew_ed ed_int |>.imp fun d e => ⟨_, e⟩)
      · have := pairsN_mem (List.mem_filter.mp ht).1
        rw [hl] at this
        exact this
  refine eb_ifRet (b := decide (so = 6)) (Sm.et_eq (ed_v 2) ed_int) (fun _ => ?_) fun _ => ?_
  · refine eb_setW (P := anI) 6 scTi.nd ((ew_ca (a := a) (G := Dc a) cR (hr.mono (by decide)) (es_cons (ed_v 0) (es_cons (ed_add (ed_v 1) ed_int) es_nil)) ⟨(n : Int) + 1, by omega, by omega, rfl, rfl, rfl⟩).imp fun d ⟨r, _, _, e⟩ => ⟨r, e⟩) fun d ⟨cut, e⟩ => ?_
    subst e
    refine eb_set 7 scTi.nd (ed_lc1 (xs := pairsN n) dT 12 (p := fun t => decide (decide ((t.1 : Int) < cut) = decide ((t.2 : Int) < cut))) (f := dT) rfl scTi.nd (ei_list (ed_v 3)) (blkOk_by (N := nTi) (sc := defScope sTi) (by decide +kernel)) (line_of (by omega))
      (fun t _ _ _ _ _ _ => ets_one (Eqd.bl.et_eq hr.units (by decide) _ _ (Sm.ed_lt (ed_ixT (n := 0) (ed_v 12) ed_int rfl) (ed_v 6)) (Sm.ed_lt (ed_ixT (n := 1) (ed_v 12) ed_int rfl) (ed_v 6)))) (fun t _ _ _ _ _ _ _ => ed_v 12)) ?_
    have hil : ((pairsN n).filter fun t => decide (decide ((t.1 : Int) < cut) = decide ((t.2 : Int) < cut))).length ≤ 45 := Nat.le_trans (List.length_filter_le _ _) hz
    generalize hin : (pairsN n).filter (fun t => decide (decide ((t.1 : Int) < cut) = decide ((t.2 : Int) < cut))) = inner at hil
    have hin2 : ∀ t ∈ inner, tiOk n t := fun t ht => by rw [← hin] at ht; exact pairsN_mem (List.mem_filter.mp ht).1
    have hin3 : inner.length ≤ 21 := by
      have h21 : ∀ m ∈ List.range 8, (pairsN m).length ≤ 21 := by decide +kernel
      rw [← hin]
      exact Nat.le_trans (List.length_filter_le _ _) (h21 n (List.mem_range.mpr (by omega)))
    have h21 : (pairsN n).length ≤ 21 := by
      have h21 : ∀ m ∈ List.range 8, (pairsN m).length ≤ 21 := by decide +kernel
      exact h21 n (List.mem_range.mpr (by omega))
    refine eb_retW (P := tiL n) (ew_catL (ew_ed (ed_v 7)) (Q := fun d => ∃ ts : List (Nat × Nat), (∀ t ∈ ts, tiOk n t) ∧ ts.length ≤ 21 ∧ d = .lst (ts.map dT)) (EW.imp (ew_lc (xs := pairsN n) dT (T := fun t o => ∀ r, o = some r → r = dT t) (own := [("_law_tie", 12)]) (g := gName 12) (τ := fun t => (wipeD _ [12]).set 12 (some (dT t))) rfl scTi.nd (ei_list (ed_v 3)) (blkOk_by (N := nTi) (sc := defScope sTi) (by decide +kernel)) (line_of (by omega))
      (pg_own scTi.nd rfl (fun _ _ _ _ _ => ⟨Or.inl rfl, Or.inr rfl⟩)) (fun t _ => tg_name (by simp)) (fun _ _ => True) (fun t d => d = dT t) (fun _ _ _ _ e => nomatch e) (fun t _ r _ e r' e' => by cases e'; exact e) (fun t ht l es _ _ _ _ _ => tws_one ?_) fun t ht _ l es _ _ _ _ _ => ew_ed (ed_v 12)) fun d ⟨es, e, tr⟩ => ?_) ?_) fun d Hb H p w => ⟨p, w⟩
    · show TW _ (Fram K (FrC (Dc a) a (Xt Hb0 H0)) l es) _ _ _
      refine TW.imp (tw_and2 (Eqd.et_notin (Eqd.pair Eqd.nat Eqd.nat) (u65 hr) (by decide) t inner (ed_v 12) (ed_v 7)) fun _ => ?_) fun _ _ => trivial
      exact tw_eqI ((ew_ca (a := a) (G := Dc a) cR (hr.mono (by decide)) (es_cons (ed_v 0) (es_cons ed_int es_nil)) ⟨8, by decide, by decide, rfl, rfl, rfl⟩).imp fun d ⟨r, _, _, e⟩ => ⟨r, e⟩) (ew_ed ed_int |>.imp fun d e => ⟨_, e⟩)
    · obtain ⟨ts, e2, q, l⟩ := tr.rel (enc := dT) (Q := tiOk n) fun x hx r t => ⟨x, pairsN_mem hx, t r rfl⟩
      exact ⟨ts, q, by omega, by rw [e, e2]⟩
    · rintro d1 d2 rfl ⟨ts, t1, t2, rfl⟩
      refine ⟨_, _, rfl, rfl, ?_, inner ++ ts, ?_, ?_, ?_⟩
      · rw [List.length_map, List.length_map]; exact line_of (by omega)
      · intro t ht
        rcases List.mem_append.mp ht with z | z
        · exact hin2 t z
        · exact t1 t z
      · rw [List.length_append]; omega
      · rw [List.map_append]
  refine eb_parN 8 9 rfl scTi.nd (en_rep ed_int (ed_v 1) (by omega)) (en_lst es_nil (line_of (by simp))) fun l1 l2 => ?_
  refine eb_forW (Ψ := fun xs => xs.Perm (pairsN n)) dT (g := gTup _ 2 (gCons (gName 10) (gCons (gName 11) gNil))) (τ := fun ρ t => (ρ.set 10 (some (nI t.1))).set 11 (some (nI t.2)))
    (fun xs i ρ' => Pr (∃ o10 o11, ρ' = [some (.adr a), some (nI n), some (.int so), some (.lst ((pairsN n).map dT)), none, none, none, none, some (.adr l1), some (.adr l2), o10, o11, none, none])
      (Exs fun q : List Int × List (Nat × Nat) => Pr (q.1.length = n ∧ (∀ t ∈ q.2, tiOk n t) ∧ q.2.length ≤ i) (Fram K (Fram K (FrC (Dc a) a (Xt Hb0 H0)) l1 (q.1.map .int)) l2 (q.2.map dT)))) (passOwn rfl) rfl ?_
    (pg_tup rfl (pgs_cons (pg_name (i := 10) scTi.nd rfl (Or.inl rfl)) (pgs_cons (pg_name (i := 11) scTi.nd rfl (Or.inl rfl)) pgs_nil)) rfl rfl) (fun xs _ t _ ρ Hb H σ x e I q Q k => ?_) (fun xs hp Hb H w => ?_) (fun xs hp i t ht ρ' => ?_) fun xs hp ρ' => ?_
  · show EW _ (Fram K (Fram K (FrC (Dc a) a (Xt Hb0 H0)) l1 _) l2 _) _ _ _
    exact ew_ca (a := a) (G := Dc a) cM hr (es_cons (ed_v 0) (es_cons (ed_v 3) es_nil)) ⟨Nat × Nat, dT, Eqd.pair Eqd.nat Eqd.nat, inferInstance, pairsN n, by decide, by omega, rfl, rfl, rfl⟩
  · obtain ⟨b, ys, rfl, hb, hy⟩ := is_tup.mp q
    obtain ⟨v, u, rfl, z1, z2⟩ := es_two hy
    exact ⟨b, [v, u], rfl, Evl.ex_t e hb, rfl, v, [u], rfl, u, [], rfl, rfl, k _ ((I.set 10 z1).set 11 z2)⟩
  · refine ⟨⟨none, none, rfl⟩, (List.replicate n 0, []), ⟨List.length_replicate, (fun t ht => nomatch ht), Nat.le_refl _⟩, ?_⟩
    rw [List.map_replicate]
    exact w
  · refine eb_pr fun ⟨o10, o11, e⟩ => eb_exs fun ⟨cs, ts⟩ => eb_pr fun ⟨hc, ht2, hl⟩ => ?_
    subst e
    have hc : cs.length = n := hc
    have hl : ts.length ≤ i := hl
    have ht2 : ∀ t ∈ ts, tiOk n t := ht2
    have ht3 := pairsN_mem (hp.mem_iff.mp (List.mem_of_getElem? ht))
    have hi : i < xs.length := (List.getElem?_eq_some_iff.mp ht).1
    have hxl : xs.length ≤ 45 := by rw [hp.length_eq]; exact hz
    have g1 : (cs.map D.int)[t.1]? = some (.int cs[t.1]) := by rw [List.getElem?_map, List.getElem?_eq_getElem (show t.1 < cs.length by omega)]; rfl
    have g2 : (cs.map D.int)[t.2]? = some (.int cs[t.2]) := by rw [List.getElem?_map, List.getElem?_eq_getElem (show t.2 < cs.length by omega)]; rfl
    refine eb_ifW (T := fun _ => True) (TW.pre (W := Fram K (Fram K (FrC (Dc a) a (Xt Hb0 H0)) l2 (ts.map dT)) l1 (cs.map .int)) (TW.imp (tw_frz 8 (eo_et (eo_and (et_lt (ed_ixL (n := t.1) (ed_v 8) (ed_v 10) g1) ed_int) fun _ => eo_and1 (et_lt (ed_ixL (n := t.2) (ed_v 8) (ed_v 11) g2) ed_int)))) fun _ _ => trivial) (fun _ _ => Fram.swap) (fun _ _ => Fram.swap)) (fun _ => ?_)
      (fun _ => eb_nil fun Hb H w => ⟨⟨_, _, rfl⟩, (cs, ts), ⟨hc, ht2, Nat.le_succ_of_le hl⟩, w⟩) fun ρ' => eb_nil fun Hb H w => w
    refine eb_appW (ew_ed (ed_tup (es_cons (ed_v 10) (es_cons (ed_v 11) es_nil)) (line_of (by simp)))) (by rw [List.length_map]; exact small1000 (by omega)) (ed_v 9) fun d e => ?_
    subst e
    refine EB.pre (W := Fram K (Fram K (FrC (Dc a) a (Xt Hb0 H0)) l2 (ts.map dT ++ [dT t])) l1 (cs.map .int)) ?_ (fun _ _ => Fram.swap)
    refine eb_putW (n := t.1) (ew_frz 8 (ed_add (ed_ixL (n := t.1) (ed_v 8) (ed_v 10) g1) ed_int) sc_int) (ed_v 8) (ed_v 10) (by rw [List.length_map, hc]; omega) fun d e => ?_
    subst e
    rw [← List.map_set]
    generalize cs[t.1] + 1 = v1
    have hc2 : (cs.set t.1 v1).length = n := by rw [List.length_set]; exact hc
    have g3 : ((cs.set t.1 v1).map D.int)[t.2]? = some (.int (cs.set t.1 v1)[t.2]) := by rw [List.getElem?_map, List.getElem?_eq_getElem (show t.2 < (cs.set t.1 v1).length by omega)]; rfl
    refine eb_putW (n := t.2) (ew_frz 8 (ed_add (ed_ixL (n := t.2) (ed_v 8) (ed_v 11) g3) ed_int) sc_int) (ed_v 8) (ed_v 11) (by rw [List.length_map, hc2]; omega) fun d e => ?_
    subst e
    rw [← List.map_set]
    generalize (cs.set t.1 v1)[t.2] + 1 = v2
    have hc3 : ((cs.set t.1 v1).set t.2 v2).length = n := by rw [List.length_set]; exact hc2
    refine eb_nil fun Hb H w => ⟨⟨_, _, rfl⟩, ((cs.set t.1 v1).set t.2 v2, ts ++ [t]), ⟨hc3, fun z hz => ?_, ?_⟩, ?_⟩
    · rcases List.mem_append.mp hz with q | q
      · exact ht2 z q
      · rw [List.mem_singleton.mp q]; exact ht3
    · show (ts ++ [t]).length ≤ i + 1
      rw [List.length_append, List.length_singleton]; omega
    · show Fram K (Fram K _ l1 _) l2 ((ts ++ [t]).map dT) Hb H
      rw [List.map_append]
      exact w.swap
  · refine eb_pr fun ⟨o10, o11, e⟩ => eb_exs fun ⟨cs, ts⟩ => eb_pr fun ⟨hc, ht2, hl⟩ => ?_
    subst e
    have hl : ts.length ≤ xs.length := hl
    have hxl : xs.length ≤ 45 := by rw [hp.length_eq]; exact hz
    exact eb_frz 9 (eb_frz 8 (eb_ret (ed_v 9) fun Hb H w => ⟨⟨ts, ht2, by omega, rfl⟩, w⟩))
end
end Fa
set_option maxHeartbeats 4000000
/-! Fa9: the law's web. -/
namespace Fa
open PySem PySem.Spec PyProof.Rows L2 Sm Tx

section
variable {P : Program} {w : World} {K : PySem.W.Frag} {mg : Str → Option Value} {base : Heap} {f CW : Addr} {fd : FuncData}
/-! ### _law_web -/
abbrev nWb : List Str := ["_law_dice_here", "_law_least", "_law_most", "_law_size", "_law_found", "_law_order", "_law_turned", "_law_one", "_law_two"]
theorem scWb : FnScope nWb ["_law_dice_here", "_law_least", "_law_most"] (defScope sWb) := ⟨rfl, rfl, rfl, by decide +kernel, rfl, by decide +kernel, by decide +kernel⟩
/-- a web as the law lays it -/
def plainD (n : Nat) (ts : List (Nat × Nat)) : D := .dct [(.inr "size", nI n), (.inr "ties", .lst (ts.map dT))]
def phWb (ds : List D) (a : Addr) (G : As) (R : D → Prop) : Prop := ds = [.adr a, .int 1, .int 7] ∧ G = Dc a ∧ R = fun d => ∃ (n : Nat) (ts : List (Nat × Nat)), WebOk n ts ∧ n ≤ 7 ∧ d = plainD n ts
theorem mem_pairsN {n : Nat} {t : Nat × Nat} (h1 : t.1 < t.2) (h2 : t.2 < n) : t ∈ pairsN n :=
  List.mem_flatMap.mpr ⟨t.1, List.mem_range.mpr (by omega), List.mem_map.mpr ⟨t.2 - (t.1 + 1), List.mem_range.mpr (by omega), Prod.ext rfl (show t.1 + 1 + (t.2 - (t.1 + 1)) = t.2 by omega)⟩⟩
instance ltP2Dec (s t : Nat × Nat) : Decidable (ltP2 s t) := by unfold ltP2; infer_instance
theorem pairsN_asc {n : Nat} (h : n ≤ 10) : (pairsN n).Pairwise ltP2 := by
  have hh : ∀ n ∈ List.range 11, (pairsN n).Pairwise ltP2 := by decide +kernel
  exact hh n (List.mem_range.mpr (by omega))
theorem ltT_of {s t : Nat × Nat} (h : ltP2 s t) : ltT s t = true := by
  unfold ltT
  unfold ltP2 at h
  rcases h with h | ⟨h1, h2⟩
  · have : (s.1 : Int) < (t.1 : Int) := by omega
    simp [HT.lexLt, h]
    exact .inl (by omega)
  · simp [HT.lexLt, h1, h2]
    omega
theorem ascT_of : ∀ {ts : List (Nat × Nat)}, ts.Pairwise ltP2 → ascT ts = true
  | [], _ => rfl
  | [_], _ => rfl
  | s :: t :: ts, h => by
    rw [List.pairwise_cons] at h
    have ih := ascT_of h.2
    unfold ascT at ih ⊢
    rw [List.drop_succ_cons, List.drop_zero, List.zip_cons_cons, List.all_cons, ltT_of (h.1 t List.mem_cons_self)]
    rw [List.drop_succ_cons, List.drop_zero] at ih
    exact ih
def oF (ys : List Nat) (t : Nat × Nat) : Nat × Nat := (min (ys.getD t.1 0) (ys.getD t.2 0), max (ys.getD t.1 0) (ys.getD t.2 0))
theorem oF_D (i j : Nat) : D.tup [.int (if (j : Int) < (i : Int) then (j : Int) else (i : Int)), .int (if (j : Int) > (i : Int) then (j : Int) else (i : Int))] = dT (min i j, max i j) := by
  show _ = D.tup [.int ((min i j : Nat) : Int), .int ((max i j : Nat) : Int)]
  congr 3
  · congr 1; split <;> omega
  · congr 2; split <;> omega
theorem fnWb (F : Fun K "_law_web" "_law_web" sWb f fd) (g : Gn mg) (cR : CaC P w K mg base 1 "_law_roll" phRo) (cM : CaC P w K mg base 2 "_law_mixed" phMi) (cT : CaC P w K mg base 3 "_law_ties" phTi) : FnOk P w K mg base CX0 4 f fd ["_law_dice_here", "_law_least", "_law_most"] (spC K phWb) := by
  refine fn_C F scWb (fun ds a G R ⟨e, _⟩ => by rw [e]; rfl) fun cdv A outer s H E hr ds a G R hφ Hb0 H0 => ?_
  obtain ⟨rfl, rfl, rfl⟩ := hφ
  refine eb_setW (P := fun d => ∃ n : Nat, 1 ≤ n ∧ n ≤ 7 ∧ d = nI n) 3 scWb.nd (ew_2 (pe_op op_add pe_sm pe_sm) (ew_ed (ed_v 1)) (ew_ca (a := a) (G := Dc a) cR (hr.mono (by decide)) (es_cons (ed_v 0) (es_cons (ed_add (ed_sub (ed_v 2) (ed_v 1)) ed_int) es_nil)) ⟨7, by decide, by decide, rfl, rfl, rfl⟩) ?_) fun d ⟨n, n1, n7, e⟩ => ?_
  · rintro d1 d2 rfl ⟨r, r1, r2, rfl⟩
    refine ⟨nI (r.toNat + 1), ⟨r.toNat + 1, by omega, by omega, rfl⟩, ?_⟩
    have h := @rd_I0 K (.int (1 + r)) (fun i j => .int (i + j)) 1 r (fun _ => is_int.mpr rfl)
    rwa [show (1 + r : Int) = ((r.toNat + 1 : Nat) : Int) by omega] at h
  subst e
  refine eb_setW (P := tiL n) 4 scWb.nd (ew_caW (t := a) (G := Dc a) (Φ := fun ds => ∃ r : Int, ds = [.adr a, nI n, .int r]) cT hr (ews_cons (Φ := fun ds => ∃ r : Int, ds = [nI n, .int r]) (ew_ed (ed_v 0)) (ews_cons (Φ := fun ds => ∃ r : Int, ds = [.int r]) (ew_ed (ed_v 3)) (ews_cons (Φ := (· = []))
    (ew_ca (a := a) (G := Dc a) cR (hr.mono (by decide)) (es_cons (ed_v 0) (es_cons ed_int es_nil)) ⟨8, by decide, by decide, rfl, rfl, rfl⟩) ews_nil ?_) ?_) ?_) ?_) fun d ⟨ts, t1, t2, e⟩ => ?_
  · exact fun d ds ⟨r, _, _, e1⟩ e2 => ⟨r, by rw [e1, e2]⟩
  · exact fun d ds e1 ⟨r, e2⟩ => ⟨r, by rw [e1, e2]⟩
  · exact fun d ds e1 ⟨r, e2⟩ => ⟨r, by rw [e1, e2]⟩
  · exact fun ds ⟨r, e⟩ => ⟨n, r, n1, n7, e, rfl, rfl⟩
  subst e
  refine eb_setW (P := fun d => ∃ ys : List Nat, ys.Perm (List.range n) ∧ d = .lst (ys.map nI)) 5 scWb.nd (ew_ca (a := a) (G := Dc a) cM (hr.mono (by decide)) (es_cons (ed_v 0) (es_cons (ed_listRg rfl g.list g.range (ed_v 3) (by omega)) es_nil)) ⟨Nat, nI, Eqd.nat, inferInstance, List.range n, by decide, by simp; omega, rfl, rfl, rfl⟩) fun d ⟨ys, y1, e⟩ => ?_
  subst e
  have hyl : ys.length = n := by rw [y1.length_eq, List.length_range]
  have gy : ∀ i, i < n → (ys.map nI)[i]? = some (nI (ys.getD i 0)) := fun i hi => by
    rw [List.getElem?_map, List.getD_eq_getElem?_getD, List.getElem?_eq_getElem (show i < ys.length by omega)]; rfl
  refine eb_setLc (xs := ts) dT 6 (p := fun _ => true) (f := fun t => dT (oF ys t)) (own := [("_law_one", 7), ("_law_two", 8)]) (g := gTup _ 2 (gCons (gName 7) (gCons (gName 8) gNil))) (τ := fun t => ((wipeD _ [7, 8]).set 7 (some (nI t.1))).set 8 (some (nI t.2))) rfl scWb.nd (ei_list (ed_v 4)) (blkOk_by (N := nWb) (sc := defScope sWb) (by decide +kernel)) (line_of (by omega))
    (pg_own2 rfl scWb.nd rfl rfl (fun _ _ _ _ _ => ⟨Or.inl rfl, Or.inr rfl⟩) (fun _ _ _ _ _ => ⟨Or.inl rfl, Or.inr rfl⟩) (fun _ _ _ _ _ => rfl) (fun _ _ _ _ _ => rfl)) (fun t _ => tg_pair (by simp) (by simp)) (fun _ _ _ _ _ _ _ => ets_nil) (fun t ht _ _ _ _ _ _ => ?_) ?_
  · have h1 := t1 t ht
    have a1 := gy t.1 (Nat.lt_trans h1.1 h1.2)
    have a2 := gy t.2 h1.2
    exact ed_is (ed_tup (es_cons (ed_min2 rfl g.min (ed_ixL (n := t.1) (ed_v 5) (ed_v 7) a1) (ed_ixL (n := t.2) (ed_v 5) (ed_v 8) a2)) (es_cons (ed_max2 rfl g.max (ed_ixL (n := t.1) (ed_v 5) (ed_v 7) a1) (ed_ixL (n := t.2) (ed_v 5) (ed_v 8) a2)) es_nil)) (line_of (by simp))) (oF_D _ _)
  rw [fil1]
  have hl : ∀ z ∈ ts.map (oF ys), z.1 < z.2 ∧ z.2 < n := fun z hz => by
    obtain ⟨t, ht, rfl⟩ := List.mem_map.mp hz
    have h1 := t1 t ht
    have nd : ys.Nodup := y1.nodup_iff.mpr List.nodup_range
    have l1 : t.1 < ys.length := by have := h1.1; have := h1.2; omega
    have l2 : t.2 < ys.length := by have := h1.2; omega
    have m1 : ys.getD t.1 0 < n := by
      rw [List.getD_eq_getElem?_getD, List.getElem?_eq_getElem l1]
      exact List.mem_range.mp (y1.mem_iff.mp (List.getElem_mem l1))
    have m2 : ys.getD t.2 0 < n := by
      rw [List.getD_eq_getElem?_getD, List.getElem?_eq_getElem l2]
      exact List.mem_range.mp (y1.mem_iff.mp (List.getElem_mem l2))
    have ne : ys.getD t.1 0 ≠ ys.getD t.2 0 := by
      rw [List.getD_eq_getElem?_getD, List.getD_eq_getElem?_getD, List.getElem?_eq_getElem l1, List.getElem?_eq_getElem l2]
      intro z
      have := (List.getElem_inj nd).mp z
      have := h1.1
      omega
    unfold oF
    show min _ _ < max _ _ ∧ max _ _ < n
    omega
  have hus : ∀ z, z ∈ (pairsN n).filter (fun z => decide (z ∈ ts.map (oF ys))) ↔ z ∈ ts.map (oF ys) := fun z => by
    rw [List.mem_filter, decide_eq_true_iff]
    exact ⟨fun h => h.2, fun h => ⟨mem_pairsN (hl z h).1 (hl z h).2, h⟩⟩
  have hasc : ((pairsN n).filter (fun z => decide (z ∈ ts.map (oF ys)))).Pairwise ltP2 := (pairsN_asc (by omega)).sublist List.filter_sublist
  refine eb_ret (ed_disp2 (K1 := .inr "size") (K2 := .inr "ties") ed_str (ed_v 3) ed_str (ed_sortSet (ts.map (oF ys)) ((pairsN n).filter (fun z => decide (z ∈ ts.map (oF ys)))) rfl hr.units g.sorted g.set (ed_is (ed_v 6) (by rw [List.map_map]; rfl)) (by rw [List.length_map]; omega) (fun z hz => by have := hl z hz; omega) hus hasc) (by decide))
    fun Hb H x => ⟨⟨n, _, ⟨n1, by omega, ?_, fun z hz => ?_, ascT_of hasc⟩, n7, rfl⟩, x⟩
  · exact Nat.lt_of_le_of_lt (List.length_filter_le _ _) (Nat.lt_of_le_of_lt (pairsN_len (by omega)) (by decide))
  · have := hl z ((hus z).mp hz)
    unfold tieOk
    simp; omega
end
end Fa
set_option maxHeartbeats 4000000
/-! Fa10: small defs of the law. -/
namespace Fa
open PySem PySem.Spec PyProof.Rows L2 Sm Tx

section
variable {P : Program} {w : World} {K : PySem.W.Frag} {mg : Str → Option Value} {base : Heap} {f CW : Addr} {fd : FuncData}
/-! ### _law_made_web -/
theorem scMw : FnScope ["_law_plain"] ["_law_plain"] (defScope sMw) := ⟨rfl, rfl, rfl, by decide +kernel, rfl, by decide +kernel, by decide +kernel⟩
def phMw (CW : Addr) (ds : List D) (d : D) : Prop := ∃ (n : Nat) (ts : List (Nat × Nat)), WebOk n ts ∧ ds = [plainD n ts] ∧ d = dW CW n ts
theorem fnMw {fW : Addr} {fdW : FuncData} (F : Fun K "_law_made_web" "_law_made_web" sMw f fd) (g : Gn mg) (M : Mk K CW fW) (GW : FnOk P w K mg base CX0 4 fW fdW ["self", "size", "ties"] (spI K CW phWeb)) (bW : Binds K fdW ["self", "size", "ties"] []) (mW : mg "Web" = some (.ref CW)) :
    FnOk P w K mg base CX0 6 f fd ["_law_plain"] (spP K (phMw CW)) := by
  refine fn_pure F scMw (fun ds d ⟨_, _, _, e, _⟩ => by rw [e]; rfl) fun cdv A outer s H E hr ds d hφ Hb0 H0 => ?_
  obtain ⟨n, ts, ok, rfl, rfl⟩ := hφ
  refine eb_ret (ed_mk (ds := [nI n, .tup (ts.map dT)]) (dd := []) (fs := webF n ts) M GW hr mW bW .nil (fun _ => isL_nil.mpr rfl) (es_cons (ed_dget (k := .inr "size") (hu_of hr) (ed_v 0) ed_str rfl) (es_cons (ed_tupL g.tuple (ed_dget (k := .inr "ties") (d := .lst (ts.map dT)) (hu_of hr) (ed_v 0) ed_str rfl)) es_nil)) ⟨n, ts, ok, rfl, rfl⟩) fun Hb H x => ⟨rfl, x⟩
/-! ### _law_power -/
abbrev nPw : List Str := ["_law_number_here", "_law_times", "_law_found", "_law_turn"]
theorem scPw : FnScope nPw ["_law_number_here", "_law_times"] (defScope sPw) := ⟨rfl, rfl, rfl, by decide +kernel, rfl, by decide +kernel, by decide +kernel⟩
def phPw (ds : List D) (d : D) : Prop := ∃ h n : Nat, h ≤ 20 ∧ n ≤ 10 ∧ ds = [nI h, nI n] ∧ d = nI (h ^ n)
theorem fnPw (F : Fun K "_law_power" "_law_power" sPw f fd) (g : Gn mg) : FnOk P w K mg base CX0 1 f fd ["_law_number_here", "_law_times"] (spP K phPw) := by
  refine fn_pure F scPw (fun ds d ⟨_, _, _, _, e, _⟩ => by rw [e]; rfl) fun cdv A outer s H E hr ds d hφ Hb0 H0 => ?_
  obtain ⟨h, n, h20, n10, rfl, rfl⟩ := hφ
  refine eb_set 2 scPw.nd ed_int ?_
  refine eb_forN (xs := List.range n) nI 3 (fun i ρ' => Pr (∃ o3, ρ' = [some (nI h), some (nI n), some (nI (h ^ i)), o3]) (Xt Hb0 H0)) (passOwn rfl) rfl (ei_is (ei_range1 g.range (ed_v 1) (by omega)) (rngD_0 n)) (pg_name (i := 3) scPw.nd rfl (Or.inl rfl)) (fun Hb H x => ⟨⟨none, rfl⟩, x⟩) (fun i p hip ρ' => ?_) fun ρ' => ?_
  · refine eb_pr fun ⟨o3, e⟩ => ?_
    subst e
    refine eb_set 2 scPw.nd (d := nI (h ^ (i + 1))) (ed_is (ed_mul (ed_v 2) (ed_v 0) (mulR (by omega) (by omega))) ?_) (eb_nil fun Hb H x => ⟨⟨_, rfl⟩, x⟩)
    show D.int _ = D.int ((h ^ (i + 1) : Nat) : Int)
    rw [Nat.pow_succ, Int.natCast_mul]
  · refine eb_pr fun ⟨o3, e⟩ => ?_
    subst e
    rw [List.length_range]
    exact eb_ret (ed_v 2) fun Hb H x => ⟨rfl, x⟩
/-! ### _law_hues -/
theorem scHu : FnScope ["_law_dice_here", "_law_size"] ["_law_dice_here", "_law_size"] (defScope sHu) := ⟨rfl, rfl, rfl, by decide +kernel, rfl, by decide +kernel, by decide +kernel⟩
def phHu (ds : List D) (a : Addr) (G : As) (R : D → Prop) : Prop := ∃ n : Nat, n ≤ 7 ∧ ds = [.adr a, nI n] ∧ G = Dc a ∧ R = fun d => ∃ h : Nat, 1 ≤ h ∧ h ≤ 20 ∧ d = nI h
theorem fnHu (F : Fun K "_law_hues" "_law_hues" sHu f fd) (cR : CaC P w K mg base 1 "_law_roll" phRo) : FnOk P w K mg base CX0 2 f fd ["_law_dice_here", "_law_size"] (spC K phHu) := by
  refine fn_C F scHu (fun ds a G R ⟨_, _, e, _⟩ => by rw [e]; rfl) fun cdv A outer s H E hr ds a G R hφ Hb0 H0 => ?_
  obtain ⟨n, n7, rfl, rfl, rfl⟩ := hφ
  obtain ⟨t, t1, t2, ht⟩ : ∃ t : Int, 1 ≤ t ∧ t ≤ 20 ∧ [D.int 20, .int 20, .int 20, .int 20, .int 14, .int 8, .int 6, .int 4, .int 3][n]? = some (.int t) := by
    match n, n7 with
    | 0, _ | 1, _ | 2, _ | 3, _ => exact ⟨20, by decide, by decide, rfl⟩
    | 4, _ => exact ⟨14, by decide, by decide, rfl⟩
    | 5, _ => exact ⟨8, by decide, by decide, rfl⟩
    | 6, _ => exact ⟨6, by decide, by decide, rfl⟩
    | 7, _ => exact ⟨4, by decide, by decide, rfl⟩
  refine eb_retW (P := fun d => ∃ h : Nat, 1 ≤ h ∧ h ≤ 20 ∧ d = nI h) (ew_2 (pe_op op_add pe_sm pe_sm) (ew_ed ed_int) (ew_ca (a := a) (G := Dc a) cR hr (es_cons (ed_v 0) (es_cons (ed_ixL (n := n) (ed_lst (es_cons ed_int (es_cons ed_int (es_cons ed_int (es_cons ed_int (es_cons ed_int (es_cons ed_int (es_cons ed_int (es_cons ed_int (es_cons ed_int es_nil))))))))) (line_of (by simp))) (ed_v 1) ht) es_nil)) ⟨t, t1, by omega, rfl, rfl, rfl⟩) ?_) fun d Hb H p w => ⟨p, w⟩
  rintro d1 d2 rfl ⟨r, r1, r2, rfl⟩
  refine ⟨nI (r.toNat + 1), ⟨r.toNat + 1, by omega, by omega, rfl⟩, ?_⟩
  have h := @rd_I0 K (.int (1 + r)) (fun i j => .int (i + j)) 1 r (fun _ => is_int.mpr rfl)
  rwa [show (1 + r : Int) = ((r.toNat + 1 : Nat) : Int) by omega] at h
end
end Fa
set_option maxHeartbeats 4000000
/-! Fa11: rows of hues. -/
namespace Fa
open PySem PySem.Spec PyProof.Rows L2 Sm Tx

section
variable {P : Program} {w : World} {K : PySem.W.Frag} {mg : Str → Option Value} {base : Heap} {f CW : Addr} {fd : FuncData}
/-! ### _law_counts -/
abbrev nCo : List Str := ["_law_hues_here", "_law_row", "_law_found", "_law_hue"]
theorem scCo : FnScope nCo ["_law_hues_here", "_law_row"] (defScope sCo) := ⟨rfl, rfl, rfl, by decide +kernel, rfl, by decide +kernel, by decide +kernel⟩
/-- how often each hue is there -/
def cntS (h : Nat) (row : List Nat) : List Nat := (List.range h).map fun c => row.count c
def phCo (ds : List D) (d : D) : Prop := ∃ (h : Nat) (row : List Nat), h ≤ 20 ∧ (∀ c ∈ row, c < h) ∧ ds = [nI h, dR row] ∧ d = .lst ((cntS h row).map nI)
theorem cntS_len (h : Nat) (row : List Nat) : (cntS h row).length = h := by unfold cntS; rw [List.length_map, List.length_range]
theorem cntS_get {h c : Nat} (row : List Nat) (hc : c < h) : (cntS h row)[c]? = some (row.count c) := by
  unfold cntS
  rw [List.getElem?_map, List.getElem?_range hc]; rfl
theorem cntS_snoc {h c : Nat} (row : List Nat) (hc : c < h) : cntS h (row ++ [c]) = (cntS h row).set c (row.count c + 1) := by
  apply List.ext_getElem?
  intro i
  rw [List.getElem?_set]
  by_cases hi : i < h
  · rw [cntS_get _ hi, cntS_get _ hi, List.count_append]
    by_cases e : c = i
    · subst e
      rw [if_pos rfl, if_pos (by rw [cntS_len]; exact hc)]
      simp
    · rw [if_neg e]
      have : List.count i [c] = 0 := by simp [List.count_singleton, e]
      rw [this]; rfl
  · have e1 : (cntS h (row ++ [c]))[i]? = none := List.getElem?_eq_none (by rw [cntS_len]; omega)
    have e2 : (cntS h row)[i]? = none := List.getElem?_eq_none (by rw [cntS_len]; omega)
    rw [e1, e2, if_neg (by omega)]
theorem fnCo (F : Fun K "_law_counts" "_law_counts" sCo f fd) (g : Gn mg) : FnOk P w K mg base CX0 1 f fd ["_law_hues_here", "_law_row"] (spP K phCo) := by
  refine fn_pure F scCo (fun ds d ⟨_, _, _, _, e, _⟩ => by rw [e]; rfl) fun cdv A outer s H E hr ds d hφ Hb0 H0 => ?_
  obtain ⟨h, row, h20, hrow, rfl, rfl⟩ := hφ
  refine eb_newN 2 scCo.nd (en_rep ed_int (ed_v 0) (by omega)) fun l => ?_
  refine eb_forN (xs := row) nI 3 (fun i ρ' => Pr (∃ o3, ρ' = [some (nI h), some (dR row), some (.adr l), o3]) (Fram K (Xt Hb0 H0) l ((cntS h (row.take i)).map nI))) (passOwn rfl) rfl (ei_tup (ed_v 1)) (pg_name (i := 3) scCo.nd rfl (Or.inl rfl)) (fun Hb H x => ⟨⟨none, rfl⟩, ?_⟩) (fun i c hip ρ' => ?_) fun ρ' => ?_
  · have e : (cntS h (row.take 0)).map nI = List.replicate h (D.int 0) := by
      rw [List.take_zero]
      unfold cntS
      rw [List.map_map]
      refine List.eq_replicate_iff.mpr ⟨by simp, fun b hb => ?_⟩
      obtain ⟨c, _, rfl⟩ := List.mem_map.mp hb
      rfl
    rw [e]
    exact x
  · refine eb_pr fun ⟨o3, e⟩ => ?_
    subst e
    have hc : c < h := hrow c (List.mem_of_getElem? hip)
    have htk : row.take (i + 1) = row.take i ++ [c] := by rw [List.take_add_one, hip]; rfl
    refine eb_putW (n := c) (ew_frz 2 (ed_add (ed_ixL (n := c) (d := nI ((row.take i).count c)) (ed_v 2) (ed_v 3) (by rw [List.getElem?_map, cntS_get _ hc]; rfl)) ed_int) sc_int) (ed_v 2) (ed_v 3) (by rw [List.length_map, cntS_len]; exact hc) fun d e => ?_
    subst e
    refine eb_nil fun Hb H w => ⟨⟨_, rfl⟩, ?_⟩
    rw [htk, cntS_snoc _ hc, List.map_set]
    exact w
  · refine eb_pr fun ⟨o3, e⟩ => ?_
    subst e
    rw [List.take_length]
    exact eb_frz 2 (eb_ret (ed_v 2) fun Hb H x => ⟨rfl, x⟩)
end
end Fa
set_option maxHeartbeats 4000000
/-! Fa12: the neighbours, by the law. -/
namespace Fa
open PySem PySem.Spec PyProof.Rows L2 Sm Tx

theorem nbrs_snoc (ts : List (Nat × Nat)) (a b p : Nat) : nbrs (ts ++ [(a, b)]) p = nbrs ts p ++ (if p = a ∨ p = b then [if a = p then b else a] else []) := by
  unfold nbrs
  rw [List.filter_append, List.map_append]
  congr 1
  by_cases h : p = a ∨ p = b
  · rw [if_pos h, List.filter_cons, if_pos (by simpa using h)]; rfl
  · rw [if_neg h, List.filter_cons, if_neg (by simpa using h)]; rfl
def rwsN (n : Nat) (ts : List (Nat × Nat)) : List (List D) := (List.range n).map fun p => (nbrs ts p).map nI
theorem rwsN_len (n : Nat) (ts : List (Nat × Nat)) : (rwsN n ts).length = n := by unfold rwsN; simp
theorem rwsN_get {n p : Nat} (ts : List (Nat × Nat)) (h : p < n) : (rwsN n ts)[p]? = some ((nbrs ts p).map nI) := by
  unfold rwsN
  rw [List.getElem?_map, List.getElem?_range h]; rfl
theorem rwsN_snoc {n a b : Nat} (ts : List (Nat × Nat)) (h : a < b) (hb : b < n) : rwsN n (ts ++ [(a, b)]) = ((rwsN n ts).set a ((nbrs ts a).map nI ++ [nI b])).set b ((nbrs ts b).map nI ++ [nI a]) := by
  apply List.ext_getElem?
  intro i
  rw [List.getElem?_set, List.length_set, List.getElem?_set, rwsN_len]
  by_cases hi : i < n
  · rw [rwsN_get _ hi, rwsN_get _ hi, nbrs_snoc]
    by_cases e2 : b = i
    · subst e2
      rw [if_pos rfl, if_pos hb, if_pos (Or.inr rfl), if_neg (show ¬ a = b by omega), List.map_append]; rfl
    · rw [if_neg e2]
      by_cases e1 : a = i
      · subst e1
        rw [if_pos rfl, if_pos hi, if_pos (Or.inl rfl), if_pos rfl, List.map_append]; rfl
      · rw [if_neg (show ¬ (i = a ∨ i = b) by omega), List.append_nil, if_neg e1]
  · have e1 : (rwsN n (ts ++ [(a, b)]))[i]? = none := List.getElem?_eq_none (by rw [rwsN_len]; omega)
    have e2 : (rwsN n ts)[i]? = none := List.getElem?_eq_none (by rw [rwsN_len]; omega)
    rw [e1, e2]
    split
    · omega
    · split
      · omega
      · rfl
section
variable {P : Program} {w : World} {K : PySem.W.Frag} {mg : Str → Option Value} {base : Heap} {f CW : Addr} {fd : FuncData}
abbrev nNe : List Str := ["_law_plain", "_law_found", "_law_one", "_law_two", "_law_spot", "_law_row"]
theorem scNe : FnScope nNe ["_law_plain"] (defScope sNe) := ⟨rfl, rfl, rfl, by decide +kernel, rfl, by decide +kernel, by decide +kernel⟩
/-- each place's neighbours -/
def nearL (n : Nat) (ts : List (Nat × Nat)) : D := .lst ((List.range n).map fun p => .lst ((nbS ts p).map nI))
def phNe (ds : List D) (d : D) : Prop := ∃ (n : Nat) (ts : List (Nat × Nat)), WebOk n ts ∧ ds = [plainD n ts] ∧ d = nearL n ts
theorem fnNe (F : Fun K "_law_near" "_law_near" sNe f fd) (g : Gn mg) : FnOk P w K mg base CX0 1 f fd ["_law_plain"] (spP K phNe) := by
  refine fn_pure F scNe (fun ds d ⟨_, _, _, e, _⟩ => by rw [e]; rfl) fun cdv A outer s H E hr ds d hφ Hb0 H0 => ?_
  obtain ⟨n, ts, ok, rfl, rfl⟩ := hφ
  have n10 := ok.le
  have htl := ok.few
  have htk : ∀ t ∈ ts, t.1 < t.2 ∧ t.2 < n := fun t ht => by
    have := ok.ok t ht
    unfold tieOk at this
    simp at this
    omega
  refine eb_setRows (xs := List.range n) nI 1 (own := [("_law_spot", 4)]) (g := gName 4) (τ := fun p => (wipeD _ [4]).set 4 (some (nI p))) rfl scNe.nd (ei_is (ei_range1 g.range (ed_dget (k := .inr "size") (d := nI n) (hu_of hr) (ed_v 0) ed_str rfl) (by omega)) (rngD_0 n)) (blkOk_by (N := nNe) (sc := defScope sNe) (by decide +kernel)) (line_of (by simp; omega))
    (pg_own scNe.nd rfl (fun _ _ _ _ _ => ⟨Or.inl rfl, Or.inr rfl⟩)) (fun p _ => tg_name (by simp)) fun as has => ?_
  rw [List.length_range] at has
  have gas : ∀ i, i < n → ∃ a, as[i]? = some a := fun i hi => ⟨_, List.getElem?_eq_getElem (show i < as.length by omega)⟩
  refine eb_for (xs := ts) dT (g := gTup _ 2 (gCons (gName 2) (gCons (gName 3) gNil))) (τ := fun ρ t => (ρ.set 2 (some (nI t.1))).set 3 (some (nI t.2))) (N1 := No)
    (fun i ρ' => Pr (∃ o2 o3, ρ' = [some (plainD n ts), some (.lst (as.map .adr)), o2, o3, none, none]) (MFr K (Xt Hb0 H0) as (rwsN n (ts.take i)))) (passOwn rfl) rfl
    (ei_list (ed_dget (k := .inr "ties") (d := .lst (ts.map dT)) (hu_of hr) (ed_v 0) ed_str rfl)) (pg_tup rfl (pgs_cons (pg_name (i := 2) scNe.nd rfl (Or.inl rfl)) (pgs_cons (pg_name (i := 3) scNe.nd rfl (Or.inl rfl)) pgs_nil)) rfl rfl)
    (fun t _ ρ Hb H σ x e I q Q k => ?_) (fun Hb H x => ⟨⟨none, none, rfl⟩, ?_⟩) (fun i t hit ρ' => ?_) (fun _ _ _ z => z.elim) fun ρ' => ?_
  · obtain ⟨b, ys, rfl, hb, hy⟩ := is_tup.mp q
    obtain ⟨v, u, rfl, z1, z2⟩ := es_two hy
    exact ⟨b, [v, u], rfl, Evl.ex_t e hb, rfl, v, [u], rfl, u, [], rfl, rfl, k _ ((I.set 2 z1).set 3 z2)⟩
  · have e : rwsN n (ts.take 0) = List.replicate as.length [] := by
      rw [List.take_zero, has]
      unfold rwsN
      refine List.eq_replicate_iff.mpr ⟨by simp, fun b hb => ?_⟩
      obtain ⟨c, _, rfl⟩ := List.mem_map.mp hb
      rfl
    rw [e]
    exact x
  · refine eb_pr fun ⟨o2, o3, e⟩ => ?_
    subst e
    obtain ⟨a, b⟩ := t
    obtain ⟨h1, h2⟩ := htk (a, b) (List.mem_of_getElem? hit)
    have h1 : a < b := h1
    have h2 : b < n := h2
    have hl : ∀ p, (nbrs (ts.take i) p).length < 64 := fun p => by
      unfold nbrs
      rw [List.length_map]
      refine Nat.lt_of_le_of_lt (List.length_filter_le _ _) ?_
      rw [List.length_take]
      omega
    obtain ⟨x, hx⟩ := gas a (by omega)
    obtain ⟨y, hy⟩ := gas b h2
    refine eb_mfr hx (rwsN_get _ (show a < n by omega)) ?_
    refine eb_appW (ew_ed (ed_v 3)) (by rw [List.length_map]; exact Nat.lt_trans (hl a) (by decide)) (ed_ixL (n := a) (ed_v 1) (ed_v 2) (by rw [List.getElem?_map, hx]; rfl)) fun d e => ?_
    subst e
    refine EB.pre (W := MFr K (Xt Hb0 H0) as ((rwsN n (ts.take i)).set a ((nbrs (ts.take i) a).map nI ++ [nI b]))) ?_ fun Hb H w => mfr_in hx (by rw [rwsN_len]; omega) w
    refine eb_mfr hy (r := (nbrs (ts.take i) b).map nI) (by rw [List.getElem?_set_ne (by omega), rwsN_get _ h2]) ?_
    refine eb_appW (ew_ed (ed_v 2)) (by rw [List.length_map]; exact Nat.lt_trans (hl b) (by decide)) (ed_ixL (n := b) (ed_v 1) (ed_v 3) (by rw [List.getElem?_map, hy]; rfl)) fun d e => ?_
    subst e
    refine eb_nil fun Hb H w => ⟨⟨_, _, rfl⟩, ?_⟩
    have w2 := mfr_in hy (by rw [List.length_set, rwsN_len]; omega) w
    rw [List.take_add_one, hit]
    show MFr K (Xt Hb0 H0) as (rwsN n (ts.take i ++ [(a, b)])) Hb H
    rw [rwsN_snoc _ h1 h2]
    exact w2
  · refine eb_pr fun ⟨o2, o3, e⟩ => ?_
    subst e
    rw [List.take_length]
    refine eb_frzM 1 ?_
    refine eb_ret (ed_is (ed_lc1 (xs := List.range n) (fun p => .lst ((nbrs ts p).map nI)) 5 (p := fun _ => true) (f := fun p => .lst ((nbS ts p).map nI)) rfl scNe.nd (ei_list (ed_is (ed_v 1) ?_)) (blkOk_by (N := nNe) (sc := defScope sNe) (by decide +kernel)) (line_of (by simp; omega))
      (fun _ _ _ _ _ _ _ => ets_nil) fun q _ _ s H C cl fp => ?_) ?_) fun Hb H x => ⟨rfl, x⟩
    · unfold rwsN; rw [List.map_map]; rfl
    · refine ed_is (ed_sorted ((nbrs ts q).map fun k : Nat => (k : Int)) ((nbS ts q).map fun k : Nat => (k : Int)) g.sorted (ed_v 5) ?_ ?_ ?_ ?_) ?_
      · rw [List.map_map]; rfl
      · rw [List.length_map]
        unfold nbrs
        rw [List.length_map]
        exact Nat.lt_of_le_of_lt (List.length_filter_le _ _) htl
      · exact (nbS_perm ts q).map _
      · exact List.pairwise_map.mpr ((nbS_sorted ts q).imp fun h => by omega)
      · rw [List.map_map]; rfl
    · unfold nearL; rw [fil1]
end
end Fa
set_option maxHeartbeats 4000000
/-! Fa13: what the law asks of a row. -/
namespace Fa
open PySem PySem.Spec PyProof.Rows L2 Sm Tx

section
variable {α : Type} {enc : α → D} (E : Eqd enc) {X : Cx} {ρ : En} {a b : Expr} {pos : Pos} [DecidableEq α]
theorem Eqd_notin (hu : X.A.units + 65 < cLine) (h : E.dep + 1 ≤ 64) (x : α) (ys : List α) (ha : ED X ρ a (enc x)) (hb : ED X ρ b (.lst (ys.map enc))) (hm : behindInMarks .NotIn b = false := by first | exact nobehind _ (by decide) (by decide) | rfl) : ED X ρ (.Compare a [.NotIn] [b] pos) (.bl (!decide (x ∈ ys))) :=
  ed_cmp (op_notInD hu) ha hb (fun Hb H v w e h1 h2 Q q => by
    refine ⟨E.py x, ys.map E.py, E.dp (h1.mono e), E.lst.dp (h2.mono e), E.shaped (by omega) x, E.lst.shaped h ys, ?_⟩
    rw [E.mem]
    exact q _ _ (gd_bl e)) hm
end
theorem rd_ltI {K : PySem.W.Frag} {i j : Int} : R2D K (rI0 fun i j => .bl (decide (i < j))) (.int i) (.int j) (.bl (decide (i < j))) := rd_I0 fun _ => is_bl.mpr rfl
section
variable {P : Program} {w : World} {K : PySem.W.Frag} {mg : Str → Option Value} {base : Heap} {f CW : Addr} {fd : FuncData}
/-! ### _law_is_row -/
abbrev nIr : List Str := ["_law_plain", "_law_hues_here", "_law_row", "_law_kinds", "_law_hue"]
theorem scIr : FnScope nIr ["_law_plain", "_law_hues_here", "_law_row"] (defScope sIr) := ⟨rfl, rfl, rfl, by decide +kernel, rfl, by decide +kernel, by decide +kernel⟩
def phIr (ds : List D) (d : D) : Prop := ∃ (n h : Nat) (ts : List (Nat × Nat)) (row : List Nat), n ≤ 10 ∧ row.length = n ∧ (∀ c ∈ row, c < h) ∧ ds = [plainD n ts, nI h, dR row] ∧ d = .bl true
theorem fnIr (F : Fun K "_law_is_row" "_law_is_row" sIr f fd) (g : Gn mg) : FnOk P w K mg base CX0 1 f fd ["_law_plain", "_law_hues_here", "_law_row"] (spP K phIr) := by
  refine fn_pure F scIr (fun ds d ⟨_, _, _, _, _, _, _, e, _⟩ => by rw [e]; rfl) fun cdv A outer s H E hr ds d hφ Hb0 H0 => ?_
  obtain ⟨n, h, ts, row, n10, hl, hc, rfl, rfl⟩ := hφ
  refine eb_ifF (et_is (eo_et (eo_orF (et_is (et_not (et_val (ed_isi g.isi (ed_v 2) (ed_bty "tuple" g.tuple bt_tuple) ty_tup (.ty _) ki_tt))) rfl) (eo_or1 (et_ne (ed_lenT g.len (ed_v 2)) (ed_dget (k := .inr "size") (d := nI n) (hu_of hr) (ed_v 0) ed_str rfl))))) ?_) ?_
  · rw [List.length_map, hl, decide_eq_true rfl]; rfl
  refine eb_setLc (xs := row) nI 3 (p := fun _ => true) (f := fun _ => .bl true) (own := [("_law_hue", 4)]) (g := gName 4) (τ := fun c => (wipeD _ [4]).set 4 (some (nI c))) rfl scIr.nd (ei_tup (ed_v 2)) (blkOk_by (N := nIr) (sc := defScope sIr) (by decide +kernel)) (line_of (by omega))
    (pg_own scIr.nd rfl (fun _ _ _ _ _ => ⟨Or.inl rfl, Or.inr rfl⟩)) (fun p _ => tg_name (by simp)) (fun _ _ _ _ _ _ _ => ets_nil)
    (fun c hcm _ _ _ _ _ _ => ed_is (ed_and (ed_isi g.isi (ed_v 4) (ed_bty "int" g.int bt_int) ty_int (.ty _) ki_ii) fun _ => ed_and (ed_not (ed_isi g.isi (ed_v 4) (ed_bty "bool" g.bool bt_bool) ty_int (.ty _) ki_ib)) fun _ => ed_one (ed_chain op_le op_lt ed_int (ed_v 4) (ed_v 1) rd_leI rd_ltI)) ?_) ?_
  · have := hc c hcm
    rw [decide_eq_true (show (0 : Int) ≤ (c : Int) by omega), decide_eq_true (show (c : Int) < (h : Int) by omega)]; rfl
  · refine eb_ret (ed_is (Eqd_notin Eqd.bl (u65 hr) (by decide) false (row.map fun _ => true) ed_bl (ed_is (ed_v 3) ?_)) ?_) fun Hb H x => ⟨rfl, x⟩
    · rw [fil1, List.map_map]; rfl
    · congr 1
      simp
/-! ### _law_is_colouring -/
abbrev nIc : List Str := ["_law_plain", "_law_hues_here", "_law_row", "_law_tie"]
theorem scIc : FnScope nIc ["_law_plain", "_law_hues_here", "_law_row"] (defScope sIc) := ⟨rfl, rfl, rfl, by decide +kernel, rfl, by decide +kernel, by decide +kernel⟩
theorem at0_D {row : List Nat} {i : Nat} (h : i < row.length) : (row.map nI)[i]? = some (nI (Ma.at0 row i)) := by
  rw [List.getElem?_map, Ma.at0, List.getD_eq_getElem?_getD, List.getElem?_eq_getElem h]; rfl
def phIc (ds : List D) (d : D) : Prop := ∃ (n h : Nat) (ts : List (Nat × Nat)) (row : List Nat), WebOk n ts ∧ row.length = n ∧ (∀ c ∈ row, c < h) ∧ ds = [plainD n ts, nI h, dR row] ∧ d = .bl (Ma.okT ts row)
theorem fnIc (F : Fun K "_law_is_colouring" "_law_is_colouring" sIc f fd) (g : Gn mg) (cI : Ca P w K mg base 1 "_law_is_row" phIr) : FnOk P w K mg base CX0 2 f fd ["_law_plain", "_law_hues_here", "_law_row"] (spP K phIc) := by
  refine fn_pure F scIc (fun ds d ⟨_, _, _, _, _, _, _, e, _⟩ => by rw [e]; rfl) fun cdv A outer s H E hr ds d hφ Hb0 H0 => ?_
  obtain ⟨n, h, ts, row, ok, hl, hc, rfl, rfl⟩ := hφ
  have n10 := ok.le
  have htl := ok.few
  refine eb_ifF (et_is (et_not (et_val (ed_ca cI hr (es_cons (ed_v 0) (es_cons (ed_v 1) (es_cons (ed_v 2) es_nil))) ⟨n, h, ts, row, n10, hl, hc, rfl, rfl⟩))) rfl) ?_
  refine eb_ret (ed_is ((Eqd.pair Eqd.nat Eqd.nat).lst.ed_eq hr.units (by decide) (ts.filter fun t => Ma.at0 row t.1 == Ma.at0 row t.2) [] (ed_is (ed_lc1 (xs := ts) dT 3 (p := fun t => Ma.at0 row t.1 == Ma.at0 row t.2) (f := dT) rfl scIc.nd (ei_list (ed_dget (k := .inr "ties") (d := .lst (ts.map dT)) (hu_of hr) (ed_v 0) ed_str rfl)) (blkOk_by (N := nIc) (sc := defScope sIc) (by decide +kernel)) (line_of (by omega))
    (fun t ht _ _ _ _ _ => ets_one (et_is (Eqd.nat.et_eq hr.units (by decide) (Ma.at0 row t.1) (Ma.at0 row t.2) (ed_ixT (n := t.1) (ed_v 2) (ed_ixT (n := 0) (ed_v 3) ed_int rfl) (at0_D ?_)) (ed_ixT (n := t.2) (ed_v 2) (ed_ixT (n := 1) (ed_v 3) ed_int rfl) (at0_D ?_))) ?_))
    fun t _ _ _ _ _ _ _ => ed_v 3) rfl) (ed_lst es_nil (line_of (by simp)))) ?_) fun Hb H x => ⟨rfl, x⟩
  · have := ok.ok t ht
    unfold tieOk at this
    simp at this
    omega
  · have := ok.ok t ht
    unfold tieOk at this
    simp at this
    omega
  · exact (Bool.beq_eq_decide_eq _ _).symm
  · congr 1
    unfold Ma.okT
    rw [Bool.eq_iff_iff, decide_eq_true_iff, List.filter_eq_nil_iff, List.all_eq_true]
    exact ⟨fun H t ht => by rw [Bool.not_eq_true']; exact Bool.eq_false_iff.mpr (H t ht), fun H t ht => by have := H t ht; rw [Bool.not_eq_true'] at this; rw [this]; exact Bool.false_ne_true⟩
/-! ### _law_is_level -/
abbrev nIl : List Str := ["_law_hues_here", "_law_row", "_law_counts_here"]
theorem scIl : FnScope nIl ["_law_hues_here", "_law_row"] (defScope sIl) := ⟨rfl, rfl, rfl, by decide +kernel, rfl, by decide +kernel, by decide +kernel⟩
def phIl (ds : List D) (d : D) : Prop := ∃ (h : Nat) (row : List Nat), 1 ≤ h ∧ h ≤ 20 ∧ (∀ c ∈ row, c < h) ∧ ds = [nI h, dR row] ∧ d = .bl (Ma.clsR (Ma.lvC (row.length / h)) (List.range h) row)
theorem max_of : ∀ {l : List Nat}, l ≠ [] → ∃ m ∈ l, ∀ y ∈ l, y ≤ m
  | [], h => absurd rfl h
  | [a], _ => ⟨a, List.mem_cons_self, fun y hy => by rw [List.mem_singleton.mp hy]; exact Nat.le_refl _⟩
  | a :: b :: l, _ => by
    obtain ⟨m, h1, h2⟩ := max_of (l := b :: l) (by simp)
    by_cases h : a ≤ m
    · exact ⟨m, List.mem_cons_of_mem _ h1, fun y hy => by
        rcases List.mem_cons.mp hy with e | e
        · rw [e]; exact h
        · exact h2 y e⟩
    · exact ⟨a, List.mem_cons_self, fun y hy => by
        rcases List.mem_cons.mp hy with e | e
        · rw [e]; exact Nat.le_refl _
        · have := h2 y e; omega⟩
theorem min_of : ∀ {l : List Nat}, l ≠ [] → ∃ m ∈ l, ∀ y ∈ l, m ≤ y
  | [], h => absurd rfl h
  | [a], _ => ⟨a, List.mem_cons_self, fun y hy => by rw [List.mem_singleton.mp hy]; exact Nat.le_refl _⟩
  | a :: b :: l, _ => by
    obtain ⟨m, h1, h2⟩ := min_of (l := b :: l) (by simp)
    by_cases h : m ≤ a
    · exact ⟨m, List.mem_cons_of_mem _ h1, fun y hy => by
        rcases List.mem_cons.mp hy with e | e
        · rw [e]; exact h
        · exact h2 y e⟩
    · exact ⟨a, List.mem_cons_self, fun y hy => by
        rcases List.mem_cons.mp hy with e | e
        · rw [e]; exact Nat.le_refl _
        · have := h2 y e; omega⟩
theorem fnIl (F : Fun K "_law_is_level" "_law_is_level" sIl f fd) (g : Gn mg) (cC : Ca P w K mg base 1 "_law_counts" phCo) : FnOk P w K mg base CX0 2 f fd ["_law_hues_here", "_law_row"] (spP K phIl) := by
  refine fn_pure F scIl (fun ds d ⟨_, _, _, _, _, e, _⟩ => by rw [e]; rfl) fun cdv A outer s H E hr ds d hφ Hb0 H0 => ?_
  obtain ⟨h, row, h1, h20, hc, rfl, rfl⟩ := hφ
  have ne : cntS h row ≠ [] := fun e => by have := cntS_len h row; rw [e] at this; simp at this; omega
  obtain ⟨M, m1, m2⟩ := max_of ne
  obtain ⟨m, k1, k2⟩ := min_of ne
  refine eb_set 2 scIl.nd (ed_ca cC hr (es_cons (ed_v 0) (es_cons (ed_v 1) es_nil)) ⟨h, row, h20, hc, rfl, rfl⟩) ?_
  refine eb_ret (ed_is (Sm.ed_lt (ed_sub (ed_maxL ((cntS h row).map fun k : Nat => (k : Int)) (m := (M : Int)) rfl g.max (ed_v 2) (by rw [List.map_map]; rfl) (List.mem_map_of_mem m1) fun y hy => ?_) (ed_minL ((cntS h row).map fun k : Nat => (k : Int)) (m := (m : Int)) rfl g.min (ed_v 2) (by rw [List.map_map]; rfl) (List.mem_map_of_mem k1) fun y hy => ?_)) ed_int) ?_) fun Hb H x => ⟨rfl, x⟩
  · obtain ⟨z, hz, rfl⟩ := List.mem_map.mp hy
    have := m2 z hz
    omega
  · obtain ⟨z, hz, rfl⟩ := List.mem_map.mp hy
    have := k2 z hz
    omega
  · congr 1
    rw [← Ma.level_iff (M := M) (m := m) h1 hc m1 m2 k1 k2]
    exact decide_eq_decide.mpr (by omega)
end
end Fa
set_option maxHeartbeats 4000000
/-! Fa14: a tie laid together. -/
namespace Fa
open PySem PySem.Spec PyProof.Rows L2 Sm Tx

/-- a tie, each end where it stands now -/
def mgT (a b : Nat) (t : Nat × Nat) : Nat × Nat := (min (Ma.nmT a b t.1) (Ma.nmT a b t.2), max (Ma.nmT a b t.1) (Ma.nmT a b t.2))
/-- the ties behind the laying together -/
def mgL (n a b : Nat) (ts : List (Nat × Nat)) : List (Nat × Nat) := (pairsN n).filter fun z => decide (z ∈ (ts.filter fun t => !decide (t = (a, b))).map (mgT a b))
section
variable {P : Program} {w : World} {K : PySem.W.Frag} {mg : Str → Option Value} {base : Heap} {f CW : Addr} {fd : FuncData}
abbrev nMg : List Str := ["_law_size", "_law_ties_here", "_law_tie", "_law_one", "_law_other", "_law_names", "_law_rows", "_law_place", "_law_first", "_law_last"]
theorem scMg : FnScope nMg ["_law_size", "_law_ties_here", "_law_tie"] (defScope sMg) := ⟨rfl, rfl, rfl, by decide +kernel, rfl, by decide +kernel, by decide +kernel⟩
def phMg (ds : List D) (d : D) : Prop := ∃ (n a b : Nat) (ts : List (Nat × Nat)), n ≤ 7 ∧ a < b ∧ b < n ∧ ts.length < 64 ∧ (∀ t ∈ ts, t.1 < t.2 ∧ t.2 < n) ∧ ds = [nI n, .lst (ts.map dT), dT (a, b)] ∧ d = .tup [.int ((n : Int) - 1), .lst ((mgL n a b ts).map dT)]
theorem nmT_lt {n a b x : Nat} (hab : a < b) (hb : b < n) (hx : x < n) : Ma.nmT a b x < n := by
  unfold Ma.nmT
  by_cases e : x = b
  · simp only [e, if_true, show ¬ b < a by omega, if_false]; omega
  · simp only [e, if_false]
    split <;> omega
theorem nmT_ne {a b x y : Nat} (hab : a < b) (hxy : x < y) (h : (x, y) ≠ (a, b)) : Ma.nmT a b x ≠ Ma.nmT a b y := by
  unfold Ma.nmT
  by_cases e : x = b
  · by_cases e2 : y = b
    · omega
    · simp only [e, e2, if_true, if_false, show ¬ b < a by omega]
      split <;> omega
  · by_cases e2 : y = b
    · have : x ≠ a := fun z => h (by rw [z, e2])
      simp only [e, e2, if_true, if_false, show ¬ b < a by omega]
      split <;> omega
    · simp only [e, e2, if_false]
      split <;> split <;> omega
theorem fnMg (F : Fun K "_law_merged" "_law_merged" sMg f fd) (g : Gn mg) : FnOk P w K mg base CX0 1 f fd ["_law_size", "_law_ties_here", "_law_tie"] (spP K phMg) := by
  refine fn_pure F scMg (fun ds d ⟨_, _, _, _, _, _, _, _, _, e, _⟩ => by rw [e]; rfl) fun cdv A outer s H E hr ds d hφ Hb0 H0 => ?_
  obtain ⟨n, a, b, ts, n7, hab, hb, hz, hts, rfl, rfl⟩ := hφ
  refine eb_unp2 3 4 rfl scMg.nd (ed_v 2) ?_ (pg_name (i := 3) scMg.nd rfl (Or.inl rfl)) (pg_name (i := 4) scMg.nd rfl (Or.inr rfl))
  refine eb_newN 5 scMg.nd (en_listRg rfl g.list g.range (ed_v 0) (by omega)) fun l => ?_
  refine eb_putW (n := b) (ew_ed (ed_v 3)) (ed_v 5) (ed_v 4) (by simp; exact hb) fun d e => ?_
  subst e
  refine eb_frz 5 ?_
  have gN : ∀ p, p < n → (((List.range n).map nI).set b (nI a))[p]? = some (nI (if p = b then a else p)) := fun p hp => by
    rw [List.getElem?_set]
    by_cases e : b = p
    · subst e
      rw [if_pos rfl, if_pos (by simp; exact hp), if_pos rfl]
    · rw [if_neg e, if_neg (fun z => e z.symm), List.getElem?_map, List.getElem?_range hp]; rfl
  refine eb_set 5 scMg.nd (d := .lst ((List.range n).map fun p => nI (Ma.nmT a b p))) (ed_is (ed_lc1 (xs := List.range n) nI 7 (p := fun _ => true) (f := fun p => nI (Ma.nmT a b p)) rfl scMg.nd (ei_is (ei_range1 g.range (ed_v 0) (by omega)) (rngD_0 n)) (blkOk_by (N := nMg) (sc := defScope sMg) (by decide +kernel)) (line_of (by simp; omega))
    (fun _ _ _ _ _ _ _ => ets_nil) fun p hp _ _ _ _ _ _ => ed_is (ed_sub (ed_ixL (n := p) (ed_v 5) (ed_v 7) (gN p (List.mem_range.mp hp))) (ed_intB g.int (Sm.ed_gt (ed_ixL (n := p) (ed_v 5) (ed_v 7) (gN p (List.mem_range.mp hp))) (ed_v 4)))) ?_) ?_) ?_
  · unfold Ma.nmT
    show D.int _ = D.int ((_ : Nat) : Int)
    congr 1
    by_cases e : p = b
    · simp only [e, if_true, show ¬ b < a by omega, if_false]
      rw [decide_eq_false (show ¬ ((b : Int) < (a : Int)) by omega)]; simp
    · simp only [e, if_false]
      by_cases e2 : b < p
      · rw [if_pos e2, decide_eq_true (show ((b : Int) < (p : Int)) by omega)]; simp; omega
      · rw [if_neg e2, decide_eq_false (show ¬ ((b : Int) < (p : Int)) by omega)]; simp
  · rw [fil1]
  have gM : ∀ p, p < n → ((List.range n).map fun p => nI (Ma.nmT a b p))[p]? = some (nI (Ma.nmT a b p)) := fun p hp => by
    rw [List.getElem?_map, List.getElem?_range hp]; rfl
  refine eb_setLc (xs := ts) dT 6 (p := fun t => !decide (t = (a, b))) (f := fun t => dT (mgT a b t)) (own := [("_law_first", 8), ("_law_last", 9)]) (g := gTup _ 2 (gCons (gName 8) (gCons (gName 9) gNil))) (τ := fun t => ((wipeD _ [8, 9]).set 8 (some (nI t.1))).set 9 (some (nI t.2))) rfl scMg.nd (ei_list (ed_v 1)) (blkOk_by (N := nMg) (sc := defScope sMg) (by decide +kernel)) (line_of (by omega))
    (pg_own2 rfl scMg.nd rfl rfl (fun _ _ _ _ _ => ⟨Or.inl rfl, Or.inr rfl⟩) (fun _ _ _ _ _ => ⟨Or.inl rfl, Or.inr rfl⟩) (fun _ _ _ _ _ => rfl) (fun _ _ _ _ _ => rfl)) (fun t _ => tg_pair (by simp) (by simp))
    (fun t _ _ _ _ _ _ => ets_one ((Eqd.pair Eqd.nat Eqd.nat).et_ne hr.units (by decide) t (a, b) (ed_tup (es_cons (ed_v 8) (es_cons (ed_v 9) es_nil)) (line_of (by simp))) (ed_v 2))) (fun t ht _ _ _ _ _ _ => ?_) ?_
  · obtain ⟨h1, h2⟩ := hts t ht
    refine ed_is (ed_tupL g.tuple (ed_sorted [((Ma.nmT a b t.1 : Nat) : Int), ((Ma.nmT a b t.2 : Nat) : Int)] [((min (Ma.nmT a b t.1) (Ma.nmT a b t.2) : Nat) : Int), ((max (Ma.nmT a b t.1) (Ma.nmT a b t.2) : Nat) : Int)] g.sorted (ed_lst (es_cons (ed_ixL (n := t.1) (ed_v 5) (ed_v 8) (gM _ (by omega))) (es_cons (ed_ixL (n := t.2) (ed_v 5) (ed_v 9) (gM _ h2)) es_nil)) (line_of (by simp))) rfl (by simp) ?_ ?_)) rfl
    · by_cases h : Ma.nmT a b t.1 ≤ Ma.nmT a b t.2
      · rw [Nat.min_eq_left h, Nat.max_eq_right h]
      · rw [Nat.min_eq_right (by omega), Nat.max_eq_left (by omega)]
        exact List.Perm.swap _ _ _
    · simp; omega
  have hl : ∀ z ∈ (ts.filter fun t => !decide (t = (a, b))).map (mgT a b), z.1 < z.2 ∧ z.2 < n := fun z hz => by
    obtain ⟨t, ht, rfl⟩ := List.mem_map.mp hz
    obtain ⟨h1, h2⟩ := List.mem_filter.mp ht
    obtain ⟨h3, h4⟩ := hts t h1
    have ne : t ≠ (a, b) := by simpa using h2
    have := nmT_ne (x := t.1) (y := t.2) hab h3 ne
    have := nmT_lt (x := t.1) hab hb (by omega)
    have := nmT_lt (x := t.2) hab hb h4
    unfold mgT
    show min _ _ < max _ _ ∧ max _ _ < n
    omega
  have hlen : ((ts.filter fun t => !decide (t = (a, b))).map (mgT a b)).length < 64 := by
    rw [List.length_map]; exact Nat.lt_of_le_of_lt (List.length_filter_le _ _) hz
  refine eb_ret (ed_tup (es_cons (ed_sub (ed_v 0) ed_int) (es_cons (ed_sortSet ((ts.filter fun t => !decide (t = (a, b))).map (mgT a b)) (mgL n a b ts) rfl hr.units g.sorted g.set (ed_is (ed_v 6) (by rw [List.map_map]; rfl)) hlen (fun z hz => by have := hl z hz; omega) (fun z => ?_) ((pairsN_asc (by omega)).sublist List.filter_sublist)) es_nil)) (line_of (by simp))) fun Hb H x => ⟨rfl, x⟩
  unfold mgL
  rw [List.mem_filter, decide_eq_true_iff]
  exact ⟨fun h => h.2, fun h => ⟨mem_pairsN (hl z h).1 (hl z h).2, h⟩⟩
end
end Fa
set_option maxHeartbeats 4000000
/-! Fa15: the number by deletion and contraction. -/
namespace Fa
open PySem PySem.Spec PyProof.Rows L2 Sm Tx

/-- n places, ts the ties, ascending -/
structure NumOk (n : Nat) (ts : List (Nat × Nat)) : Prop where
  pos : 1 ≤ n
  le : n ≤ 7
  asc : ts.Pairwise ltP2
  ok : ∀ t ∈ ts, t.1 < t.2 ∧ t.2 < n
theorem ltP2_nodup {ts : List (Nat × Nat)} (h : ts.Pairwise ltP2) : ts.Nodup := h.imp fun {a b} h e => by subst e; unfold ltP2 at h; omega
theorem NumOk.sub {n : Nat} {ts : List (Nat × Nat)} (o : NumOk n ts) : ts.Sublist (pairsN 7) := by
  have e : ts = (pairsN 7).filter fun t => decide (t ∈ ts) := asc_eq o.asc ((pairsN_asc (by decide)).sublist List.filter_sublist) fun t => by
    rw [List.mem_filter, decide_eq_true_iff]
    exact ⟨fun h => ⟨mem_pairsN (o.ok t h).1 (by have := (o.ok t h).2; have := o.le; omega), h⟩, fun h => h.2⟩
  rw [e]
  exact List.filter_sublist
theorem pairs7 : (pairsN 7).length = 21 := by decide +kernel
theorem NumOk.few {n : Nat} {ts : List (Nat × Nat)} (o : NumOk n ts) : ts.length ≤ 21 := by have := o.sub.length_le; rwa [pairs7] at this
theorem NumOk.init {n : Nat} {ts : List (Nat × Nat)} (o : NumOk n ts) : NumOk n ts.dropLast := ⟨o.pos, o.le, o.asc.sublist (List.dropLast_sublist _), fun t h => o.ok t (List.dropLast_subset _ h)⟩
theorem mgL_mem {n a b : Nat} {ts : List (Nat × Nat)} {z : Nat × Nat} (hab : a < b) (hb : b < n) (hts : ∀ t ∈ ts, t.1 < t.2 ∧ t.2 < n) : z ∈ mgL n a b ts ↔ ∃ t ∈ ts, t ≠ (a, b) ∧ mgT a b t = z := by
  unfold mgL
  rw [List.mem_filter, decide_eq_true_iff]
  constructor
  · rintro ⟨_, h⟩
    obtain ⟨t, ht, e⟩ := List.mem_map.mp h
    obtain ⟨h1, h2⟩ := List.mem_filter.mp ht
    exact ⟨t, h1, by simpa using h2, e⟩
  · rintro ⟨t, h1, h2, rfl⟩
    refine ⟨?_, List.mem_map_of_mem (List.mem_filter.mpr ⟨h1, by simpa using h2⟩)⟩
    obtain ⟨h3, h4⟩ := hts t h1
    have := nmT_ne (x := t.1) (y := t.2) hab h3 h2
    have := nmT_lt (x := t.1) hab hb (by omega)
    have := nmT_lt (x := t.2) hab hb h4
    unfold mgT
    exact mem_pairsN (show min _ _ < max _ _ by omega) (show max _ _ < n by omega)
theorem nmT_lt1 {n a b x : Nat} (hab : a < b) (hb : b < n) (hx : x < n) : Ma.nmT a b x < n - 1 := by
  unfold Ma.nmT
  by_cases e : x = b
  · simp only [e, if_true, show ¬ b < a by omega, if_false]; omega
  · simp only [e, if_false]
    split <;> omega
theorem NumOk.merged {n a b : Nat} {ts : List (Nat × Nat)} (o : NumOk n ts) (h : (a, b) ∈ ts) : NumOk (n - 1) (mgL n a b ts) ∧ (mgL n a b ts).length < ts.length := by
  obtain ⟨h1, h2⟩ := o.ok _ h
  have h1 : a < b := h1
  have h2 : b < n := h2
  have hle := o.le
  refine ⟨⟨by omega, by omega, (pairsN_asc (by omega)).sublist List.filter_sublist, fun z hz => ?_⟩, ?_⟩
  · obtain ⟨t, ht, ne, rfl⟩ := (mgL_mem h1 h2 o.ok).mp hz
    obtain ⟨h3, h4⟩ := o.ok t ht
    have := nmT_ne (x := t.1) (y := t.2) h1 h3 ne
    have := nmT_lt1 (x := t.1) h1 h2 (by omega)
    have := nmT_lt1 (x := t.2) h1 h2 h4
    unfold mgT
    show min _ _ < max _ _ ∧ max _ _ < n - 1
    omega
  · have h3 : (mgL n a b ts).Nodup := (ltP2_nodup (pairsN_asc (show n ≤ 10 by omega))).sublist List.filter_sublist
    have h4 : (mgL n a b ts).length ≤ ((ts.filter fun t => !decide (t = (a, b))).map (mgT a b)).length := Ma.nodup_len h3 fun z hz => by
      have := (List.mem_filter.mp hz).2
      simpa using this
    rw [List.length_map] at h4
    have h5 : (ts.filter fun t => !decide (t = (a, b))).length < ts.length := by
      rcases Nat.lt_or_ge (ts.filter fun t => !decide (t = (a, b))).length ts.length with c | c
      · exact c
      · have e := List.filter_sublist (p := fun t => !decide (t = (a, b))) (l := ts) |>.eq_of_length_le c
        rw [← e] at h
        have := (List.mem_filter.mp h).2
        simp at this
    omega
/-- one tie less, or laid together -/
theorem count_dc {n a b h : Nat} {init : List (Nat × Nat)} (o : NumOk n (init ++ [(a, b)])) : Ma.countT (init ++ [(a, b)]) h n + Ma.countT (mgL n a b (init ++ [(a, b)])) h (n - 1) = Ma.countT init h n := by
  have hin : (a, b) ∈ init ++ [(a, b)] := by simp
  obtain ⟨h1, h2⟩ := o.ok _ hin
  have h1 : a < b := h1
  have h2 : b < n := h2
  have hnd := ltP2_nodup o.asc
  have hni : (a, b) ∉ init := fun hh => (List.nodup_append.mp hnd).2.2 _ hh _ (by simp) rfl
  obtain ⟨k, rfl⟩ : ∃ k, n = k + 1 := ⟨n - 1, by have := o.pos; omega⟩
  refine Ma.countT_dc h1 (show b ≤ k + 1 - 1 by omega) fun r => ?_
  unfold Ma.okT
  rw [Bool.eq_iff_iff, List.all_eq_true, List.all_eq_true]
  have sw : ∀ x y, (!(Ma.at0 r (min x y) == Ma.at0 r (max x y))) = !(Ma.at0 r x == Ma.at0 r y) := fun x y => by
    by_cases c : x ≤ y
    · rw [Nat.min_eq_left c, Nat.max_eq_right c]
    · rw [Nat.min_eq_right (by omega), Nat.max_eq_left (by omega)]
      congr 1
      exact Bool.beq_comm
  constructor
  · intro H t ht
    have hne : t ≠ (a, b) := fun e => hni (e ▸ ht)
    have := H _ ((mgL_mem h1 h2 o.ok).mpr ⟨t, List.mem_append_left _ ht, hne, rfl⟩)
    unfold mgT at this
    rw [sw] at this
    exact this
  · intro H z hz
    obtain ⟨t, ht, ne, rfl⟩ := (mgL_mem h1 h2 o.ok).mp hz
    have ht' : t ∈ init := by
      rcases List.mem_append.mp ht with c | c
      · exact c
      · exact (ne (List.mem_singleton.mp c)).elim
    unfold mgT
    rw [sw]
    exact H t ht'
/-! ### keys -/
abbrev pK (t : Nat × Nat) : NestedKey := .tup [.num (t.1 : Int), .num (t.2 : Int)]
def keyM (n : Nat) (ts : List (Nat × Nat)) : NestedKey := .tup [.num (n : Int), .tup (ts.map pK)]
theorem keyNs_pK : ∀ l : List (Nat × Nat), keyNs (l.map pK) = l.map dT
  | [] => rfl
  | t :: l => by
    rw [List.map_cons, List.map_cons]
    unfold keyNs
    rw [keyNs_pK l]
    rfl
theorem keyN_M (n : Nat) (ts : List (Nat × Nat)) : keyN (keyM n ts) = .tup [nI n, .tup (ts.map dT)] := by
  unfold keyM keyN
  unfold keyNs
  unfold keyNs
  unfold keyNs
  show D.tup [nI n, keyN (.tup _)] = _
  unfold keyN
  rw [keyNs_pK]
theorem dep_pK : ∀ l : List (Nat × Nat), NestedKey.depthAll (l.map pK) ≤ 1
  | [] => Nat.zero_le _
  | t :: l => by
    rw [List.map_cons, NestedKey.depthAll]
    have := dep_pK l
    simp only [NestedKey.depth, NestedKey.depthAll]
    omega
theorem keyM_dep (n : Nat) (ts : List (Nat × Nat)) : (keyM n ts).depth ≤ 8 := by
  unfold keyM
  have := dep_pK ts
  simp only [NestedKey.depth, NestedKey.depthAll]
  omega
theorem pK_inj : ∀ {l m : List (Nat × Nat)}, l.map pK = m.map pK → l = m
  | [], [], _ => rfl
  | [], _ :: _, h => by cases h
  | _ :: _, [], h => by cases h
  | a :: l, b :: m, h => by
    rw [List.map_cons, List.map_cons, List.cons.injEq] at h
    obtain ⟨h1, h2⟩ := h
    simp only [pK, NestedKey.tup.injEq, List.cons.injEq, NestedKey.num.injEq, and_true] at h1
    have : a = b := Prod.ext (by omega) (by omega)
    rw [this, pK_inj h2]
theorem keyM_inj {n n' : Nat} {ts ts' : List (Nat × Nat)} (h : keyM n ts = keyM n' ts') : n = n' ∧ ts = ts' := by
  unfold keyM at h
  simp only [NestedKey.tup.injEq, List.cons.injEq, NestedKey.num.injEq, and_true] at h
  exact ⟨by omega, pK_inj h.2⟩
/-- all is right in the table -/
def PsM (h : Nat) (xs : XN) : Prop := ∀ x ∈ xs, ∃ (n : Nat) (ts : List (Nat × Nat)), NumOk n ts ∧ x.1 = keyM n ts ∧ x.2.2 = .int (Ma.countT ts h n : Nat)
def univM : List NestedKey := (List.range 7).flatMap fun n => (Ma.subs (pairsN 7)).map fun ts => keyM (n + 1) ts
theorem univM_len : univM.length < sizeLine := by
  have h1 : univM.length ≤ (List.range 7).length * 2 ^ 21 := flat_len fun n _ => by
    rw [List.length_map, Ma.subs_length, pairs7]
    exact Nat.le_refl _
  rw [List.length_range] at h1
  exact Nat.lt_of_le_of_lt h1 (by decide)
theorem PsM.small {h : Nat} {xs : XN} (p : PsM h xs) (nd : (xs.map (·.1)).Nodup) : xs.length < sizeLine := by
  have h1 : (xs.map (·.1)).length ≤ univM.length := Ma.nodup_len nd fun k hk => by
    obtain ⟨x, hx, rfl⟩ := List.mem_map.mp hk
    obtain ⟨n, ts, o, e, _⟩ := p x hx
    have h1 := o.pos
    have h2 := o.le
    have e2 : keyM n ts = keyM (n - 1 + 1) ts := by rw [show n - 1 + 1 = n by omega]
    rw [e, e2]
    exact List.mem_flatMap.mpr ⟨n - 1, List.mem_range.mpr (by omega), List.mem_map.mpr ⟨ts, Ma.mem_subs o.sub, rfl⟩⟩
  rw [List.length_map] at h1
  exact Nat.lt_of_le_of_lt h1 univM_len
section
variable {P : Program} {w : World} {K : PySem.W.Frag} {mg : Str → Option Value} {base : Heap} {f CW : Addr} {fd : FuncData}
abbrev nNu : List Str := ["_law_size", "_law_ties_here", "_law_hues_here", "_law_known", "_law_key", "_law_less", "_law_rows"]
abbrev psNu : List Str := ["_law_size", "_law_ties_here", "_law_hues_here", "_law_known"]
theorem scNu : FnScope nNu psNu (defScope sNu) := ⟨rfl, rfl, rfl, by decide +kernel, rfl, by decide +kernel, by decide +kernel⟩
def phNu (P : Program) (w : World) (K : PySem.W.Frag) (r : Nat) (ds : List D) (a : Addr) (G : As) (R : D → Prop) : Prop :=
  ∃ (n h : Nat) (ts : List (Nat × Nat)), NumOk n ts ∧ ts.length ≤ r ∧ h ≤ 20 ∧ ds = [nI n, .lst (ts.map dT), nI h, .adr a] ∧ G = GN K P w a (PsM h) ∧ R = (· = nI (Ma.countT ts h n))
theorem fnNu (F : Fun K "_law_number" "_law_number" sNu f fd) (g : Gn mg) (cP : Ca P w K mg base 1 "_law_power" phPw) (cM : Ca P w K mg base 1 "_law_merged" phMg) (mN : mg "_law_number" = some (.ref f)) (kN : PySem.W.keepIn K (.ref f) = true) (bN : Binds K fd psNu []) :
    ∀ r, FnOk P w K mg base CX0 (1 + r + 1) f fd psNu (spC K (phNu P w K r)) := by
  intro r
  induction r with
  | zero =>
    refine fn_C F scNu (fun ds a G R ⟨_, _, _, _, _, _, e, _⟩ => by rw [e]; rfl) fun cdv A outer s H E hr ds a G R hφ Hb0 H0 => ?_
    obtain ⟨n, h, ts, o, hl, h20, rfl, rfl, rfl⟩ := hφ
    obtain rfl : ts = [] := List.length_eq_zero_iff.mp (by omega)
    refine eb_ifR (et_is ((Eqd.pair Eqd.nat Eqd.nat).lst.et_eq hr.units (by decide) [] [] (ed_v 1) (ed_lst es_nil (line_of (by simp)))) rfl) ?_
    have := o.le
    exact eb_ret (ed_ca cP hr (es_cons (ed_v 2) (es_cons (ed_v 0) es_nil)) ⟨h, n, h20, by omega, rfl, rfl⟩) fun Hb H w => ⟨by rw [Ma.countT_nil], w⟩
  | succ r ih =>
    have cN : CaC P w K mg base (1 + r + 1) "_law_number" (phNu P w K r) := ⟨f, fd, psNu, ih, mN, kN, bN⟩
    refine fn_C F scNu (fun ds a G R ⟨_, _, _, _, _, _, e, _⟩ => by rw [e]; rfl) fun cdv A outer s H E hr ds a G R hφ Hb0 H0 => ?_
    obtain ⟨n, h, ts, o, hl, h20, rfl, rfl, rfl⟩ := hφ
    have hu16 : (cxOf CX0 P w K mg base nNu "_law_number" (defScope sNu) f cdv A outer s H E).nox.A.units + 16 < cLine := by have := hr.units; exact Nat.lt_of_le_of_lt (Nat.add_le_add_left (by decide : 16 ≤ 64) _) this
    have n7 := o.le
    have n1 := o.pos
    have hfew := o.few
    refine eb_ifRet (b := decide (ts = [])) ((Eqd.pair Eqd.nat Eqd.nat).lst.et_eq hr.units (by decide) ts [] (ed_v 1) (ed_lst es_nil (line_of (by simp)))) (fun hb => ?_) fun hb => ?_
    · obtain rfl := of_decide_eq_true hb
      exact eb_ret (ed_ca cP (hr.mono (by omega)) (es_cons (ed_v 2) (es_cons (ed_v 0) es_nil)) ⟨h, n, h20, by omega, rfl, rfl⟩) fun Hb H w => ⟨by rw [Ma.countT_nil], w⟩
    have hne := of_decide_eq_false hb
    obtain ⟨init, ⟨a', b'⟩, rfl⟩ : ∃ init t, ts = init ++ [t] := ⟨ts.dropLast, ts.getLast hne, (List.dropLast_concat_getLast hne).symm⟩
    obtain ⟨o2, hlt⟩ := o.merged (a := a') (b := b') (by simp)
    have hdc := count_dc (h := h) o
    have hin : (a', b') ∈ init ++ [(a', b')] := by simp
    obtain ⟨h1, h2⟩ := o.ok _ hin
    have oi : NumOk n init := by have := o.init; rwa [List.dropLast_concat] at this
    have oil : init.length ≤ r := by
      rw [List.length_append] at hl
      have : [(a', b')].length = 1 := rfl
      omega
    refine eb_set 4 scNu.nd (ed_tup (es_cons (ed_v 0) (es_cons (ed_tupL g.tuple (ed_v 1)) es_nil)) (line_of (by simp))) ?_
    refine eb_ifNin (Ψ' := fun xs => PsM h xs ∧ (valN xs (keyM n (init ++ [(a', b')]))).isSome = true) (ks := [.num (n : Int), .tup ((init ++ [(a', b')]).map pK)]) hu16 (ed_is (ed_v 4) (keyN_M n _).symm) (ed_v 3) (keyM_dep n _) ?_ (fun xs p q => ⟨p, q⟩) ?_
    · refine EB.pre (W := FrC (GN K P w a (PsM h)) a (Xt Hb0 H0)) ?_ fun Hb H ⟨n1, n2, ⟨xs, g1, g2, g3, g4⟩, wr⟩ => ⟨n1, n2, ⟨xs, g1, g2, g3, g4.1⟩, wr⟩
      refine eb_unp2 5 6 rfl scNu.nd (d1 := nI (n - 1)) (d2 := .lst ((mgL n a' b' (init ++ [(a', b')])).map dT)) (ed_is (ed_ca cM (hr.mono (by omega)) (es_cons (ed_v 0) (es_cons (ed_v 1) (es_cons (ed_lastL (d := dT (a', b')) (ds := init.map dT) (ed_is (ed_v 1) (by rw [List.map_append]; rfl)) (ed_neg ed_int)) es_nil))) ⟨n, a', b', _, n7, h1, h2, by omega, o.ok, rfl, rfl⟩) ?_) ?_ (pg_name (i := 5) scNu.nd rfl (Or.inl rfl)) (pg_name (i := 6) scNu.nd rfl (Or.inl rfl))
      · congr 2
        show D.int _ = D.int ((n - 1 : Nat) : Int)
        congr 1
        omega
      refine eb_nput (P := (· = .int (Ma.countT (init ++ [(a', b')]) h n : Nat))) (ks := [.num (n : Int), .tup ((init ++ [(a', b')]).map pK)]) hu16 ?_ (fun d e => ⟨_, e⟩) (ed_v 3) (ed_is (ed_v 4) (keyN_M n _).symm) (keyM_dep n _) (fun xs b i p nd e => ⟨p.small nd, ?_, ?_⟩) (eb_nil fun Hb H w => ⟨by
          refine Kn.trans (Kn.set (j := 5) (d := nI (n - 1)) rfl) ?_
          exact Kn.set (j := 6) rfl, w⟩)
      · show EW _ (FrC (GN K P w a (PsM h)) a (Xt Hb0 H0)) _ _ _
        refine ew_2 (P := (· = nI (Ma.countT init h n))) (Q := (· = nI (Ma.countT (mgL n a' b' (init ++ [(a', b')])) h (n - 1)))) (pe_op op_sub pe_sm pe_sm)
          (ew_ca (a := a) (G := GN K P w a (PsM h)) cN hr (es_cons (ed_v 0) (es_cons (ed_is (ed_lstInit (ed_v 1) (ed_neg ed_int)) (d2 := .lst (init.map dT)) (by rw [List.map_append]; show D.lst (init.map dT ++ [dT (a', b')]).dropLast = _; rw [List.dropLast_concat])) (es_cons (ed_v 2) (es_cons (ed_v 3) es_nil)))) ⟨n, h, init, oi, oil, h20, rfl, rfl, rfl⟩)
          (ew_ca (a := a) (G := GN K P w a (PsM h)) cN hr (es_cons (ed_v 5) (es_cons (ed_v 6) (es_cons (ed_v 2) (es_cons (ed_v 3) es_nil)))) ⟨n - 1, h, _, o2, by omega, h20, rfl, rfl, rfl⟩) ?_
        · rintro d1 d2 rfl rfl
          refine ⟨_, rfl, rd_I0 fun _ => is_int.mpr ?_⟩
          congr 1
          omega
      · intro x hx
        rcases putN_mem x hx with z | ⟨z1, z2, _⟩
        · exact p x z
        · cases e
          exact ⟨n, _, o, z1, z2⟩
      · exact putN_has
    · refine eb_retW (P := (· = nI (Ma.countT (init ++ [(a', b')]) h n))) (ew_nget (Ψ := fun xs => PsM h xs ∧ (valN xs (keyM n (init ++ [(a', b')]))).isSome = true) (ks := [.num (n : Int), .tup ((init ++ [(a', b')]).map pK)]) hu16 (ed_v 3) (ed_is (ed_v 4) (keyN_M n _).symm) (keyM_dep n _) fun xs pq => ?_) fun d Hb H e ww => ?_
      · obtain ⟨p, q⟩ := pq
        obtain ⟨v, hv⟩ := Option.isSome_iff_exists.mp q
        obtain ⟨b, hb⟩ := valN_mem hv
        obtain ⟨n', ts', f2, f4, f5⟩ := p _ hb
        obtain ⟨rfl, rfl⟩ := keyM_inj f4
        exact ⟨_, by rw [← f5]; exact hv, rfl⟩
      · obtain ⟨n1, n2, ⟨xs, g1, g2, g3, g4⟩, wr⟩ := ww
        exact ⟨e, n1, n2, ⟨xs, g1, g2, g3, g4.1⟩, wr⟩
end
end Fa
set_option maxHeartbeats 4000000
/-! Fa16: the level number by layers. -/
namespace Fa
open PySem PySem.Spec PyProof.Rows L2 Sm Tx

/-- a layer's state, as a key -/
abbrev nK (p : Nat) : NestedKey := .num (p : Int)
def keyL (s : Ma.St) : NestedKey := .tup [.tup (s.1.map nK), .num (s.2 : Int)]
abbrev dS (s : Ma.St) : D := .tup [dR s.1, nI s.2]
theorem keyN_L (s : Ma.St) : keyN (keyL s) = dS s := by
  unfold keyL keyN
  unfold keyNs
  unfold keyNs
  unfold keyNs
  show D.tup [keyN (.tup _), nI s.2] = _
  unfold keyN
  rw [keyNs_nat]
theorem keyL_dep (s : Ma.St) : (keyL s).depth ≤ 8 := by
  unfold keyL
  have := dep_nums s.1
  simp only [NestedKey.depth, NestedKey.depthAll, this]
  omega
theorem keyL_inj {s t : Ma.St} (h : keyL s = keyL t) : s = t := by
  unfold keyL at h
  simp only [NestedKey.tup.injEq, List.cons.injEq, NestedKey.num.injEq, and_true] at h
  exact Prod.ext (num_inj h.1) (by omega)
/-- the dict's entries are such a layer -/
def Rl (xs : XN) (d : Ma.Ly) : Prop := xs.map (fun x => (x.1, x.2.2)) = d.map fun e => (keyL e.1, V.int (e.2 : Int))
theorem rl_len {xs : XN} {d : Ma.Ly} (h : Rl xs d) : xs.length = d.length := by have := congrArg List.length h; rwa [List.length_map, List.length_map] at this
theorem rl_cons {x : NestedKey × Addr × V} {xs : XN} {d : Ma.Ly} (h : Rl (x :: xs) d) : ∃ e d', d = e :: d' ∧ x.1 = keyL e.1 ∧ x.2.2 = .int (e.2 : Int) ∧ Rl xs d' := by
  cases d with
  | nil => cases h
  | cons e d' =>
    unfold Rl at h
    rw [List.map_cons, List.map_cons, List.cons.injEq, Prod.mk.injEq] at h
    exact ⟨e, d', rfl, h.1.1, h.1.2, h.2⟩
theorem rl_find : ∀ {xs : XN} {d : Ma.Ly} (k : Ma.St), Rl xs d → valN xs (keyL k) = (d.find? fun e => decide (e.1 = k)).map fun e => V.int (e.2 : Int)
  | [], d, k, h => by
    have : d = [] := List.length_eq_zero_iff.mp (rl_len h).symm
    subst this
    rfl
  | x :: xs, d, k, h => by
    obtain ⟨e, d', rfl, e1, e2, h'⟩ := rl_cons h
    have ih := rl_find k h'
    unfold valN at ih ⊢
    by_cases c : e.1 = k
    · rw [List.find?_cons_of_pos (by simp [c, e1]), List.find?_cons_of_pos (by simp [c])]
      show some x.2.2 = some _
      rw [e2]
    · rw [List.find?_cons_of_neg (by simp only [e1, decide_eq_true_eq]; exact fun z => c (keyL_inj z)), List.find?_cons_of_neg (by simpa using c)]
      exact ih
theorem rl_get {xs : XN} {d : Ma.Ly} (k : Ma.St) (h : Rl xs d) : (valN xs (keyL k)).getD (.int 0) = .int (Ma.getL d k : Nat) := by
  rw [rl_find k h]
  unfold Ma.getL
  cases d.find? fun e => decide (e.1 = k) <;> rfl
theorem find_nd : ∀ {d : Ma.Ly} {e : Ma.St × Nat}, (d.map (·.1)).Nodup → e ∈ d → (d.find? fun x => decide (x.1 = e.1)) = some e
  | [], e, _, h => by cases h
  | x :: d, e, hn, h => by
    rw [List.map_cons] at hn
    obtain ⟨h1, h2⟩ := List.nodup_cons.mp hn
    rcases List.mem_cons.mp h with z | z
    · subst z; rw [List.find?_cons_of_pos (by simp)]
    · have : x.1 ≠ e.1 := fun z' => h1 (by rw [z']; exact List.mem_map_of_mem z)
      rw [List.find?_cons_of_neg (by simpa using this)]
      exact find_nd h2 z
theorem rl_some {xs : XN} {d : Ma.Ly} {k : Ma.St} (h : Rl xs d) : (valN xs (keyL k)).isSome = true ↔ k ∈ d.map (·.1) := by
  rw [rl_find k h, Option.isSome_map, List.find?_isSome, List.mem_map]
  exact ⟨fun ⟨e, h1, h2⟩ => ⟨e, h1, of_decide_eq_true h2⟩, fun ⟨e, h1, h2⟩ => ⟨e, h1, decide_eq_true h2⟩⟩
theorem rl_put {xs : XN} {d : Ma.Ly} {k : Ma.St} {b : Addr} {v : Nat} (h : Rl xs d) : Rl (putN xs (keyL k) b (.int (v : Int))) (Ma.putL d k v) := by
  unfold putN Ma.putL
  by_cases c : k ∈ d.map (·.1)
  · rw [if_pos ((rl_some h).mpr c), if_pos c]
    have go : ∀ {xs : XN} {d : Ma.Ly}, Rl xs d → Rl (xs.map fun x => if x.1 = keyL k then (x.1, x.2.1, V.int (v : Int)) else x) (d.map fun e => if e.1 = k then (e.1, v) else e) := by
      intro xs
      induction xs with
      | nil => intro d h; have : d = [] := List.length_eq_zero_iff.mp (rl_len h).symm; subst this; rfl
      | cons x xs ih =>
        intro d h
        obtain ⟨e, d', rfl, e1, e2, h'⟩ := rl_cons h
        have := ih h'
        unfold Rl at this ⊢
        rw [List.map_cons, List.map_cons, List.map_cons, List.map_cons, this]
        congr 1
        by_cases z : e.1 = k
        · rw [if_pos (by rw [e1, z]), if_pos z, e1]
        · rw [if_neg (by rw [e1]; exact fun z' => z (keyL_inj z')), if_neg z, e1, e2]
    exact go h
  · rw [if_neg (fun z => c ((rl_some h).mp z)), if_neg c]
    unfold Rl at h ⊢
    rw [List.map_append, List.map_append, h]
    rfl
theorem rl_keys {xs : XN} {d : Ma.Ly} (h : Rl xs d) : (xs.map fun x => keyN x.1) = (d.map (·.1)).map dS := by
  have e1 : (xs.map fun x => keyN x.1) = (xs.map fun x => (x.1, x.2.2)).map fun q : NestedKey × V => keyN q.1 := by rw [List.map_map]; rfl
  rw [e1, show xs.map (fun x => (x.1, x.2.2)) = _ from h, List.map_map, List.map_map]
  exact List.map_congr_left fun e _ => keyN_L e.1
theorem ly_few {n l r : Nat} {d : Ma.Ly} (o : Ma.LyOk n l r d) (hn : n ≤ 7) : d.length ≤ 1024 := by
  have h1 : (d.map (·.1)).length ≤ ((Ma.subs (List.range n)).flatMap fun left => (List.range 8).map fun x => (left, x)).length := Ma.nodup_len o.nd fun k hk => by
    obtain ⟨e, he, rfl⟩ := List.mem_map.mp hk
    obtain ⟨h1, h2⟩ := o.ok e he
    have h3 := h1.length_le
    rw [List.length_range] at h3
    exact List.mem_flatMap.mpr ⟨e.1.1, Ma.mem_subs h1, List.mem_map.mpr ⟨e.1.2, List.mem_range.mpr (by omega), rfl⟩⟩
  rw [List.length_map] at h1
  refine Nat.le_trans h1 (Nat.le_trans (flat_len (k := 8) fun left _ => by simp) ?_)
  rw [Ma.subs_length, List.length_range]
  exact Nat.mul_le_mul_right 8 (Nat.pow_le_pow_right (by decide) hn)
/-- beside each other, by the web's rows -/
abbrev adjN (ts : List (Nat × Nat)) : Nat → Nat → Bool := fun p o => decide (o ∈ nbS ts p)
theorem foldL_len (ts : List (Nat × Nat)) (l : Nat) (left : List Nat) : (left.foldl (Ma.stepL (adjN ts) l) [[]]).length ≤ 2 ^ left.length := by
  have h := Ma.foldL_fil (adjN ts) l left [[]]
  have e : ([[]] : List (List Nat)).filter (fun row => decide (row.length ≤ l + 1)) = [[]] := by simp
  rw [e] at h
  rw [h]
  exact Nat.le_trans (List.length_filter_le _ _) (aptF_length ts left)
theorem foldL_sub (ts : List (Nat × Nat)) (l : Nat) (left : List Nat) : ∀ row ∈ left.foldl (Ma.stepL (adjN ts) l) [[]], row.Sublist left := by
  have h := Ma.foldL_fil (adjN ts) l left [[]]
  have e : ([[]] : List (List Nat)).filter (fun row => decide (row.length ≤ l + 1)) = [[]] := by simp
  rw [e] at h
  rw [h]
  exact fun row hr => aptF_sub ts left row (List.mem_filter.mp hr).1
section
variable {P : Program} {w : World} {K : PySem.W.Frag} {mg : Str → Option Value} {base : Heap} {f CW : Addr} {fd : FuncData}
abbrev nLn : List Str := ["_law_near_here", "_law_hues_here", "_law_size", "_law_least", "_law_more", "_law_layer", "_law_hue", "_law_later", "_law_left", "_law_extra", "_law_rows", "_law_place", "_law_row", "_law_fit", "_law_rest", "_law_one"]
theorem scLn : FnScope nLn ["_law_near_here", "_law_hues_here"] (defScope sLn) := ⟨rfl, rfl, rfl, by decide +kernel, rfl, by decide +kernel, by decide +kernel⟩
def phLn (ds : List D) (d : D) : Prop := ∃ (n h : Nat) (ts : List (Nat × Nat)), WebOk n ts ∧ n ≤ 7 ∧ 1 ≤ h ∧ h ≤ 20 ∧ ds = [nearL n ts, nI h] ∧ d = nI (Ma.getL (Ma.layN (adjN ts) (n / h) h [((List.range n, n % h), 1)]) ([], 0))
/-- the two layers -/
abbrev GL (P : Program) (w : World) (K : PySem.W.Frag) (a : Addr) (d : Ma.Ly) : As := GN K P w a fun xs => Rl xs d
abbrev WL (P : Program) (w : World) (K : PySem.W.Frag) (b a : Addr) (d lay : Ma.Ly) (Hb0 H0 : Hp) : As := FrC (GL P w K b d) b (FrC (GL P w K a lay) a (Xt Hb0 H0))
theorem fnLn (F : Fun K "_law_level_number" "_law_level_number" sLn f fd) (g : Gn mg) : FnOk P w K mg base CX0 1 f fd ["_law_near_here", "_law_hues_here"] (spP K phLn) := by
  refine fn_pure F scLn (fun ds d ⟨_, _, _, _, _, _, _, e, _⟩ => by rw [e]; rfl) fun cdv A outer s H E hr ds d hφ Hb0 H0 => ?_
  obtain ⟨n, h, ts, ok, n7, h1, h20, rfl, rfl⟩ := hφ
  have hu16 : (cxOf CX0 P w K mg base nLn "_law_level_number" (defScope sLn) f cdv A outer s H E).nox.A.units + 16 < cLine := by have := hr.units; exact Nat.lt_of_le_of_lt (Nat.add_le_add_left (by decide : 16 ≤ 64) _) this
  have hp : (0 : Int) < (h : Int) := by omega
  refine eb_set 2 scLn.nd (d := nI n) (ed_is (ed_lenL g.len (ed_v 0)) (by simp)) ?_
  refine eb_unp2 3 4 rfl scLn.nd (d1 := nI (n / h)) (d2 := nI (n % h)) (ed_is (ed_tup (es_cons (ed_intI g.int (ed_fdiv (ed_v 2) (ed_v 1) ⟨hp, by omega⟩)) (es_cons (ed_mod (ed_intI g.int (ed_v 2)) (ed_v 1) hp) es_nil)) (line_of (by simp))) rfl) ?_ (pg_name (i := 3) scLn.nd rfl (Or.inr rfl)) (pg_name (i := 4) scLn.nd rfl (Or.inl rfl))
  refine eb_setN1 5 (n := 1) (ks := [.tup ((List.range n).map nK), .num ((n % h : Nat) : Int)]) hu16 scLn.nd (ed_is (ed_tup (es_cons (ed_tupRg rfl g.tuple g.range (ed_v 2) (by omega)) (es_cons (ed_v 4) es_nil)) (line_of (by simp))) (keyN_L (List.range n, n % h)).symm) (keyL_dep (List.range n, n % h)) ed_int fun a0 => ?_
  have o0 : Ma.LyOk n (n / h) h [((List.range n, n % h), 1)] := ⟨by simp, fun e he => by
    rw [List.mem_singleton.mp he]
    refine ⟨List.Sublist.refl _, ?_⟩
    have := Nat.div_add_mod n h
    show n % h + h * (n / h) = (List.range n).length
    rw [List.length_range]
    omega⟩
  refine eb_forN (xs := List.range h) nI 6 (fun i ρ' => Exs fun a : Addr => Pr (∃ o6 o7 o8 o9 o10 o11 o12 o13 o14, ρ' = [some (nearL n ts), some (nI h), some (nI n), some (nI (n / h)), some (nI (n % h)), some (.adr a), o6, o7, o8, o9, o10, o11, o12, o13, o14, none])
    (FrC (GL P w K a (Ma.layN (adjN ts) (n / h) i [((List.range n, n % h), 1)])) a (Xt Hb0 H0))) (passOwn rfl) rfl (ei_is (ei_range1 g.range (ed_v 1) (by omega)) (rngD_0 h)) (pg_name (i := 6) scLn.nd rfl (Or.inl rfl))
    (fun Hb H ⟨n1, n2, ⟨xs, g1, g2, g3, b, g4⟩, wr⟩ => ⟨a0, ⟨none, none, none, none, none, none, none, none, none, rfl⟩, n1, n2, ⟨xs, g1, g2, g3, by rw [g4]; rfl⟩, wr⟩) (fun i hue hi ρ' => ?_) fun ρ' => ?_
  · refine eb_exs fun a => eb_pr fun ⟨o6, o7, o8, o9, o10, o11, o12, o13, o14, e⟩ => ?_
    subst e
    have hi2 : i < h := by have := (List.getElem?_eq_some_iff.mp hi).1; simpa using this
    obtain ⟨r, hrr⟩ : ∃ r, h = r + 1 + i := ⟨h - 1 - i, by omega⟩
    have oL : Ma.LyOk n (n / h) (r + 1) (Ma.layN (adjN ts) (n / h) i [((List.range n, n % h), 1)]) := Ma.LyOk.N (by rw [← hrr]; exact o0)
    generalize hly : Ma.layN (adjN ts) (n / h) i [((List.range n, n % h), 1)] = lay at oL
    have hstep : Ma.layN (adjN ts) (n / h) (i + 1) [((List.range n, n % h), 1)] = Ma.layS (Ma.rowsL (adjN ts) (n / h)) (n / h) lay := by rw [← hly]; rfl
    rw [hstep]
    generalize hl : n / h = l at oL ⊢
    refine eb_setN0 7 scLn.nd fun b => ?_
    refine EB.pre (W := WL P w K b a [] lay Hb0 H0) ?_ fun Hb H ⟨n1, n2, ⟨xs, g1, g2, g3, g4⟩, wr⟩ => ⟨n1, n2, ⟨xs, g1, g2, g3, by rw [g4]; rfl⟩, wr⟩
    refine eb_forW (Ψ := fun xs => xs = lay.map (·.1)) dS (g := gTup _ 2 (gCons (gName 8) (gCons (gName 9) gNil))) (τ := fun ρ s => (ρ.set 8 (some (dR s.1))).set 9 (some (nI s.2)))
      (fun xs j ρ' => Pr (∃ o8 o9 o10 o11 o12 o13 o14, ρ' = [some (nearL n ts), some (nI h), some (nI n), some (nI l), some (nI (n % h)), some (.adr a), some (nI hue), some (.adr b), o8, o9, o10, o11, o12, o13, o14, none])
        (WL P w K b a ((lay.take j).foldl (fun d e => Ma.bumps l (Ma.rowsL (adjN ts) l e.1) e.1 e.2 d) []) lay Hb0 H0)) (passOwn rfl) rfl ?_
      (pg_tup rfl (pgs_cons (pg_name (i := 8) scLn.nd rfl (Or.inl rfl)) (pgs_cons (pg_name (i := 9) scLn.nd rfl (Or.inr rfl)) pgs_nil)) rfl rfl) (fun xs _ t _ ρ Hb H σ x e I q Q k => ?_) (fun xs _ Hb H w => ⟨⟨o8, o9, o10, o11, o12, o13, o14, rfl⟩, w⟩) (fun xs hx j s hj ρ' => ?_) fun xs hx ρ' => ?_
    · exact EW.imp (ew_listN' (K := K) (Pg := P) (w := w) (a := a) (Ψ := fun xs => Rl xs lay) (ds := (lay.map (·.1)).map dS) (hcm := rfl) (g := g.list) (ho := ed_v 5) (hΨ := fun xs p => rl_keys p)) fun d e => ⟨_, rfl, e⟩
    · obtain ⟨b, ys, rfl, hb, hy⟩ := is_tup.mp q
      obtain ⟨v, u, rfl, z1, z2⟩ := es_two hy
      exact ⟨b, [v, u], rfl, Evl.ex_t e hb, rfl, v, [u], rfl, u, [], rfl, rfl, k _ ((I.set 8 z1).set 9 z2)⟩
    · subst hx
      refine eb_pr fun ⟨o8, o9, o10, o11, o12, o13, o14, e⟩ => ?_
      subst e
      obtain ⟨⟨s', v⟩, hjv, hsv⟩ : ∃ e, lay[j]? = some e ∧ e.1 = s := by rw [List.getElem?_map] at hj; exact Option.map_eq_some_iff.mp hj
      have hsv : s' = s := hsv
      subst hsv
      have hmem : (s', v) ∈ lay := List.mem_of_getElem? hjv
      obtain ⟨k1, k2⟩ := oL.ok _ hmem
      have k1 : s'.1.Sublist (List.range n) := k1
      have k2 : s'.2 + (r + 1) * l = s'.1.length := k2
      have k3 := k1.length_le
      rw [List.length_range] at k3
      have htk : lay.take (j + 1) = lay.take j ++ [(s', v)] := by rw [List.take_add_one, hjv]; rfl
      have oD : Ma.LyOk n l r ((lay.take j).foldl (fun d e => Ma.bumps l (Ma.rowsL (adjN ts) l e.1) e.1 e.2 d) []) := Ma.LyOk.lay ⟨List.nodup_nil, fun e h => nomatch h⟩ fun e he => oL.ok e (List.mem_of_mem_take he)
      rw [htk, List.foldl_append]
      generalize (lay.take j).foldl (fun d e => Ma.bumps l (Ma.rowsL (adjN ts) l e.1) e.1 e.2 d) [] = dd at oD ⊢
      refine eb_set 10 scLn.nd (d := .lst ([([] : List Nat)].map dR)) (ed_lst (es_cons (ed_tup es_nil (line_of (by simp))) es_nil) (line_of (by simp))) ?_
      refine eb_forN (xs := s'.1) nI 11 (fun i ρ' => Pr (∃ o11 o12 o13 o14, ρ' = [some (nearL n ts), some (nI h), some (nI n), some (nI l), some (nI (n % h)), some (.adr a), some (nI hue), some (.adr b), some (dR s'.1), some (nI s'.2), some (.lst (((s'.1.take i).foldl (Ma.stepL (adjN ts) l) [[]]).map dR)), o11, o12, o13, o14, none])
        (WL P w K b a dd lay Hb0 H0)) (passOwn rfl) rfl (ei_tup (ed_v 8)) (pg_name (i := 11) scLn.nd rfl (Or.inr rfl)) (fun Hb H w => ⟨⟨o11, o12, o13, o14, rfl⟩, w⟩) (fun i p hip ρ' => ?_) fun ρ' => ?_
      · refine eb_pr fun ⟨o11, o12, o13, o14, e⟩ => ?_
        subst e
        have hpn : p < n := List.mem_range.mp (k1.subset (List.mem_of_getElem? hip))
        have hcs : ((s'.1.take i).foldl (Ma.stepL (adjN ts) l) [[]]).length ≤ 128 := by
          refine Nat.le_trans (foldL_len ts l _) (Nat.le_trans (Nat.pow_le_pow_right (by decide) (show (s'.1.take i).length ≤ 7 by rw [List.length_take]; omega)) (by decide))
        have hcl : ∀ row ∈ (s'.1.take i).foldl (Ma.stepL (adjN ts) l) [[]], row.length ≤ 7 := fun row hr => by
          have := (foldL_sub ts l _ row hr).length_le
          rw [List.length_take] at this
          omega
        have htp : (s'.1.take (i + 1)).foldl (Ma.stepL (adjN ts) l) [[]] = Ma.stepL (adjN ts) l ((s'.1.take i).foldl (Ma.stepL (adjN ts) l) [[]]) p := by
          rw [List.take_add_one, hip, show (some p).toList = [p] from rfl, List.foldl_append]; rfl
        rw [htp]
        generalize (s'.1.take i).foldl (Ma.stepL (adjN ts) l) [[]] = cur at hcs hcl ⊢
        have hrow : ((List.range n).map fun p => D.lst ((nbS ts p).map nI))[p]? = some (.lst ((nbS ts p).map nI)) := by
          rw [List.getElem?_map, List.getElem?_range hpn]; rfl
        refine eb_setLc (xs := cur) dR 13 (p := fun row => decide (row.length ≤ l) && Ma.freeA (adjN ts) p row) (f := dR) (own := [("_law_row", 12)]) (g := gName 12) (τ := fun row => (wipeD _ [12]).set 12 (some (dR row))) rfl scLn.nd (ei_list (ed_v 10)) (blkOk_by (N := nLn) (sc := defScope sLn) (by decide +kernel)) (line_of (by omega))
          (pg_own scLn.nd rfl (fun _ _ _ _ _ => ⟨Or.inl rfl, Or.inr rfl⟩)) (fun p _ => tg_name (by simp))
          (fun row hrm _ _ _ _ _ => ets_one (et_is (eo_et (eo_and (et_le (ed_lenT g.len (ed_v 12)) (ed_v 3)) fun _ => eo_and1 (Eqd.nat.lst.et_eq hr.units (by decide) (row.filter fun o => decide (o ∈ nbS ts p)) [] (ed_is (ed_lc1 (xs := row) nI 15 (p := fun o => decide (o ∈ nbS ts p)) (f := nI) rfl scLn.nd (ei_tup (ed_v 12))
            (blkOk_by (N := nLn) (sc := relS ⟨.function, [(".0", .local), ("_law_row", .local), ("len", .globalImplicit), ("_law_least", .free), ("_law_near_here", .free), ("_law_place", .free)], false, false, []⟩ (defScope sLn)) (by decide +kernel)) (line_of (by have := hcl row hrm; omega))
            (fun o _ _ _ _ _ _ => ets_one (et_is (et_inL ((nbS ts p).map fun k : Nat => (k : Int)) (ed_v 15) (ed_ixL (n := p) (ed_v 0) (ed_v 11) hrow) (by rw [List.map_map]; rfl)) ?_)) fun o _ _ _ _ _ _ _ => ed_v 15) rfl) (ed_lst es_nil (line_of (by simp)))))) ?_))
          (fun row _ _ _ _ _ _ _ => ed_v 12) ?_
        · exact decide_eq_decide.mpr ⟨fun hm => by
            obtain ⟨k, hk, e⟩ := List.mem_map.mp hm
            have : k = o := by omega
            exact this ▸ hk, fun hm => List.mem_map_of_mem hm⟩
        · rw [List.length_map]
          congr 1
          · exact decide_eq_decide.mpr (by omega)
          · unfold Ma.freeA
            rw [Bool.eq_iff_iff, decide_eq_true_iff, List.filter_eq_nil_iff, Bool.not_eq_true', List.any_eq_false]
        have hfl := List.length_filter_le (fun row => decide (row.length ≤ l) && Ma.freeA (adjN ts) p row) cur
        refine eb_set 10 scLn.nd (d := .lst ((Ma.stepL (adjN ts) l cur p).map dR)) (ed_is (ed_catL (ed_v 10) (ed_lc1 (xs := cur.filter fun row => decide (row.length ≤ l) && Ma.freeA (adjN ts) p row) dR 12 (p := fun _ => true) (f := fun row => dR (row ++ [p])) rfl scLn.nd (ei_list (ed_v 13)) (blkOk_by (N := nLn) (sc := defScope sLn) (by decide +kernel)) (line_of (by omega))
          (fun _ _ _ _ _ _ _ => ets_nil) fun row hrm _ _ _ _ _ _ => ed_is (ed_catT (ed_v 12) (ed_tup (es_cons (ed_v 11) es_nil) (line_of (by simp))) ?_) ?_) ?_) ?_) (eb_nil fun Hb H w => ⟨⟨_, _, _, _, rfl⟩, w⟩)
        · have := hcl row (List.mem_filter.mp hrm).1
          exact line_of (by simp; omega)
        · show D.tup _ = D.tup _
          rw [List.map_append]; rfl
        · rw [fil1]
          exact line_of (by simp; omega)
        · rw [fil1]
          unfold Ma.stepL
          rw [List.map_append, List.map_map]; rfl
      · refine eb_pr fun ⟨o11, o12, o13, o14, e⟩ => ?_
        subst e
        rw [List.take_length]
        have hrl : ∀ row ∈ Ma.rowsL (adjN ts) l s', row.length ≤ 7 := fun row hr => by
          have := (aptF_sub ts s'.1 row (List.mem_filter.mp hr).1).length_le
          omega
        have hcs : (s'.1.foldl (Ma.stepL (adjN ts) l) [[]]).length ≤ 128 := Nat.le_trans (foldL_len ts l _) (Nat.le_trans (Nat.pow_le_pow_right (by decide) (show s'.1.length ≤ 7 by omega)) (by decide))
        refine eb_forN (xs := Ma.rowsL (adjN ts) l s') dR 12 (fun i ρ' => Pr (∃ o10 o11 o12 o13 o14, ρ' = [some (nearL n ts), some (nI h), some (nI n), some (nI l), some (nI (n % h)), some (.adr a), some (nI hue), some (.adr b), some (dR s'.1), some (nI s'.2), o10, o11, o12, o13, o14, none])
          (WL P w K b a (Ma.bumps l ((Ma.rowsL (adjN ts) l s').take i) s' v dd) lay Hb0 H0)) (passOwn rfl) rfl ?_ (pg_name (i := 12) scLn.nd rfl (Or.inr rfl)) (fun Hb H w => ⟨⟨_, o11, o12, o13, o14, rfl⟩, w⟩) (fun i row hir ρ' => ?_) fun ρ' => ?_
        · refine ei_list (ed_is (ed_lc1 (xs := s'.1.foldl (Ma.stepL (adjN ts) l) [[]]) dR 12 (p := fun row => decide (l ≤ row.length) && decide (row.length ≤ s'.2 + l)) (f := dR) rfl scLn.nd (ei_list (ed_v 10)) (blkOk_by (N := nLn) (sc := defScope sLn) (by decide +kernel)) (line_of (by omega))
            (fun row _ _ _ _ _ _ => ets_one (et_is (eo_et (eo_and (et_ge (ed_lenT g.len (ed_v 12)) (ed_v 3)) fun _ => eo_and1 (et_le (ed_sub (ed_lenT g.len (ed_v 12)) (ed_v 3)) (ed_v 9)))) ?_)) fun row _ _ _ _ _ _ _ => ed_v 12) (by rw [Ma.rowsL_eq]))
          rw [List.length_map]
          congr 1 <;> exact decide_eq_decide.mpr (by omega)
        · refine eb_pr fun ⟨o10, o11, o12, o13, o14, e⟩ => ?_
          subst e
          have hrm : row ∈ Ma.rowsL (adjN ts) l s' := List.mem_of_getElem? hir
          have hkey := Ma.rowsL_key hrm k1 k2
          have oB : Ma.LyOk n l r (Ma.bumps l ((Ma.rowsL (adjN ts) l s').take i) s' v dd) := oD.bumps fun x hx => Ma.rowsL_key (List.mem_of_mem_take hx) k1 k2
          have hbt : Ma.bumps l ((Ma.rowsL (adjN ts) l s').take (i + 1)) s' v dd = Ma.bump (Ma.bumps l ((Ma.rowsL (adjN ts) l s').take i) s' v dd) (Ma.kOf l s' row) v := by
            unfold Ma.bumps
            rw [List.take_add_one, hir, show (some row).toList = [row] from rfl, List.foldl_append]; rfl
          rw [hbt]
          generalize Ma.bumps l ((Ma.rowsL (adjN ts) l s').take i) s' v dd = cur at oB ⊢
          have hle : row.length ≤ s'.2 + l := by
            have := (List.mem_filter.mp hrm).2
            rw [decide_eq_true_eq] at this
            exact this.2.2
          refine eb_set 14 scLn.nd (d := keyN (keyL (Ma.kOf l s' row))) (ed_is (ed_tup (es_cons (ed_tupL g.tuple (ed_lc1 (xs := s'.1) nI 11 (p := fun q => !decide (q ∈ row)) (f := nI) rfl scLn.nd (ei_tup (ed_v 8)) (blkOk_by (N := nLn) (sc := defScope sLn) (by decide +kernel)) (line_of (by omega))
            (fun q _ _ _ _ _ _ => ets_one (et_is (et_notinT (row.map fun k : Nat => (k : Int)) (ed_v 11) (ed_v 12) (by rw [List.map_map]; rfl)) ?_)) fun q _ _ _ _ _ _ _ => ed_v 11)) (es_cons (ed_add (ed_sub (ed_v 9) (ed_lenT g.len (ed_v 12))) (ed_v 3)) es_nil)) (line_of (by simp))) ?_) ?_
          · congr 1
            exact decide_eq_decide.mpr ⟨fun hm => by
              obtain ⟨k, hk, e⟩ := List.mem_map.mp hm
              have : k = q := by omega
              exact this ▸ hk, fun hm => List.mem_map_of_mem hm⟩
          · rw [keyN_L]
            unfold Ma.kOf Ma.lessA
            rw [List.length_map]
            show D.tup [_, D.int _] = D.tup [_, D.int ((s'.2 + l - row.length : Nat) : Int)]
            rw [show ((s'.2 : Int) - (row.length : Int) + (l : Int)) = ((s'.2 + l - row.length : Nat) : Int) by omega]
          refine eb_nput' (K := K) (Pg := P) (w := w) (a := b) (Ψ := fun xs => Rl xs cur) (Ψ' := fun xs => Rl xs (Ma.bump cur (Ma.kOf l s' row) v)) (W := FrC (GL P w K a lay) a (Xt Hb0 H0)) (P := (· = .int (Ma.getL cur (Ma.kOf l s' row) + v : Nat))) (ks := [.tup ((Ma.kOf l s' row).1.map nK), .num ((Ma.kOf l s' row).2 : Int)]) (hu := hu16) (hv := ?_) (hPd := fun d e => ⟨_, e⟩) (ho := ed_v 7) (hi := ed_v 14) (hd := keyL_dep _)
            (hΨ := fun xs bb m p nd e => ⟨?_, ?_⟩) (k := eb_nil fun Hb H w => ⟨⟨_, _, _, _, _, rfl⟩, w⟩)
          · refine ew_2 (P := (· = nI (Ma.getL cur (Ma.kOf l s' row)))) (Q := (· = nI v)) (pe_op op_add pe_sm pe_sm)
              (ew_ngetD' (K := K) (Pg := P) (w := w) (a := b) (Ψ := fun xs => Rl xs cur) (ks := [.tup ((Ma.kOf l s' row).1.map nK), .num ((Ma.kOf l s' row).2 : Int)]) (hu := hu16) (ho := ed_v 7) (hi := ed_v 14) (hz := ed_int) (hd := keyL_dep _) (hΨ := fun xs p => ⟨_, rl_get _ p, rfl⟩) (m := ⟨rfl, rfl, rfl, rfl⟩))
              (ew_nget' (K := K) (Pg := P) (w := w) (a := a) (Ψ := fun xs => Rl xs lay) (ks := [.tup (s'.1.map nK), .num (s'.2 : Int)]) (hu := hu16) (ho := ed_v 5) (hi := ed_is (ed_tup (es_cons (ed_v 8) (es_cons (ed_v 9) es_nil)) (line_of (by simp))) (keyN_L s').symm) (hd := keyL_dep s') (hΨ := fun xs p => ⟨(v : Int), ?_, rfl⟩)) ?_
            · have := rl_find s' p
              rw [find_nd oL.nd hmem] at this
              exact this
            · rintro d1 d2 rfl rfl
              exact ⟨_, rfl, rd_I0 fun _ => is_int.mpr (by congr 1)⟩
          · rw [rl_len p]
            exact Nat.lt_of_le_of_lt (ly_few oB n7) (by decide)
          · cases e
            exact rl_put p
        · refine eb_pr fun ⟨o10, o11, o12, o13, o14, e⟩ => ?_
          subst e
          rw [List.take_length]
          exact eb_nil fun Hb H w => ⟨⟨_, _, _, _, _, _, _, rfl⟩, w⟩
    · subst hx
      refine eb_pr fun ⟨o8, o9, o10, o11, o12, o13, o14, e⟩ => ?_
      subst e
      rw [List.length_map, List.take_length]
      refine eb_set 5 scLn.nd (ed_v 7) ?_
      refine eb_drop2 ?_
      exact eb_nil fun Hb H w => ⟨b, ⟨_, _, _, _, _, _, _, _, _, rfl⟩, w⟩
  · refine eb_exs fun a => eb_pr fun ⟨o6, o7, o8, o9, o10, o11, o12, o13, o14, e⟩ => ?_
    subst e
    rw [List.length_range]
    refine eb_retDrop (P := (· = nI (Ma.getL (Ma.layN (adjN ts) (n / h) h [((List.range n, n % h), 1)]) ([], 0)))) (ew_ngetD' (X := _) (K := K) (Pg := P) (w := w) (a := a) (Ψ := fun xs => Rl xs (Ma.layN (adjN ts) (n / h) h [((List.range n, n % h), 1)])) (ks := [.tup [], .num 0]) (hu := hu16) (ho := ed_v 5) (hi := ed_is (ed_tup (es_cons (ed_tup es_nil (line_of (by simp))) (es_cons ed_int es_nil)) (line_of (by simp))) (keyN_L ([], 0)).symm) (hz := ed_int) (hd := keyL_dep ([], 0)) (hΨ := fun xs p => ⟨_, rl_get ([], 0) p, rfl⟩) (m := ⟨rfl, rfl, rfl, rfl⟩)) fun d Hb H e x => ⟨e, x⟩
end
end Fa
set_option maxHeartbeats 4000000
/-! Fa17: the rows, one after the other. -/
namespace Fa
open PySem PySem.Spec PyProof.Rows L2 Sm Tx Lo

theorem isK_keys {K : PySem.W.Frag} {H : Hp} : ∀ {kvs : List (Key × D)} {ws : List (Key × V)}, IsK K H kvs ws → ws.map (·.1) = kvs.map (·.1)
  | [], ws, h => by rw [isK_nil.mp h]; rfl
  | (k, d) :: kvs, ws, h => by
    obtain ⟨v, r, rfl, _, h2⟩ := isK_cons.mp h
    rw [List.map_cons, List.map_cons, isK_keys h2]
theorem sqT_frz {K : PySem.W.Frag} {Hb : Hp} {q d : Addr} {o : Obj} {vs : List V} {ws : List (Key × V)} (h : SqT K Hb q vs) (hd : Hb d = some (.dK ws)) : SqT K (upd Hb d (.frz o (.dK ws))) q vs := by
  rcases h with h | h
  · refine .inl ?_
    have n : q ≠ d := fun e => by
      subst e
      rcases h with h | ⟨_, h⟩ <;> rw [hd] at h <;> cases h
    unfold Rd at h ⊢
    rw [upd_ne n]
    exact h
  · exact .inr h
/-- a near row's places -/
def nKeys (ts : List (Nat × Nat)) (k : Nat) : List Int := (dcD kN (fun _ => .bl true) (nbS ts k)).map fun p => match p.1 with | .inl i => i | .inr _ => 0
theorem valD_some {kvs : List (Key × D)} {k : Key} : (valD kvs k).isSome = true ↔ k ∈ kvs.map (·.1) := by
  unfold valD
  rw [Option.isSome_map, List.find?_isSome, List.mem_map]
  exact ⟨fun ⟨e, h1, h2⟩ => ⟨e, h1, of_decide_eq_true h2⟩, fun ⟨e, h1, h2⟩ => ⟨e, h1, decide_eq_true h2⟩⟩
theorem dcD_key {ms : List Nat} : ∀ p ∈ dcD kN (fun _ => .bl true) ms, ∃ m ∈ ms, p.1 = kN m := fun p hp => by
  have h := (dcD_has (kf := kN) (vf := fun _ => D.bl true) (k := p.1) ms).mp ?_
  · obtain ⟨m, hm, e⟩ := List.mem_map.mp h
    exact ⟨m, hm, e.symm⟩
  · rw [valD_some]
    exact List.mem_map_of_mem hp
theorem nKeys_inl (ts : List (Nat × Nat)) (k : Nat) : (nKeys ts k).map Sum.inl = (dcD kN (fun _ => .bl true) (nbS ts k)).map (·.1) := by
  unfold nKeys
  rw [List.map_map]
  refine List.map_congr_left fun p hp => ?_
  obtain ⟨m, _, e⟩ := dcD_key p hp
  show Sum.inl (match p.1 with | .inl i => i | .inr _ => 0) = p.1
  rw [e]
theorem nKeys_mem {ts : List (Nat × Nat)} {k : Nat} {x : Int} : x ∈ nKeys ts k ↔ ∃ o ∈ nbS ts k, x = (o : Int) := by
  have e : x ∈ nKeys ts k ↔ (Sum.inl x : Key) ∈ (dcD kN (fun _ => D.bl true) (nbS ts k)).map (·.1) := by
    rw [← nKeys_inl]
    exact ⟨fun h => List.mem_map_of_mem h, fun h => by
      obtain ⟨y, hy, e⟩ := List.mem_map.mp h
      cases e
      exact hy⟩
  rw [e, ← valD_some, dcD_has]
  constructor
  · intro h
    obtain ⟨m, hm, e⟩ := List.mem_map.mp h
    cases e
    exact ⟨m, hm, rfl⟩
  · rintro ⟨o, ho, rfl⟩
    exact List.mem_map_of_mem ho
theorem nKeys_len (ts : List (Nat × Nat)) (k : Nat) : (nKeys ts k).length ≤ (nbS ts k).length := by
  unfold nKeys
  rw [List.length_map]
  exact dcD_length _
section
variable {P : Program} {w : World} {K : PySem.W.Frag} {mg : Str → Option Value} {base : Heap} {f CW : Addr} {fd : FuncData}
abbrev nRf : List Str := ["web", "hues", "row", "taken", "hue", "other"]
theorem scRf : GScope nRf ["web", "hues", "row"] (defScope sRf) := ⟨rfl, rfl, rfl, by decide +kernel, rfl, by decide +kernel, by decide +kernel⟩
def phRf (CW n h : Nat) (ts : List (Nat × Nat)) (m : Nat) (dl : List D) (ds : List (List Nat)) : Prop := ∃ row : List Nat, row.length + m = n ∧ (∀ c ∈ row, c < h) ∧ dl = [dW CW n ts, nI h, dR row] ∧ ds = Ma.rowsR (adjN ts) (List.range h) m row
/-- the web, its rows unknown -/
def webZ (CW n : Nat) (t p : Addr) (as : List Addr) : D := .obj CW [("own_size", nI n), ("own_ties", .adr t), ("own_near", .tup (as.map .adr)), ("own_places", .adr p)]
theorem isL_refs {H : Hp} {ts : List (Nat × Nat)} : ∀ {ps : List Nat} {vs : List V}, IsL K H (ps.map (nrow ts)) vs → ∃ as : List Addr, vs = as.map .ref
  | [], vs, h => ⟨[], isL_nil.mp h⟩
  | p :: ps, vs, h => by
    obtain ⟨v, r, rfl, h1, h2⟩ := isL_cons.mp h
    obtain ⟨as, e⟩ := isL_refs h2
    obtain ⟨a, ws, e1, _, _⟩ := is_dct.mp h1
    exact ⟨a :: as, by rw [e, e1]; rfl⟩
theorem isL_as {H : Hp} : ∀ {as : List Addr}, IsL K H (as.map .adr) (as.map .ref)
  | [] => isL_nil.mpr rfl
  | a :: as => isL_cons.mpr ⟨_, _, rfl, is_adr.mpr rfl, isL_as⟩
/-- the row's dict is locked: what is still known -/
theorem web_frz {Hb : Hp} {σ : L2.St} {n h k : Nat} {ts : List (Nat × Nat)} {row : List Nat} (I : IsE K Hb σ [some (dW CW n ts), some (nI h), some (dR row), none, none, none]) (hk : k < n) :
    ∃ d ws ρ2, Hb d = some (.dK ws) ∧ ws.map (·.1) = (nKeys ts k).map Sum.inl ∧ (∃ (t p : Addr) (as : List Addr), as[k]? = some d ∧ ρ2 = [some (webZ CW n t p as), some (nI h), some (dR row), none, none, none]) ∧ ∀ o, IsE K (upd Hb d (.frz o (.dK ws))) σ ρ2 := by
  obtain ⟨v0, e0, q0⟩ := I.at_ 0 _ rfl
  obtain ⟨v1, e1, q1⟩ := I.at_ 1 _ rfl
  obtain ⟨v2, e2, q2⟩ := I.at_ 2 _ rfl
  obtain ⟨a, dx, wf, rfl, ha, hf⟩ := is_obj.mp q0
  obtain ⟨x1, r1, rfl, f1, hf⟩ := isF_cons.mp hf
  obtain ⟨x2, r2, rfl, f2, hf⟩ := isF_cons.mp hf
  obtain ⟨x3, r3, rfl, f3, hf⟩ := isF_cons.mp hf
  obtain ⟨x4, r4, rfl, f4, hf⟩ := isF_cons.mp hf
  obtain rfl := isF_nil.mp hf
  obtain ⟨t, _, rfl, _, _⟩ := is_tup.mp f2
  obtain ⟨q, vs, rfl, hq, hv⟩ := is_tup.mp f3
  obtain ⟨p, _, rfl, _, _⟩ := is_tup.mp f4
  obtain ⟨as, rfl⟩ := isL_refs hv
  obtain ⟨v, g1, g2⟩ := hv.get (i := k) (d := nrow ts k) (by rw [List.getElem?_map, List.getElem?_range hk]; rfl)
  obtain ⟨d, ws, rfl, hd, hw⟩ := is_dct.mp g2
  have has : as[k]? = some d := by
    rw [List.getElem?_map] at g1
    obtain ⟨d', h1, h2⟩ := Option.map_eq_some_iff.mp g1
    cases h2
    exact h1
  refine ⟨d, ws, _, hd, by rw [isK_keys hw, nKeys_inl], ⟨t, p, as, has, rfl⟩, fun o => ?_⟩
  have n0 : a ≠ d := fun z => by rw [z, hd] at ha; cases ha
  have base : IsE K (upd Hb d (.frz o (.dK ws))) σ [none, none, none, none, none, none] := ⟨I.len, fun i d' z => by
    match i, z with
    | 0, z | 1, z | 2, z | 3, z | 4, z | 5, z => cases z⟩
  have b0 := base.known (i := 0) (d := webZ CW n t p as) e0 (is_obj.mpr ⟨a, dx, _, rfl, by rw [upd_ne n0]; exact ha, isF_cons.mpr ⟨_, _, rfl, is_int.mpr (is_int.mp f1), isF_cons.mpr ⟨_, _, rfl, is_adr.mpr rfl, isF_cons.mpr ⟨_, _, rfl, is_tup.mpr ⟨q, _, rfl, sqT_frz hq hd, isL_as⟩, isF_cons.mpr ⟨_, _, rfl, is_adr.mpr rfl, isF_nil.mpr rfl⟩⟩⟩⟩⟩)
  have b1 := b0.known (i := 1) (d := nI h) e1 (is_int.mpr (is_int.mp q1))
  refine b1.known (i := 2) (d := dR row) e2 ?_
  obtain ⟨q', vs', rfl, hq', hv'⟩ := is_tup.mp q2
  have e3 : row.map nI = (row.map fun k : Nat => (k : Int)).map .int := by rw [List.map_map]; rfl
  rw [e3] at hv'
  refine is_tup.mpr ⟨q', vs', rfl, sqT_frz hq' hd, ?_⟩
  rw [e3]
  exact isL_ints.mpr (isL_ints.mp hv')
theorem rows_outs {adj : Nat → Nat → Bool} {pal : List Nat} {m : Nat} {row : List Nat} : ∀ l : List Nat, (l.filter (Ma.freeR adj row)).flatMap (fun c => Ma.rowsR adj pal m (row ++ [c])) = l.flatMap fun c => if Ma.freeR adj row c = true then Ma.rowsR adj pal m (row ++ [c]) else []
  | [] => rfl
  | c :: l => by
    rw [List.filter_cons, List.flatMap_cons, ← rows_outs l]
    by_cases e : Ma.freeR adj row c = true
    · rw [if_pos e, if_pos e, List.flatMap_cons]
    · rw [if_neg e, if_neg e, List.nil_append]
theorem fnRf {n h : Nat} {ts : List (Nat × Nat)} (F : Fun K "rows_from" "rows_from" sRf f fd) (g : Gn mg) (wc : WebC K CW) (ok : WebOk n ts) (n7 : n ≤ 7) (h20 : h ≤ 20) (mR : mg "rows_from" = some (.ref f)) (bR : Binds K fd ["web", "hues", "row"] []) :
    ∀ m, GFnE P w K mg base (1 + 3 * m) f fd ["web", "hues", "row"] (spG K (phRf CW n h ts m)) (RD K dR) := by
  have kR := F.kp
  obtain ⟨oc, od, kV, doc, pm, an, cdv, ct, osl, rfl, lk, hcd⟩ := F.ex
  have hlen : ∀ (m : Nat) (vs : List V) (H : Hp) (ds : List (List Nat)), spG K (phRf CW n h ts m) vs H ds → vs.length = (["web", "hues", "row"] : List Str).length := fun m vs H ds ⟨dl, il, row, _, _, e, _⟩ => by rw [il.length, e]; rfl
  intro m
  induction m with
  | zero =>
    refine gfnE_of (k := 0) lk hcd scRf (hlen 0) fun A outer s H vs ds ex hr hsp Y Fin s2 T B KK J gd lv p hgd hk => ?_
    obtain ⟨dl, il, row, hm, hc, rfl, rfl⟩ := hsp
    have I : IsE (bCx P w K mg base nRf "rows_from" (defScope sRf) f cdv A outer s H ex).K H (start nRf vs) _ := start_is (K := K) (N := nRf) il
    refine Prod.execs_cons (X := bCx P w K mg base nRf "rows_from" (defScope sRf) f cdv A outer s H ex) ?_
    refine Prod.ifD (b0 := true) T B I (et_is (et_eq (ed_lenT g.len (ed_v 2)) (ed_fld (ed_v 0) wc.cl wc.n1 (d := nI n) rfl)) (decide_eq_true (by rw [List.length_map]; omega))) fun H1 s1 p1 b1 x1 => ?_
    rw [if_pos rfl]
    refine Prod.execs_cons (X := bCx P w K mg base nRf "rows_from" (defScope sRf) f cdv A outer s H ex) ?_
    refine Prod.yieldD (enc := dR) T hgd b1 (I.mono x1) (ed_v 2) fun H2 s3 p2 b2 x2 => ?_
    refine Prod.execs_nil (X := bCx P w K mg base nRf "rows_from" (defScope sRf) f cdv A outer s H ex) ?_
    refine Prod.execs_nil (X := bCx P w K mg base nRf "rows_from" (defScope sRf) f cdv A outer s H ex) ?_
    exact hk _ _ _ _ b2 (x1.trans x2)
  | succ m ih =>
    refine gfnE_of (k := 1 + 3 * m + 2) lk hcd scRf (hlen (m + 1)) fun A outer s H vs ds ex hr hsp Y Fin s2 T B KK J gd lv p hgd hk => ?_
    obtain ⟨dl, il, row, hm, hc, rfl, rfl⟩ := hsp
    have I : IsE (bCx P w K mg base nRf "rows_from" (defScope sRf) f cdv A outer s H ex).K H (start nRf vs) [some (dW CW n ts), some (nI h), some (dR row), none, none, none] := start_is (K := K) (N := nRf) il
    have hrl : row.length ≤ 7 := by omega
    refine Prod.execs_cons (X := bCx P w K mg base nRf "rows_from" (defScope sRf) f cdv A outer s H ex) ?_
    refine Prod.ifD (b0 := false) T B I (et_is (et_eq (ed_lenT g.len (ed_v 2)) (ed_fld (ed_v 0) wc.cl wc.n1 (d := nI n) rfl)) (decide_eq_false (by rw [List.length_map]; omega))) fun H1 s1 p1 b1 x1 => ?_
    rw [if_neg Bool.false_ne_true]
    have I1 := I.mono x1
    refine Prod.execs_cons (X := bCx P w K mg base nRf "rows_from" (defScope sRf) f cdv A outer s H ex) ?_
    have hnb := nbS_small (p := row.length) ok.few
    have hkl := nKeys_len ts row.length
    refine Prod.setS 3 (d := .dct (dcD (fun x : Int => kN (Ma.at0 row x.toNat)) (fun _ => .bl true) ((nKeys ts row.length).filter fun x => decide (x < (row.length : Int))))) T b1 I1 ?_ fun σ2 H2 s3 p2 b2 x2 I2 => ?_
    · refine st_dcKeys (xs := nKeys ts row.length) (own := [("other", 5)]) (g := gName 5) (τ := fun ρ2 x => (wipeD ρ2 [5]).set 5 (some (.int x))) rfl scRf.nd rfl rfl (sw_trueD rfl rfl rfl (by decide +kernel)) (fun Hb σ I => web_frz I (by omega)) (fun d ρ2 ⟨t, p, as, e, e2⟩ => ?_) (blkOk_by (N := nRf) (sc := defScope sRf) (by decide +kernel)) (line_of (by omega))
          (fun _ _ _ _ _ => pg_name (i := 5) scRf.nd rfl (Or.inl rfl)) (fun d ρ2 _ x _ => tg_name (by simp)) (fun d ρ2 ⟨t, p, as, e, e2⟩ x _ _ _ _ _ _ => ?_) (fun d ρ2 ⟨t, p, as, e, e2⟩ x hx hp _ _ _ _ _ => ?_) (fun d ρ2 _ x _ _ _ _ _ _ _ => ed_bl)
      · subst e2
        exact ed_ixT (n := row.length) (ed_fld (ed_v 0) wc.cl wc.n3 (d := .tup (as.map .adr)) rfl) (ed_is (ed_lenT g.len (ed_v 2)) (by rw [List.length_map])) (by rw [List.getElem?_map, e]; rfl)
      · subst e2
        exact ets_one (et_is (et_lt (ed_v 5) (ed_lenT g.len (ed_v 2))) (by rw [List.length_map]))
      · subst e2
        obtain ⟨o, _, rfl⟩ := nKeys_mem.mp hx
        have hp := of_decide_eq_true hp
        exact ed_ixT (n := o) (ed_v 2) (ed_v 5) (at0_D (by omega))
    have hfree : ∀ c : Nat, (valD (dcD (fun x : Int => kN (Ma.at0 row x.toNat)) (fun _ => D.bl true) ((nKeys ts row.length).filter fun x => decide (x < (row.length : Int)))) (kN c)).isSome = !Ma.freeR (adjN ts) row c := fun c => by
      rw [Bool.eq_iff_iff, dcD_has, Bool.not_eq_true', ← Bool.not_eq_true, Ma.freeR_iff]
      constructor
      · intro hmem hall
        obtain ⟨x, hx, e⟩ := List.mem_map.mp hmem
        obtain ⟨h1, h2⟩ := List.mem_filter.mp hx
        obtain ⟨o, ho, rfl⟩ := nKeys_mem.mp h1
        have h2 := of_decide_eq_true h2
        have e : ((Ma.at0 row o : Nat) : Int) = (c : Int) := by injection e
        exact hall o (by omega) (decide_eq_true ho) (by omega)
      · intro hna
        have : ∃ o, o < row.length ∧ adjN ts row.length o = true ∧ Ma.at0 row o = c := Classical.byContradiction fun hn => hna fun o ho ha e => hn ⟨o, ho, ha, e⟩
        obtain ⟨o, ho, ha, e⟩ := this
        refine List.mem_map.mpr ⟨(o : Int), List.mem_filter.mpr ⟨nKeys_mem.mpr ⟨o, of_decide_eq_true ha, rfl⟩, decide_eq_true (by omega)⟩, ?_⟩
        show kN (Ma.at0 row ((o : Int)).toNat) = kN c
        rw [Int.toNat_natCast, e]
    refine Prod.execs_cons (X := bCx P w K mg base nRf "rows_from" (defScope sRf) f cdv A outer s H ex) ?_
    have hout : Ma.rowsR (adjN ts) (List.range h) (m + 1) row = ((List.range h).flatMap fun c => if Ma.freeR (adjN ts) row c = true then Ma.rowsR (adjN ts) (List.range h) m (row ++ [c]) else []) ++ [] := by
      rw [List.append_nil, ← rows_outs]; rfl
    rw [hout]
    refine Prod.forRangeD 4 (n := h) T hgd rfl b2 I2 (pg_name (i := 4) scRf.nd rfl (Or.inl rfl)) g.range (ed_v 1) (by omega) (fun i hi ip' c' fs' K' J' gd' lv' rest' σ3 H3 s4 p3 T3 hgd3 b3 I3 x3 k3 => ?_) fun σ3 H3 s4 p3 b3 x3 => ?_
    · refine Prod.execs_cons (X := bCx P w K mg base nRf "rows_from" (defScope sRf) f cdv A outer s H ex) ?_
      refine Prod.ifD (b0 := Ma.freeR (adjN ts) row i) T3 b3 I3 (et_is (et_dnotin (k := kN i) (hu_of hr) (ed_v 4) (ed_v 3)) (by rw [hfree, Bool.not_not])) fun H4 s5 p4 b4 x4 => ?_
      by_cases e : Ma.freeR (adjN ts) row i = true
      · rw [if_pos e, if_pos e]
        refine Prod.execs_cons (X := bCx P w K mg base nRf "rows_from" (defScope sRf) f cdv A outer s H ex) ?_
        refine Prod.yieldFromS (k := 1 + 3 * m) T3 hgd3 b4 hr (fun s6 J6 => gevD ih (hr.mono (by omega)) mR kR bR (es_cons (ed_v 0) (es_cons (ed_v 1) (es_cons (d := dR (row ++ [i])) (ed_is (ed_tup (es_star (ed_v 2) (es_cons (ed_v 4) es_nil)) (line_of (by simp; omega))) ?_) es_nil))) (I3.mono x4) ⟨row ++ [i], by rw [List.length_append]; show row.length + 1 + m = n; omega, fun c hcm => ?_, rfl, rfl⟩ J6) fun H5 s6 p5 b5 x5 => ?_
        · show D.tup _ = D.tup _
          rw [List.map_append]; rfl
        · rcases List.mem_append.mp hcm with z | z
          · exact hc c z
          · rw [List.mem_singleton.mp z]; exact hi
        · refine Prod.execs_nil (X := bCx P w K mg base nRf "rows_from" (defScope sRf) f cdv A outer s H ex) ?_
          refine Prod.execs_nil (X := bCx P w K mg base nRf "rows_from" (defScope sRf) f cdv A outer s H ex) ?_
          exact k3 _ _ _ b5 (x4.trans x5)
      · rw [if_neg e, if_neg e, List.nil_append]
        refine Prod.execs_nil (X := bCx P w K mg base nRf "rows_from" (defScope sRf) f cdv A outer s H ex) ?_
        refine Prod.execs_nil (X := bCx P w K mg base nRf "rows_from" (defScope sRf) f cdv A outer s H ex) ?_
        exact k3 _ _ _ b4 x4
    · refine Prod.execs_nil (X := bCx P w K mg base nRf "rows_from" (defScope sRf) f cdv A outer s H ex) ?_
      refine Prod.execs_nil (X := bCx P w K mg base nRf "rows_from" (defScope sRf) f cdv A outer s H ex) ?_
      exact hk _ _ _ _ b3 ((x1.trans x2).trans x3)
end
end Fa
set_option maxHeartbeats 4000000
/-! Fa18: colourings. -/
namespace Fa
open PySem PySem.Spec PyProof.Rows L2 Sm Tx Lo

section
variable {P : Program} {w : World} {K : PySem.W.Frag} {mg : Str → Option Value} {base : Heap} {f CW : Addr} {fd : FuncData}
abbrev nCg : List Str := ["web", "hues"]
theorem scCg : GScope nCg ["web", "hues"] (defScope sCg) := ⟨rfl, rfl, rfl, by decide +kernel, rfl, by decide +kernel, by decide +kernel⟩
/-- all rows of hues -/
def rowsF (n h : Nat) (ts : List (Nat × Nat)) : List (List Nat) := Ma.rowsR (adjN ts) (List.range h) n []
def phCg (CW n h : Nat) (ts : List (Nat × Nat)) (dl : List D) (ds : List (List Nat)) : Prop := dl = [dW CW n ts, nI h] ∧ ds = rowsF n h ts
theorem fnCg {n h : Nat} {ts : List (Nat × Nat)} {fR : Addr} {fdR : FuncData} (F : Fun K "colourings" "colourings" sCg f fd) (cA : Ca P w K mg base 2 "require_asked" (phRa CW)) (cE : Ca P w K mg base 1 "require_exact" (phRe CW)) (ok : WebOk n ts) (n7 : n ≤ 7) (h1 : 1 ≤ h) (h20 : h ≤ 20)
    {tk : Tok} (mM : mg "MAX_LISTED" = some (.int 7 tk)) (G : GFnE P w K mg base (1 + 3 * n) fR fdR ["web", "hues", "row"] (spG K (phRf CW n h ts n)) (RD K dR)) (mR : mg "rows_from" = some (.ref fR)) (kR : PySem.W.keepIn K (.ref fR) = true) (bR : Binds K fdR ["web", "hues", "row"] []) :
    GFnE P w K mg base (1 + 3 * n + 2 + 1) f fd ["web", "hues"] (spG K (phCg CW n h ts)) (RD K dR) := by
  obtain ⟨oc, od, kV, doc, pm, an, cdv, ct, osl, rfl, lk, hcd⟩ := F.ex
  refine gfnE_of lk hcd scCg (fun vs H ds ⟨dl, il, e, _⟩ => by rw [il.length, e]; rfl) fun A outer s H vs ds ex hr hsp Y Fin s2 T B KK J gd lv p hgd hk => ?_
  obtain ⟨dl, il, rfl, rfl⟩ := hsp
  have I : IsE (bCx P w K mg base nCg "colourings" (defScope sCg) f cdv A outer s H ex).K H (start nCg vs) [some (dW CW n ts), some (nI h)] := start_is (K := K) (N := nCg) il
  refine Prod.execs_cons (X := bCx P w K mg base nCg "colourings" (defScope sCg) f cdv A outer s H ex) ?_
  refine Prod.dropD T B I (ed_ca cA (hr.mono (by omega)) (es_cons (ed_v 0) (es_cons (ed_v 1) es_nil)) ⟨n, h, ts, h1, h20, rfl, rfl⟩) fun H1 s1 p1 b1 x1 => ?_
  refine Prod.execs_cons (X := bCx P w K mg base nCg "colourings" (defScope sCg) f cdv A outer s H ex) ?_
  refine Prod.dropD T b1 (I.mono x1) (ed_ca cE (hr.mono (by omega)) (es_cons (ed_v 0) (es_cons (ed_const mM) es_nil)) ⟨n, 7, ts, n7, rfl, rfl⟩) fun H2 s3 p2 b2 x2 => ?_
  refine Prod.execs_cons (X := bCx P w K mg base nCg "colourings" (defScope sCg) f cdv A outer s H ex) ?_
  rw [← List.append_nil (rowsF n h ts)]
  refine Prod.yieldFromS (k := 1 + 3 * n) T hgd b2 hr (fun s6 J6 => gevD G (hr.mono (by omega)) mR kR bR (es_cons (ed_v 0) (es_cons (ed_v 1) (es_cons (d := dR []) (ed_tup es_nil (line_of (by simp))) es_nil))) ((I.mono x1).mono x2) ⟨[], by simp, (fun c h => nomatch h), rfl, rfl⟩ J6) fun H5 s6 p5 b5 x5 => ?_
  refine Prod.execs_nil (X := bCx P w K mg base nCg "colourings" (defScope sCg) f cdv A outer s H ex) ?_
  exact hk _ _ _ _ b5 ((x1.trans x2).trans x5)
end
end Fa
set_option maxHeartbeats 4000000
/-! Fa19: the numbers agree. -/
namespace Fa
open PySem PySem.Spec PyProof.Rows L2 Sm Tx

theorem ties_lt {n : Nat} {ts : List (Nat × Nat)} (ok : WebOk n ts) : ∀ t ∈ ts, t.1 < t.2 ∧ t.2 < n := fun t ht => by
  have := ok.ok t ht
  unfold tieOk at this
  simp at this
  omega
theorem nbS_mem {ts : List (Nat × Nat)} {p o : Nat} : o ∈ nbS ts p ↔ (p, o) ∈ ts ∨ (o, p) ∈ ts := by
  rw [(nbS_perm ts p).mem_iff]
  unfold nbrs
  rw [List.mem_map]
  constructor
  · rintro ⟨⟨a, b⟩, h, e⟩
    obtain ⟨h1, h2⟩ := List.mem_filter.mp h
    rw [Bool.or_eq_true, decide_eq_true_iff, decide_eq_true_iff] at h2
    dsimp only at h2 e
    by_cases c : a = p
    · rw [if_pos c] at e; subst c e; exact .inl h1
    · rw [if_neg c] at e
      rcases h2 with h2 | h2
      · exact (c h2.symm).elim
      · subst h2 e; exact .inr h1
  · rintro (h | h)
    · exact ⟨(p, o), List.mem_filter.mpr ⟨h, by simp⟩, if_pos rfl⟩
    · by_cases c : o = p
      · subst c; exact ⟨(o, o), List.mem_filter.mpr ⟨h, by simp⟩, if_pos rfl⟩
      · exact ⟨(o, p), List.mem_filter.mpr ⟨h, by simp⟩, if_neg c⟩
theorem adj_eq (ts : List (Nat × Nat)) : adjN ts = Ma.adjT ts := by
  funext p o
  unfold Ma.adjT
  rw [Bool.eq_iff_iff, decide_eq_true_iff, nbS_mem, List.any_eq_true]
  constructor
  · rintro (h | h)
    · exact ⟨_, h, by simp⟩
    · exact ⟨_, h, by simp⟩
  · rintro ⟨t, h, e⟩
    rw [Bool.or_eq_true, beq_iff_eq, beq_iff_eq] at e
    rcases e with e | e <;> rw [← e]
    · exact .inl h
    · exact .inr h
theorem adj_ok {n : Nat} {ts : List (Nat × Nat)} (ok : WebOk n ts) : Ma.Adj (adjN ts) := by
  rw [adj_eq]
  exact Ma.adjT_adj fun t ht => (ties_lt ok t ht).1
theorem cntS_eqs (ts : List (Nat × Nat)) : ∀ r left m, cntF (chS ts) (r + 1) left m = ((Ma.aptA (adjN ts) left).map fun p => cntF (chS ts) r (Ma.lessA left p) m).sum := fun r left m => by
  show ((chS ts left m).map fun q => cntF (chS ts) r (lessF left q.1) q.2).sum = _
  rw [show chS ts left m = (aptF ts left).map fun p => (p, m) from rfl, List.map_map]
  rfl
theorem cntL_eqs (ts : List (Nat × Nat)) (n h : Nat) : ∀ r left m, cntF (chL ts n h) (r + 1) left m = (((Ma.aptA (adjN ts) left).filterMap (Ma.lvS (n / h) m)).map fun q => cntF (chL ts n h) r (Ma.lessA left q.1) q.2).sum := fun r left m => rfl
theorem cnt0 (ch : List Nat → Nat → List (List Nat × Nat)) : ∀ left m, cntF ch 0 left m = if left = [] then 1 else 0 := fun _ _ => rfl
/-- all rows: as many as counted -/
theorem all_rows {n h : Nat} {ts : List (Nat × Nat)} (ok : WebOk n ts) : (rowsF n h ts).length = cntF (chS ts) h (List.range n) 0 := by
  have h1 := Ma.cnt_all (adj_ok ok) (cnt := cntF (chS ts)) (cnt0 _) (cntS_eqs ts) (pal := List.range h) (left := List.range n) (m := 0) (g := fun _ => 0) List.nodup_range List.nodup_range
  rw [List.length_range] at h1
  rw [h1]
  exact Ma.rowsR_length (adj_ok ok)
theorem level_rows {n h : Nat} {ts : List (Nat × Nat)} (ok : WebOk n ts) : ((rowsF n h ts).filter fun row => Ma.clsR (Ma.lvC (n / h)) (List.range h) row).length = cntF (chL ts n h) h (List.range n) (n % h) := by
  have h1 := Ma.cnt_level (adj_ok ok) (l := n / h) (cnt := cntF (chL ts n h)) (cnt0 _) (cntL_eqs ts n h) (pal := List.range h) (left := List.range n) (m := n % h) (g := fun _ => 0) List.nodup_range List.nodup_range (by
    rw [List.length_range, List.length_range]
    have := Nat.div_add_mod n h
    omega)
  rw [List.length_range] at h1
  rw [h1]
  exact Ma.rowsR_level (adj_ok ok)
theorem layers_eq {n h : Nat} {ts : List (Nat × Nat)} (hp : 1 ≤ h) : Ma.getL (Ma.layN (adjN ts) (n / h) h [((List.range n, n % h), 1)]) ([], 0) = cntF (chL ts n h) h (List.range n) (n % h) :=
  Ma.layers_cnt hp (cnt0 _) (cntL_eqs ts n h)
theorem number_eq {n h : Nat} {ts : List (Nat × Nat)} (ok : WebOk n ts) : Ma.countT ts h n = cntF (chS ts) h (List.range n) 0 := by
  have h1 := Ma.cnt_all (adj_ok ok) (cnt := cntF (chS ts)) (cnt0 _) (cntS_eqs ts) (pal := List.range h) (left := List.range n) (m := 0) (g := fun _ => 0) List.nodup_range List.nodup_range
  rw [List.length_range] at h1
  rw [h1, adj_eq]
  exact Ma.countT_NF (ties_lt ok)
theorem rows_ok {n h : Nat} {ts : List (Nat × Nat)} (ok : WebOk n ts) {row : List Nat} (hr : row ∈ rowsF n h ts) : row.length = n ∧ (∀ c ∈ row, c < h) ∧ Ma.okT ts row = true := by
  obtain ⟨h1, h2, h3⟩ := Ma.rowsR_mem (adj_ok ok) hr rfl fun c hc => nomatch hc
  have hl : row.length = n := by rw [h2]; simp
  refine ⟨hl, fun c hc => List.mem_range.mp (h3 c hc), ?_⟩
  rw [← Ma.okR_okT (by rw [hl]; exact ties_lt ok), ← adj_eq]
  exact h1
theorem rows_few {n h : Nat} {ts : List (Nat × Nat)} (ok : WebOk n ts) : (rowsF n h ts).length ≤ h ^ n := by
  rw [all_rows ok, ← number_eq ok, ← Ma.countT_nil (h := h) (n := n)]
  unfold Ma.countT
  have : ∀ (F G : List Nat → Nat) (k : Nat), (∀ r, F r ≤ G r) → Ma.SL (List.range h) k F ≤ Ma.SL (List.range h) k G := by
    intro F G k
    induction k generalizing F G with
    | zero => intro hh; exact hh []
    | succ k ih =>
      intro hh
      unfold Ma.SL
      have mono : ∀ (l : List Nat) (f g : Nat → Nat), (∀ x, f x ≤ g x) → (l.map f).sum ≤ (l.map g).sum := by
        intro l f g hfg
        induction l with
        | nil => exact Nat.le_refl _
        | cons a l ihl => simp only [List.map_cons, List.sum_cons]; have := hfg a; omega
      exact mono _ _ _ fun c => ih _ _ fun r => hh (c :: r)
  refine this _ _ n fun r => ?_
  show _ ≤ if Ma.okT [] r = true then 1 else 0
  have : Ma.okT [] r = true := rfl
  rw [this, if_pos rfl]
  split <;> omega
end Fa
set_option maxHeartbeats 4000000
/-! Fa20: the loud defs of the law. -/
namespace Fa
open PySem PySem.Spec PyProof.Rows L2 Sm Tx Lo

theorem ltR_app {r a b : List Nat} : ltR (r ++ a) (r ++ b) ↔ ltR a b := by
  induction r with
  | nil => exact Iff.rfl
  | cons c r ih =>
    show (c < c ∨ (c = c ∧ ltR (r ++ a) (r ++ b))) ↔ _
    rw [ih]
    exact ⟨fun h => h.elim (fun z => absurd z (Nat.lt_irrefl _)) fun z => z.2, fun h => .inr ⟨rfl, h⟩⟩
theorem rowsR_pre {adj : Nat → Nat → Bool} {pal : List Nat} : ∀ {k : Nat} {row x : List Nat}, x ∈ Ma.rowsR adj pal k row → ∃ t, x = row ++ t
  | 0, row, x, h => ⟨[], by unfold Ma.rowsR at h; rw [List.mem_singleton.mp h, List.append_nil]⟩
  | k + 1, row, x, h => by
    unfold Ma.rowsR at h
    obtain ⟨c, _, hx⟩ := List.mem_flatMap.mp h
    obtain ⟨t, rfl⟩ := rowsR_pre hx
    exact ⟨c :: t, by rw [List.append_assoc]; rfl⟩
/-- the rows ascend -/
theorem rowsR_asc {adj : Nat → Nat → Bool} {pal : List Nat} (hp : pal.Pairwise (· < ·)) : ∀ {k : Nat} {row : List Nat}, (Ma.rowsR adj pal k row).Pairwise ltR
  | 0, row => by unfold Ma.rowsR; exact List.pairwise_singleton _ _
  | k + 1, row => by
    unfold Ma.rowsR
    have hp2 : (pal.filter (Ma.freeR adj row)).Pairwise (· < ·) := hp.sublist List.filter_sublist
    generalize pal.filter (Ma.freeR adj row) = cs at hp2
    induction cs with
    | nil => exact List.Pairwise.nil
    | cons c cs ih =>
      obtain ⟨h1, h2⟩ := List.pairwise_cons.mp hp2
      rw [List.flatMap_cons]
      refine List.pairwise_append.mpr ⟨rowsR_asc hp, ih h2, fun x hx y hy => ?_⟩
      obtain ⟨d, hd, hy⟩ := List.mem_flatMap.mp hy
      obtain ⟨t, rfl⟩ := rowsR_pre hx
      obtain ⟨u, rfl⟩ := rowsR_pre hy
      rw [List.append_assoc, List.append_assoc, ltR_app]
      exact .inl (h1 d hd)
theorem ltP2_of {s t : Nat × Nat} (h : ltT s t = true) : ltP2 s t := by
  unfold ltT at h
  rw [HT.lexLt_cons] at h
  unfold ltP2
  by_cases e : (s.1 : Int) = (t.1 : Int)
  · rw [if_pos e, HT.lexLt_cons] at h
    by_cases e2 : (s.2 : Int) = (t.2 : Int)
    · rw [if_pos e2] at h; cases h
    · rw [if_neg e2] at h
      have := of_decide_eq_true h
      exact .inr ⟨by omega, by omega⟩
  · rw [if_neg e] at h
    have := of_decide_eq_true h
    exact .inl (by omega)
theorem asc_pw : ∀ {ts : List (Nat × Nat)}, ascT ts = true → ts.Pairwise ltP2
  | [], _ => List.Pairwise.nil
  | [_], _ => List.pairwise_singleton _ _
  | s :: t :: ts, h => by
    unfold ascT at h
    rw [List.drop_succ_cons, List.drop_zero, List.zip_cons_cons, List.all_cons, Bool.and_eq_true] at h
    have h1 : ltP2 s t := ltP2_of h.1
    have ih : (t :: ts).Pairwise ltP2 := asc_pw (by unfold ascT; rw [List.drop_succ_cons, List.drop_zero]; exact h.2)
    refine List.pairwise_cons.mpr ⟨fun u hu => ?_, ih⟩
    rcases List.mem_cons.mp hu with e | e
    · rw [e]; exact h1
    · have h2 := (List.pairwise_cons.mp ih).1 u e
      unfold ltP2 at h1 h2 ⊢
      omega
theorem ascT_pw {n : Nat} {ts : List (Nat × Nat)} (ok : WebOk n ts) : ts.Pairwise ltP2 := asc_pw ok.asc
section
variable {P : Program} {w : World} {K : PySem.W.Frag} {mg : Str → Option Value} {base : Heap} {f CW : Addr} {fd : FuncData}
/-! ### _law_listed_right -/
abbrev nLr : List Str := ["_law_plain", "_law_made", "_law_hues_here", "_law_rows", "_law_row"]
theorem scLr : FnScope nLr ["_law_plain", "_law_made", "_law_hues_here"] (defScope sLr) := ⟨rfl, rfl, rfl, by decide +kernel, rfl, by decide +kernel, by decide +kernel⟩
def phLr (CW : Addr) (ds : List D) (d : D) : Prop := ∃ (n h : Nat) (ts : List (Nat × Nat)), WebOk n ts ∧ n ≤ 7 ∧ 1 ≤ h ∧ h ≤ 20 ∧ h ^ n < 3000 ∧ ds = [plainD n ts, dW CW n ts, nI h] ∧ d = .bl true
/-- colourings, for any web and hues -/
def CaG (P : Program) (w : World) (K : PySem.W.Frag) (mg : Str → Option Value) (base : Heap) (CW : Addr) : Prop :=
  ∃ (f : Addr) (fd : FuncData), (∀ n h ts, WebOk n ts → n ≤ 7 → 1 ≤ h → h ≤ 20 → GFnE P w K mg base (1 + 3 * n + 2 + 1) f fd ["web", "hues"] (spG K (phCg CW n h ts)) (RD K dR)) ∧ mg "colourings" = some (.ref f) ∧ PySem.W.keepIn K (.ref f) = true ∧ Binds K fd ["web", "hues"] []
theorem fnLr (F : Fun K "_law_listed_right" "_law_listed_right" sLr f fd) (g : Gn mg) (cG : CaG P w K mg base CW) (cC : Ca P w K mg base 25 "count_colourings" (phCc CW)) (cL : Ca P w K mg base 25 "count_level" (phCl CW)) (cI : Ca P w K mg base 2 "_law_is_colouring" phIc) (cV : Ca P w K mg base 2 "_law_is_level" phIl) :
    FnE P w K mg base 29 f fd ["_law_plain", "_law_made", "_law_hues_here"] (spP K (phLr CW)) := by
  refine fnE_sc F scLr (fun ds d ⟨_, _, _, _, _, _, _, _, e, _⟩ => by rw [e]; rfl) (fun ds d ⟨_, _, _, _, _, _, _, _, _, e⟩ => ⟨true, e⟩) fun cdv A outer s H E hr ds d hφ H0 => ?_
  obtain ⟨n, h, ts, ok, n7, h1, h20, hpw, rfl, rfl⟩ := hφ
  obtain ⟨fG, fdG, G, mG, kG, bG⟩ := cG
  have hx : NoX (cxOf CX0 P w K mg base nLr "_law_listed_right" (defScope sLr) f cdv A outer s H E).nox := fun _ _ z => z
  have hlen : (rowsF n h ts).length < 3000 := Nat.lt_of_le_of_lt (rows_few ok) hpw
  have hline : (rowsF n h ts).length ≤ sizeLine := Nat.le_trans (Nat.le_of_lt hlen) (by decide)
  refine ebl_set 3 scLr.nd (ewl_listG (enc := dR) (ds := rowsF n h ts) wm_mono hx (G n h ts ok n7 h1 h20) (hr.mono (by omega)) mG kG bG g.list (es_cons (ed_v 1) (es_cons (ed_v 2) es_nil)) ⟨rfl, rfl⟩ hline) fun d e => ?_
  subst e
  refine ebl_ifRet (T := (· = false)) (twl_of hx (tw_et (et_is (eo_et (eo_orF (et_is (et_ne (ed_lenL g.len (ed_v 3)) (ed_ca cC (hr.mono (by omega)) (es_cons (ed_v 1) (es_cons (ed_v 2) es_nil)) ⟨n, h, ts, ok, by omega, h1, h20, rfl, rfl⟩)) ?_)
    (eo_or1 (Eqd.nat.tup.lst.et_ne hr.units (by decide) (rowsF n h ts) (rowsF n h ts) (ed_v 3) (ed_sortRows (rowsF n h ts) rfl hr.units g.sorted g.set (ed_v 3) hlen (fun row hrow e => by have z := (rows_ok ok hrow).1; rw [e] at z; have y := ok.pos; rw [← z] at y; exact absurd y (by decide)) (rowsR_asc List.pairwise_lt_range)))))) (by simp)))) (fun z => nomatch z) fun _ => ?_
  · rw [List.length_map, all_rows ok]; simp
  refine ebl_ifRet (T := (· = false)) (twl_of hx (tw_et (et_is (Eqd.nat.tup.lst.et_ne hr.units (by decide) ([] : List (List Nat)) [] (ed_is (ed_lc1 (xs := rowsF n h ts) dR 4 (p := fun _ => false) (f := dR) rfl scLr.nd (ei_list (ed_v 3)) (blkOk_by (N := nLr) (sc := defScope sLr) (by decide +kernel)) hline
    (fun row hrow _ _ _ _ _ => ets_one (et_is (et_not (et_val (ed_ca cI (hr.mono (by omega)) (es_cons (ed_v 0) (es_cons (ed_v 2) (es_cons (ed_v 4) es_nil))) ⟨n, h, ts, row, ok, (rows_ok ok hrow).1, (rows_ok ok hrow).2.1, rfl, rfl⟩))) (by rw [(rows_ok ok hrow).2.2]; rfl)))
    fun row _ e _ _ _ _ _ => nomatch e) (by rw [List.filter_eq_nil_iff.mpr fun _ _ => Bool.false_ne_true])) (ed_lst es_nil (line_of (by simp)))) (by simp)))) (fun z => nomatch z) fun _ => ?_
  refine ebl_ret (P := (· = .bl true)) (ewl_of hx (EW.imp (ew_ed (Sm.ed_eq (ed_lenL g.len (ed_lc1 (xs := rowsF n h ts) dR 4 (p := fun row => Ma.clsR (Ma.lvC (n / h)) (List.range h) row) (f := dR) rfl scLr.nd (ei_list (ed_v 3)) (blkOk_by (N := nLr) (sc := defScope sLr) (by decide +kernel)) hline
    (fun row hrow _ _ _ _ _ => ets_one (et_is (et_val (ed_ca cV (hr.mono (by omega)) (es_cons (ed_v 2) (es_cons (ed_v 4) es_nil)) ⟨h, row, h1, h20, (rows_ok ok hrow).2.1, rfl, rfl⟩)) (by rw [(rows_ok ok hrow).1]))) fun row _ _ _ _ _ _ _ => ed_v 4))
    (ed_ca cL (hr.mono (by omega)) (es_cons (ed_v 1) (es_cons (ed_v 2) es_nil)) ⟨n, h, ts, ok, by omega, h1, h20, rfl, rfl⟩))) fun d e => ?_)) fun d Hb H e x => ⟨e, x⟩
  rw [e, List.length_map, level_rows ok, decide_eq_true rfl]
/-! ### _law_right -/
abbrev nRt : List Str := ["_law_dice_here", "_law_plain", "_law_made", "_law_near_here", "_law_turn", "_law_hues_here"]
theorem scRt : FnScope nRt ["_law_dice_here"] (defScope sRt) := ⟨rfl, rfl, rfl, by decide +kernel, rfl, by decide +kernel, by decide +kernel⟩
def phRt (ds : List D) (a : Addr) (G : As) (R : D → Prop) : Prop := ds = [.adr a] ∧ G = Dc a ∧ R = (· = .bl true)
theorem fnRt (F : Fun K "_law_right" "_law_right" sRt f fd) (g : Gn mg) (cW : CaC P w K mg base 5 "_law_web" phWb) (cM : Ca P w K mg base 6 "_law_made_web" (phMw CW)) (cN : Ca P w K mg base 1 "_law_near" phNe) (cH : CaC P w K mg base 2 "_law_hues" phHu)
    (cC : Ca P w K mg base 25 "count_colourings" (phCc CW)) (cL : Ca P w K mg base 25 "count_level" (phCl CW)) (cU : CaC P w K mg base 23 "_law_number" (phNu P w K 21)) (cLn : Ca P w K mg base 1 "_law_level_number" phLn) (cP : Ca P w K mg base 1 "_law_power" phPw) (cLr : CaPL P w K mg base 29 "_law_listed_right" (phLr CW)) :
    FnE P w K mg base 30 f fd ["_law_dice_here"] (spC K phRt) := by
  refine fnE_C F scRt (fun ds a G R ⟨e, _⟩ => by rw [e]; rfl) fun cdv A outer s H E hr ds a G R hφ Hb0 H0 => ?_
  obtain ⟨rfl, rfl, rfl⟩ := hφ
  have hx : NoX (cxOf CX0 P w K mg base nRt "_law_right" (defScope sRt) f cdv A outer s H E).nox := fun _ _ z => z
  refine ebl_set 1 scRt.nd (ewl_of hx (ew_ca (a := a) (G := Dc a) cW (hr.mono (by decide)) (es_cons (ed_v 0) (es_cons ed_int (es_cons ed_int es_nil))) ⟨rfl, rfl, rfl⟩)) fun d ⟨n, ts, ok, n7, e⟩ => ?_
  subst e
  refine ebl_seq hx (N1 := fun ρ' => Pr (ρ' = [some (.adr a), some (plainD n ts), some (dW CW n ts), some (nearL n ts), none, none]) (FrC (Dc a) a (Xt Hb0 H0))) (eb_par 2 3 rfl scRt.nd (es_cons (ed_ca cM (hr.mono (by decide)) (es_cons (ed_v 1) es_nil) ⟨n, ts, ok, rfl, rfl⟩) (es_cons (ed_ca cN (hr.mono (by decide)) (es_cons (ed_v 1) es_nil) ⟨n, ts, ok, rfl, rfl⟩) es_nil)) (eb_nil fun Hb H w => ⟨rfl, w⟩)) fun ρ' => ?_
  refine ebl_pr fun e1 => ?_
  subst e1
  refine ebl_for (W := FrC (Dc a) a (Xt Hb0 H0)) (xs := List.range 2) nI (g := gName 4) (τ := fun ρ i => ρ.set 4 (some (nI i))) (fun i ρ' => Pr (∃ o4 o5, ρ' = [some (.adr a), some (plainD n ts), some (dW CW n ts), some (nearL n ts), o4, o5]) (FrC (Dc a) a (Xt Hb0 H0))) hx rfl
    (ei_is (ei_range1 g.range ed_int (by decide)) (rngD_0 2)) (pg_name (i := 4) scRt.nd rfl (Or.inl rfl)) (fun d _ ρ Hb H σ x _ I q Q k => k _ (I.set 4 q)) (fun Hb H w => ⟨⟨none, none, rfl⟩, w⟩) (fun i t hit ρ' => ?_) fun ρ' => ?_
  · refine ebl_pr fun ⟨o4, o5, e⟩ => ?_
    subst e
    refine ebl_set (W := FrC (Dc a) a (Xt Hb0 H0)) 5 scRt.nd (ewl_of hx (ew_ca (a := a) (G := Dc a) cH (hr.mono (by decide)) (es_cons (ed_v 0) (es_cons (ed_dget (k := .inr "size") (d := nI n) (hu_of hr) (ed_v 1) ed_str rfl) es_nil)) ⟨n, n7, rfl, rfl, rfl⟩)) fun d ⟨h, h1, h20, e⟩ => ?_
    subst e
    refine ebl_ifRet (T := (· = false)) (twl_of hx (tw_et (et_is (et_ne (ed_ca cC (hr.mono (by decide)) (es_cons (ed_v 2) (es_cons (ed_v 5) es_nil)) ⟨n, h, ts, ok, by omega, h1, h20, rfl, rfl⟩)
      (ed_caNew (d := nI (Ma.countT ts h n)) (Ψ := PsM h) cU (hr.mono (by decide)) (ed_dget (k := .inr "size") (d := nI n) (hu_of hr) (ed_v 1) ed_str rfl) (ed_dget (k := .inr "ties") (d := .lst (ts.map dT)) (hu_of hr) (ed_v 1) ed_str rfl) (ed_v 5) (fun x hx => nomatch hx) fun q => ⟨n, h, ts, ?_, ?_, h20, rfl, rfl, rfl⟩)) ?_))) (fun z => nomatch z) fun _ => ?_
    · exact ⟨ok.pos, n7, ascT_pw ok, ties_lt ok⟩
    · exact (NumOk.few ⟨ok.pos, n7, ascT_pw ok, ties_lt ok⟩)
    · rw [number_eq ok]; simp
    refine ebl_ifRet (T := (· = false)) (twl_of hx (tw_et (et_is (et_ne (ed_ca cL (hr.mono (by decide)) (es_cons (ed_v 2) (es_cons (ed_v 5) es_nil)) ⟨n, h, ts, ok, by omega, h1, h20, rfl, rfl⟩)
      (ed_ca cLn (hr.mono (by decide)) (es_cons (ed_v 3) (es_cons (ed_v 5) es_nil)) ⟨n, h, ts, ok, n7, h1, h20, rfl, rfl⟩)) ?_))) (fun z => nomatch z) fun _ => ?_
    · rw [layers_eq h1]; simp
    refine ebl_ifRet (twl_and (T1 := (· = decide (((h ^ n : Nat) : Int) < 3000))) (T2 := fun r => (!r) = true) (twl_of hx (tw_et (et_lt (ed_ca cP (hr.mono (by decide)) (es_cons (ed_v 5) (es_cons (ed_dget (k := .inr "size") (d := nI n) (hu_of hr) (ed_v 1) ed_str rfl) es_nil)) ⟨h, n, h20, by omega, rfl, rfl⟩) ed_int))) fun hlt =>
      twl_not (T := fun b => b = true) (twl_val (EWL.imp (ewl_ca hx cLr hr (es_cons (ed_v 1) (es_cons (ed_v 2) (es_cons (ed_v 5) es_nil))) ⟨n, h, ts, ok, n7, h1, h20, by have := of_decide_eq_true hlt.symm; omega, rfl, rfl⟩) fun d e => ⟨true, e, rfl⟩))) (fun z => ?_) fun _ => ?_
    · rcases z with ⟨_, z⟩ | ⟨_, z⟩ <;> cases z
    · exact ebl_of hx (eb_nil fun Hb H w => ⟨⟨_, _, rfl⟩, w⟩)
  · refine ebl_pr fun ⟨o4, o5, e⟩ => ?_
    subst e
    exact ebl_ret (W := FrC (Dc a) a (Xt Hb0 H0)) (ewl_of hx (ew_ed ed_bl)) fun d Hb H e w => ⟨e, w⟩
end
end Fa
set_option maxHeartbeats 4000000
/-! Fa21: the law. -/
namespace Fa
open PySem PySem.Spec PyProof.Rows L2 Sm Tx Lo

/-- a number, or rows -/
def mI : Int ⊕ List (List Nat) → D
  | .inl i => .int i
  | .inr rows => .lst (rows.map dR)
def mixE : Eqd mI where
  py := fun | .inl i => .int i | .inr rows => Eqd.nat.tup.lst.py rows
  dp {K H x v} h := by
    cases x with
    | inl i => exact Eqd.int.dp h
    | inr rows => exact Eqd.nat.tup.lst.dp h
  eq x y := by
    cases x with
    | inl i =>
      cases y with
      | inl j => exact (Eqd.int.eq i j).trans ⟨fun h => by rw [h], fun h => by cases h; rfl⟩
      | inr r => exact ⟨fun h => by simp [Eqd.lst, PyData.eqv] at h, fun h => by cases h⟩
    | inr r =>
      cases y with
      | inl j => exact ⟨fun h => by simp [Eqd.lst, PyData.eqv] at h, fun h => by cases h⟩
      | inr r2 => exact (Eqd.nat.tup.lst.eq r r2).trans ⟨fun h => by rw [h], fun h => by cases h; rfl⟩
  lay x := by
    cases x with
    | inl i => exact Eqd.int.lay i
    | inr r => exact Eqd.nat.tup.lst.lay r
  dep := Eqd.nat.tup.lst.dep
  hdep x := by
    cases x with
    | inl i => exact Nat.le_trans (Eqd.int.hdep i) (Nat.zero_le _)
    | inr r => exact Eqd.nat.tup.lst.hdep r
section
variable {X : Cx} {W : As} {ρ : En} {e : Expr} {es : List Expr} {ds : List D} {x y : Str} {p pp pos spos : Pos} {k : Nat} {rest : List Stmt} {N : En → As} {R : D → As} {B C : En → As}
/-- x = f(..), f a def that gives a new list -/
def CaN (P : Program) (w : World) (K : PySem.W.Frag) (mg : Str → Option Value) (base : Heap) (k : Nat) (x : Str) (φ : List D → (List D → Prop) → Prop) : Prop :=
  ∃ (f : Addr) (fd : FuncData) (ps : List Str), FnOk P w K mg base CX0 k f fd ps (spNL K φ) ∧ mg x = some (.ref f) ∧ PySem.W.keepIn K (.ref f) = true ∧ Binds K fd ps []
theorem eb_setNL (j : Nat) {φ : List D → (List D → Prop) → Prop} {Ψ : List D → Prop} [Stb W] (F : CaN X.prog X.w X.K X.mg X.base k x φ) (hr : Room k X.A) (hN : X.N.Nodup) (hs : ES X ρ (e :: es) ds) (hφ : φ ds Ψ) (kk : ∀ l fs, Ψ fs → EB X (Fram X.K W l fs) (ρ.set j (some (.adr l))) rest N R B C)
    (hi : X.N[j]? = some y := by rfl) (hx : Loc X.env.scope y := by first | exact Or.inl rfl | exact Or.inr rfl) (hsw : swapsWith (.Call (.Name x p) (e :: es) [] pos) (some (.Name y pp)) spos.line X.env = pure false := by rfl) (hf : X.fn y = true ∨ X.env.scope.names.lookup y = some .local := by first | exact .inl rfl | exact .inr rfl)
    (hg : Gl X x := by rfl) (hdb : (x == ("__debug__" : Str)) = false := by decide) (he : starEach (e :: es) X.env = (false, eval e X.env) :: starEach es X.env := by rfl) (hpl : (backTo pos (starEach es X.env)).any (·.1) = false := by rfl) :
    EB X W ρ (.Assign [.Name y pp] (.Call (.Name x p) (e :: es) [] pos) spos :: rest) N R B C := by
  obtain ⟨f, fd, ps, F, h1, h2, h3⟩ := F
  obtain ⟨ta, hp, q⟩ := hs
  refine eb_st (N1 := fun ρ' Hb H => ∃ l fs, Ψ fs ∧ ρ' = ρ.set j (some (.adr l)) ∧ Fram X.K W l fs Hb H) (ps_set hN hi hx (pe_call F hr hg h1 h2 h3 .nil pass0 hp hdb he hpl) hsw hf) (fun Hb H σ x1 I w Nx kn => ?_) fun ρ' Hb H σ x I ⟨l, fs, ψ, e, w⟩ => by subst e; exact kk l fs ψ Hb H σ x I w
  refine q Hb H σ x1 I _ fun vs H1 Hb1 x2 q1 => ?_
  rw [List.append_nil]
  refine ⟨Hb1, ds, Ψ, x2.in_, q1, hφ, fun l Hb' H' fs ψ e1 fr => ?_⟩
  exact kn _ _ _ Hb' (x2.b.trans fr.2.2.b) e1 ((I.mono (x2.b.trans fr.2.2.b)).set j (is_adr.mpr rfl)) ⟨l, fs, ψ, rfl, fr.1, fr.2.1, Stb.st (Stb.st w x2) fr.2.2⟩
end
section
variable {P : Program} {w : World} {K : PySem.W.Frag} {mg : Str → Option Value} {base : Heap} {f CW : Addr} {fd : FuncData}
abbrev nLw : List Str := ["_law_script", "_law_at", "_law_dice_here", "_law_ring", "_law_told"]
theorem scLw : FnScope nLw ["_law_script"] (defScope sLw) := ⟨rfl, rfl, rfl, by decide +kernel, rfl, by decide +kernel, by decide +kernel⟩
def phLw (ds : List D) (d : D) : Prop := ∃ sc : List Int, ds = [.scr (sc.map .int)] ∧ d = .bl true
def ring5 : List (Nat × Nat) := [(0, 1), (0, 4), (1, 2), (2, 3), (3, 4)]
theorem ok5 : WebOk 5 ring5 := ⟨by decide, by decide, by decide, by decide +kernel, by decide +kernel⟩
theorem okE {n : Nat} (h1 : 1 ≤ n) (h2 : n ≤ 10) : WebOk n [] := ⟨h1, h2, by decide, fun t h => (nomatch h), rfl⟩
theorem rd_cat {ds ds2 : List D} (hz : ds.length + ds2.length ≤ sizeLine) : R2D K rCat (.lst ds) (.lst ds2) (.lst (ds ++ ds2)) := fun Hb H v w e h1 h2 Q q => by
  obtain ⟨a, vs, rfl, ha, hv⟩ := is_lst.mp h1
  obtain ⟨b, ws, rfl, hb, hw⟩ := is_lst.mp h2
  exact ⟨a, b, vs, ws, rfl, rfl, e _ _ ha, e _ _ hb, by rw [hv.length, hw.length]; exact hz, fun p hp => q _ _ (gd_lst e hp (hv.append hw))⟩
theorem n1 : cntF (chS ring5) 3 (List.range 5) 0 = 30 := by rw [← number_eq ok5]; decide +kernel
theorem n2 : cntF (chL ring5 5 3) 3 (List.range 5) (5 % 3) = 30 := by rw [← layers_eq (by decide), adj_eq]; decide +kernel
theorem n3 : cntF (chS []) 10 (List.range 4) 0 = 10000 := by rw [← number_eq (okE (by decide) (by decide)), Ma.countT_nil]
theorem n4 : cntF (chL [] 3 20) 20 (List.range 3) (3 % 20) = 6840 := by rw [← layers_eq (by decide)]; decide +kernel
theorem n5 : rowsF 2 1 [] = [[0, 0]] := by decide +kernel
theorem fnLw {fW fG : Addr} {fdW fdG : FuncData} {tE : Addr} (F : Fun K "law" "law" sLw f fd) (g : Gn mg) (cD : CaN P w K mg base 1 "_law_dice" phDi) (cR : CaCL P w K mg base 30 "_law_right" phRt) (cC : Ca P w K mg base 25 "count_colourings" (phCc CW)) (cL : Ca P w K mg base 25 "count_level" (phCl CW)) (cG : CaG P w K mg base CW)
    (M : Mk K CW fW) (GW : FnOk P w K mg base CX0 4 fW fdW ["self", "size", "ties"] (spI K CW phWeb)) (bW : Binds K fdW ["self", "size", "ties"] []) (bE : Binds K fdW ["self", "size", "ties"] [.ref tE]) (hE : ∀ Hb, Is K Hb (.tup []) (.ref tE)) (mW : mg "Web" = some (.ref CW)) :
    FnE P w K mg base 31 f fd ["_law_script"] (spP K phLw) := by
  refine fnE_sc F scLw (fun ds d ⟨_, e, _⟩ => by rw [e]; rfl) (fun ds d ⟨_, _, e⟩ => ⟨true, e⟩) fun cdv A outer s H E hr ds d hφ H0 => ?_
  obtain ⟨sc, rfl, rfl⟩ := hφ
  obtain ⟨fG', fdG', G, mG, kG, bG⟩ := cG
  have hx : NoX (cxOf CX0 P w K mg base nLw "law" (defScope sLw) f cdv A outer s H E).nox := fun _ _ z => z
  refine ebl_for (xs := List.range (max 1 (min 4 sc.length))) nI (g := gName 1) (τ := fun ρ i => ρ.set 1 (some (nI i))) (fun i ρ' => Pr (∃ o1 o2, ρ' = [some (.scr (sc.map .int)), o1, o2, none, none]) (Wm H0)) hx rfl
    (ei_is (ei_range1 (n := max 1 (min 4 sc.length)) g.range (ed_is (ed_max2 rfl g.max ed_int (ed_min2 rfl g.min ed_int (ed_lenS g.len (ed_v 0)))) ?_) (by omega)) (rngD_0 _)) (pg_name (i := 1) scLw.nd rfl (Or.inl rfl)) (fun d _ ρ Hb H σ x _ I q Q k => k _ (I.set 1 q)) (fun Hb H w => ⟨⟨none, none, rfl⟩, w⟩) (fun i t hit ρ' => ?_) fun ρ' => ?_
  · rw [List.length_map]
    show D.int _ = D.int ((max 1 (min 4 sc.length) : Nat) : Int)
    congr 1
    split <;> split <;> omega
  · refine ebl_pr fun ⟨o1, o2, e⟩ => ?_
    subst e
    refine ebl_seq hx (N1 := fun ρ' => Exs fun l : Addr => Pr (ρ' = [some (.scr (sc.map .int)), some (nI t), some (.adr l), none, none]) (FrC (Dc l) l (Wm H0))) (eb_setNL 2 (Ψ := threeI) cD (hr.mono (by decide)) scLw.nd (es_cons (ed_v 0) (es_cons (ed_v 1) es_nil)) ⟨sc, t, rfl, rfl⟩ fun l fs ψ => eb_nil fun Hb H w => ⟨l, rfl, dice_back ψ w⟩) fun ρ' => ebl_exs fun l => ebl_pr fun e => ?_
    subst e
    refine ebl_ifRet (W := FrC (Dc l) l (Wm H0)) (twl_or (T1 := fun b => (!b) = true) (T2 := fun b => (!b) = true) (twl_not (T := fun b => b = true) (twl_val (EWL.imp (ewl_caC (a := l) (G := Dc l) hx cR hr (es_cons (ed_v 2) es_nil) ⟨rfl, rfl, rfl⟩) fun d e => ⟨true, e, rfl⟩))) fun _ => (twl_not (T := fun b => b = true) (twl_val (EWL.imp (ewl_caC (a := l) (G := Dc l) hx cR hr (es_cons (ed_v 2) es_nil) ⟨rfl, rfl, rfl⟩) fun d e => ⟨true, e, rfl⟩)))) (fun z => ?_) fun _ => ebl_of hx (eb_drop1 (eb_nil fun Hb H w => ⟨⟨_, _, rfl⟩, w⟩))
    rcases z with ⟨z, _⟩ | ⟨_, z⟩ <;> cases z
  · refine ebl_pr fun ⟨o1, o2, e⟩ => ?_
    subst e
    refine ebl_set 3 (P := (· = dW CW 5 ring5)) scLw.nd (ewl_of hx (ew_ed (ed_mk (ds := [nI 5, .tup (ring5.map dT)]) (dd := []) (fs := webF 5 ring5) M GW (hr.mono (by decide)) mW bW .nil (fun _ => isL_nil.mpr rfl)
      (es_cons ed_int (es_cons (ed_tup (es_cons (ed_tup (es_cons ed_int (es_cons ed_int es_nil)) (line_of (by simp))) (es_cons (ed_tup (es_cons ed_int (es_cons ed_int es_nil)) (line_of (by simp))) (es_cons (ed_tup (es_cons ed_int (es_cons ed_int es_nil)) (line_of (by simp))) (es_cons (ed_tup (es_cons ed_int (es_cons ed_int es_nil)) (line_of (by simp))) (es_cons (ed_tup (es_cons ed_int (es_cons ed_int es_nil)) (line_of (by simp))) es_nil))))) (line_of (by decide))) es_nil)) ⟨5, ring5, ok5, rfl, rfl⟩))) fun d e => ?_
    subst e
    have wb : ∀ (n : Nat), 1 ≤ n → n ≤ 10 → phWeb ([nI n] ++ [.tup []]) (webF n []) := fun n h1 h2 => ⟨n, [], okE h1 h2, rfl, rfl⟩
    refine ebl_set 4 (P := (· = .lst ([.inl 30, .inl 30, .inl 10000, .inl 6840].map mI))) scLw.nd (ewl_of hx (ew_ed (ed_lst (es_cons (ed_is (ed_ca cC (hr.mono (by decide)) (es_cons (ed_v 3) (es_cons ed_int es_nil)) ⟨5, 3, ring5, ok5, by decide, by decide, by decide, rfl, rfl⟩) (by rw [n1]; rfl)) (es_cons (ed_is (ed_ca cL (hr.mono (by decide)) (es_cons (ed_v 3) (es_cons ed_int es_nil)) ⟨5, 3, ring5, ok5, by decide, by decide, by decide, rfl, rfl⟩) (by rw [n2]; rfl))
      (es_cons (ed_is (ed_ca cC (hr.mono (by decide)) (es_cons (ed_mk (ds := [nI 4]) (dd := [.tup []]) (fs := webF 4 []) M GW (hr.mono (by decide)) mW bE (dvs := [.ref tE]) (.cons rfl .nil) (fun Hb => isL_cons.mpr ⟨_, _, rfl, hE Hb, isL_nil.mpr rfl⟩) (es_cons ed_int es_nil) (wb 4 (by decide) (by decide))) (es_cons ed_int es_nil)) ⟨4, 10, [], okE (by decide) (by decide), by decide, by decide, by decide, rfl, rfl⟩) (by rw [n3]; rfl))
      (es_cons (ed_is (ed_ca cL (hr.mono (by decide)) (es_cons (ed_mk (ds := [nI 3]) (dd := [.tup []]) (fs := webF 3 []) M GW (hr.mono (by decide)) mW bE (dvs := [.ref tE]) (.cons rfl .nil) (fun Hb => isL_cons.mpr ⟨_, _, rfl, hE Hb, isL_nil.mpr rfl⟩) (es_cons ed_int es_nil) (wb 3 (by decide) (by decide))) (es_cons ed_int es_nil)) ⟨3, 20, [], okE (by decide) (by decide), by decide, by decide, by decide, rfl, rfl⟩) (by rw [n4]; rfl)) es_nil)))) (line_of (by simp))))) fun d e => ?_
    subst e
    refine ebl_ret (P := (· = .bl true)) (EWL.imp (ewl_cmpL hx (op_eqD hr.units) (ewl_opR (d2 := .lst [mI (.inr [[0, 0]])]) hx op_cat (ed_v 4) (ewl_list1 wm_mono (EWL.imp (ewl_listG (enc := dR) (ds := rowsF 2 1 []) wm_mono hx (G 2 1 [] (okE (by decide) (by decide)) (by decide) (by decide) (by decide)) (hr.mono (by decide)) mG kG bG g.list
      (es_cons (ed_mk (ds := [nI 2]) (dd := [.tup []]) (fs := webF 2 []) M GW (hr.mono (by decide)) mW bE (dvs := [.ref tE]) (.cons rfl .nil) (fun Hb => isL_cons.mpr ⟨_, _, rfl, hE Hb, isL_nil.mpr rfl⟩) (es_cons ed_int es_nil) (wb 2 (by decide) (by decide))) (es_cons ed_int es_nil)) ⟨rfl, rfl⟩ (by rw [n5]; decide)) fun d e => by rw [e, n5]; rfl)) (rd_cat (line_of (by decide)))) (d2 := .lst ([.inl 30, .inl 30, .inl 10000, .inl 6840, .inr [[0, 0]]].map mI)) ?_ (mixE.lst.rd (by decide) [.inl 30, .inl 30, .inl 10000, .inl 6840, .inr [[0, 0]]] [.inl 30, .inl 30, .inl 10000, .inl 6840, .inr [[0, 0]]]) (nomark _)) fun d e => by rw [e, decide_eq_true rfl]) fun d Hb H e w => ⟨e, w⟩
    exact ed_lst (es_cons ed_int (es_cons ed_int (es_cons ed_int (es_cons ed_int (es_cons (ed_lst (es_cons (ed_tup (es_cons ed_int (es_cons ed_int es_nil)) (line_of (by simp))) es_nil) (line_of (by simp))) es_nil))))) (line_of (by simp))
end
end Fa
set_option maxHeartbeats 0
/-! Hk6: from the facts to the law's promise. -/
namespace Hk
open PySem PySem.Spec PyProof.Rows L2 Sm Tx Fa Lo

section
variable {K : PySem.W.Frag} {h : Heap} {mg : Str → Option Value}
theorem says_x (c : Says K) : xtra K = true := congrArg (fun z : Al => z.1) c
theorem says_d (c : Says K) : He.SaysD fa fn K := congrArg (fun z : Al => z.2.1) c
theorem says_c (c : Says K) : fnC K (aV K) = valX := congrArg (fun z : Al => z.2.2) c
theorem fa_ok (c : He.SaysD fa fn K) {f : He.Fa} (hf : f ∈ fa) : f.ok K = true := by
  have c1 := (He.ba (show ((fa.all fun f => f.ok K) && fn.all fun d => d.ok K) = true from congrArg (fun z : He.AlD => z.1) c)).1
  exact List.all_eq_true.mp c1 f hf
theorem in1 {f : He.Fa} (i : Nat) (e : fa1[i]? = some f) : f ∈ fa := List.mem_append_left _ (List.mem_of_getElem? e)
theorem in2 {f : He.Fa} (i : Nat) (e : fa2[i]? = some f) : f ∈ fa := List.mem_append_right _ (List.mem_append_left _ (List.mem_of_getElem? e))
theorem in3 {f : He.Fa} (i : Nat) (e : fa3[i]? = some f) : f ∈ fa := List.mem_append_right _ (List.mem_append_right _ (List.mem_append_left _ (List.mem_of_getElem? e)))
theorem inG {x : Str} {st : Stmt} (i : Nat) (e : fn[i]? = some (dD x st)) : He.Fa.glo x ∈ fa :=
  List.mem_append_right _ (List.mem_append_right _ (List.mem_append_right _ (List.mem_filterMap.mpr ⟨dD x st, List.mem_of_getElem? e, rfl⟩)))
/-- a def of the module -/
theorem dfun (X : K.In h) (G : h.Ns mainGlobals mg) (c : He.SaysD fa fn K) (i : Nat) {x : Str} {st : Stmt} (e : fn[i]? = some (dD x st)) : ∃ fd, Fun K x x st (He.ga K x) fd ∧ mg x = some (.ref (He.ga K x)) := by
  obtain ⟨fd, F⟩ := c.def_ i e
  exact ⟨fd, He5.fun_of F, He.glo_ok X G (fa_ok c (inG i e))⟩
/-- a method -/
theorem dmeth (c : He.SaysD fa fn K) (i : Nat) {cl m q : Str} {st : Stmt} (e : fn[i]? = some (dM cl m q st)) : ∃ fd, Fun K m q st (He.ma K (He.ga K cl) m) fd := by
  obtain ⟨fd, F⟩ := c.def_ i e
  exact ⟨fd, He5.fun_of F⟩
theorem slB_ok {C : Addr} {f : Str} {i : Nat} (c : slB K C f i = true) (hi : i < 1000) : ∃ p, L2.Slt K C f i p := by
  unfold slB at c
  split at c
  · rename_i p e
    obtain ⟨c1, c⟩ := He.ba c
    obtain ⟨c2, c⟩ := He.ba c
    obtain ⟨c3, c4⟩ := He.ba c
    exact ⟨p, e, He.eqO_ok c1, of_decide_eq_true c2, of_decide_eq_true c3, of_decide_eq_true c4, hi⟩
  · cases c
theorem scB_ok {C : Addr} (c : scB K C = true) : L2.SCls K C := by
  obtain ⟨c1, c⟩ := He.ba c
  obtain ⟨c2, c⟩ := He.ba c
  obtain ⟨c3, c4⟩ := He.ba c
  exact ⟨c1, c2, c3, He.eqO_ok c4⟩
theorem isB_ok {C : Addr} (c : isB K C = true) : IsiC K C := by
  obtain ⟨c1, c⟩ := He.ba c
  obtain ⟨c2, c⟩ := He.ba c
  obtain ⟨c3, c⟩ := He.ba c
  obtain ⟨c4, c5⟩ := He.ba c
  exact ⟨He.eqO_ok c1, He.eqO_ok c2, of_decide_eq_true c3, of_decide_eq_true c4, of_decide_eq_true c5⟩
theorem emB_ok {T : Addr} (c : emB K T = true) (H : Hp) : Is K H (.tup []) (.ref T) := by
  unfold emB at c
  split at c
  · rename_i c0 od its n osl e
    obtain ⟨c1, c2⟩ := He.ba c
    have hz : its.size = 0 := of_decide_eq_true c2
    obtain rfl : its = #[] := Array.eq_empty_of_size_eq_zero hz
    exact is_tup.mpr ⟨T, [], rfl, .inr ⟨_, #[], n, e, congrArg Value.type (of_decide_eq_true c1), rfl, Nat.zero_le _, .nil⟩, isL_nil.mpr rfl⟩
  · cases c
theorem xsup_ok {P : Program} {C D : Addr} {m : Str} {g cc cda : Addr} (c : xsup K C D m g cc cda = true) (hm : mg "super" = none) (hf : P.main.file = mainF) (ht : (P.main.scope.names.lookup ("super" : Str)).isSome = false) : SupF P K mg C D m g cc cda := by
  obtain ⟨c1, c⟩ := He.ba c
  obtain ⟨c2, c⟩ := He.ba c
  obtain ⟨c3, c⟩ := He.ba c
  obtain ⟨c4, c⟩ := He.ba c
  obtain ⟨c5, c⟩ := He.ba c
  obtain ⟨c6, c⟩ := He.ba c
  obtain ⟨c7, c⟩ := He.ba c
  obtain ⟨c8, c9⟩ := He.ba c
  refine ⟨?_, ?_, Option.isSome_iff_exists.mp c3, Option.isSome_iff_exists.mp c4, of_decide_eq_true c5, He.eqO_ok c6, of_decide_eq_true c7, c8, hm, He.eqO_ok c9, ht⟩
  · unfold cellB at c1
    split at c1
    · rename_i cl cld E csl e
      obtain rfl : E = D := of_decide_eq_true c1
      exact ⟨cl, cld, csl, e⟩
    · cases c1
  · unfold fileB at c2
    split at c2
    · rename_i ccl cdd vs ccs e
      split at c2
      · rename_i file tf e2
        exact ⟨ccl, cdd, vs, ccs, file, tf, e, e2, by rw [hf]; exact c2⟩
      · cases c2
    · cases c2
theorem vfun (e : fnC K (aV K) = valX) (c : cdB K (aV K) "LevelSearch.__init__" = true) : ∃ fd, FunS K "__init__" "LevelSearch.__init__" sVi (aV K) fd (ccAt K (aV K)) (cdAt K (aV K)) ∧ Binds K fd nVi [] := by
  unfold fnC at e
  cases q : K.lookup (aV K) with
  | none => unfold cdB at c; rw [q] at c; cases c
  | some o =>
    obtain ⟨oc, od, dt, osl⟩ := o
    rw [q] at e
    cases dt with
    | func fd =>
      have c2 : ((match fd.code with | .ref _ => true | _ => false) && (PySem.W.codeIn K fd.code "LevelSearch.__init__" && match fd.defaults with | .none => true | _ => false)) = true := by
        unfold cdB at c
        rw [q] at c
        exact c
      obtain ⟨c3, c2⟩ := He.ba c2
      obtain ⟨c4, c5⟩ := He.ba c2
      obtain ⟨n1, n2, n3, n4, n5, n6, n7, n8, n9, n10, n11, n12, n13, n14, n15⟩ := fd
      have e2 : (some (n1, n2, n3, n4, n5, n6, n7.map (·.1), n15) : FnX) = valX := e
      unfold valX at e2
      simp only [Option.some.injEq, Prod.mk.injEq] at e2
      obtain ⟨h1, h2, h3, h4, h5, h6, h7, h8⟩ := e2
      subst h1 h2 h3 h4 h5 h6 h8
      match n7, h7 with
      | [(x, cc)], h7 =>
        have hx : x = "__class__" := by simpa using h7
        subst hx
        cases n13 with
        | ref cda =>
          have e5 : ccAt K (aV K) = cc := by unfold ccAt; rw [q]
          have e6 : cdAt K (aV K) = cda := by unfold cdAt; rw [q]
          rw [e5, e6]
          cases n8 with
          | none => exact ⟨_, ⟨oc, od, .none, n9, n10, n11, n12, n14, osl, rfl, q, c4⟩, .all fun us hl => match us, hl with | [_, _, _, _], _ => rfl⟩
          | _ => cases c5
        | _ => cases c3
    | _ => cases e
end
end Hk
set_option maxHeartbeats 0
/-! Hk7: all defs, one behind another. -/
namespace Hk
open PySem PySem.Spec PyProof.Rows L2 Sm Tx Fa Lo

abbrev PP : Program := PySem.Challenge.pw_levelhues_k35_whole_counts_of_colourings
theorem superTop : (PP.main.scope.names.lookup ("super" : Str)).isSome = false := by decide +kernel
theorem search_fields {CW n h : Nat} {ts : List (Nat × Nat)} {C : Addr} : SrL C (srF CW n ts h) h := ⟨fun _ => rfl, fun _ => rfl, fun _ => rfl, fun _ => rfl⟩
theorem level_fields {CW n h : Nat} {ts : List (Nat × Nat)} {C : Addr} : SrL C (lvF CW n ts h) h := ⟨fun _ => rfl, fun _ => rfl, fun _ => rfl, fun _ => rfl⟩
section
variable {w : World} {K : PySem.W.Frag} {h : Heap} {mg : Str → Option Value}
theorem gn_of (X : K.In h) (G : h.Ns mainGlobals mg) (c : He.SaysD fa fn K) : Gn mg where
  len := He.free_ok X G (fa_ok c (in1 0 rfl))
  range := He.free_ok X G (fa_ok c (in1 1 rfl))
  isi := He.free_ok X G (fa_ok c (in1 2 rfl))
  int := He.free_ok X G (fa_ok c (in1 3 rfl))
  bool := He.free_ok X G (fa_ok c (in1 4 rfl))
  tuple := He.free_ok X G (fa_ok c (in1 5 rfl))
  list := He.free_ok X G (fa_ok c (in1 6 rfl))
  all := He.free_ok X G (fa_ok c (in1 7 rfl))
  any := He.free_ok X G (fa_ok c (in1 8 rfl))
  sum := He.free_ok X G (fa_ok c (in1 9 rfl))
  zip := He.free_ok X G (fa_ok c (in1 10 rfl))
  sorted := He.free_ok X G (fa_ok c (in1 11 rfl))
  set := He.free_ok X G (fa_ok c (in1 12 rfl))
  max := He.free_ok X G (fa_ok c (in1 13 rfl))
  min := He.free_ok X G (fa_ok c (in1 14 rfl))
  abs := He.free_ok X G (fa_ok c (in1 15 rfl))
theorem chain (X : K.In h) (G : h.Ns mainGlobals mg) (s0 : Says K) : ∃ fd, (∀ (s : Shared) (u : Value), BindsTo s fd ⟨[u], []⟩ [("_law_script", u)]) ∧ mg "law" = some (.ref (He.ga K "law")) ∧
    ∀ base : Heap, FnE PP w K mg base 31 (He.ga K "law") fd ["_law_script"] (spP K phLw) := by
  have c := says_d s0
  have sx := says_x s0
  obtain ⟨x1, sx⟩ := He.ba (show (slB K (aP K) "own_size" 0 && (slB K (aP K) "own_ties" 1 && (scB K (aP K) && (isB K (aW K) && (decide (PySem.W.kitOne K (.type "int") (.ref (aP K)) = some false) && (cdB K (aV K) "LevelSearch.__init__" && (emB K (aE K) &&
    (xsup K (aL K) (aL K) "__init__" (He.ma K (aS K) "__init__") (ccAt K (aV K)) (cdAt K (aV K)) && decide (He.ma K (aS K) "count" = He.ma K (aL K) "count"))))))))) = true from sx)
  obtain ⟨x2, sx⟩ := He.ba sx
  obtain ⟨x3, sx⟩ := He.ba sx
  obtain ⟨x4, sx⟩ := He.ba sx
  obtain ⟨x5, sx⟩ := He.ba sx
  obtain ⟨x6, sx⟩ := He.ba sx
  obtain ⟨x7, sx⟩ := He.ba sx
  obtain ⟨x8, x9⟩ := He.ba sx
  obtain ⟨p0, t0⟩ := slB_ok x1 (by decide)
  obtain ⟨p1, t1⟩ := slB_ok x2 (by decide)
  have scP := scB_ok x3
  have isW := isB_ok x4
  have kP := of_decide_eq_true x5
  have cntE := of_decide_eq_true x9
  have g := gn_of X G c
  have U := xsup_ok (P := PP) x8 (He.free_ok X G (fa_ok c (in1 16 rfl))) rfl superTop
  obtain ⟨tk1, mH⟩ := He.int_ok X G (fa_ok c (in2 0 rfl))
  obtain ⟨tk2, mE⟩ := He.int_ok X G (fa_ok c (in2 1 rfl))
  obtain ⟨tk3, mPa⟩ := He.int_ok X G (fa_ok c (in2 2 rfl))
  obtain ⟨tk4, mLi⟩ := He.int_ok X G (fa_ok c (in2 3 rfl))
  have mP := He.glo_ok X G (fa_ok c (in2 4 rfl))
  have mW := He.glo_ok X G (fa_ok c (in2 5 rfl))
  have mS := He.glo_ok X G (fa_ok c (in2 6 rfl))
  have mL := He.glo_ok X G (fa_ok c (in2 7 rfl))
  have kiP := He.mkr_ok (fa_ok c (in2 8 rfl))
  have kiW := He.mkr_ok (fa_ok c (in2 9 rfl))
  have kiS := He.mkr_ok (fa_ok c (in2 10 rfl))
  have kiL := He.mkr_ok (fa_ok c (in2 11 rfl))
  have wc : WebC K (aW K) := ⟨He.cls_ok (fa_ok c (in2 12 rfl)), He.noat_ok (fa_ok c (in2 15 rfl)), He.noat_ok (fa_ok c (in2 16 rfl)), He.noat_ok (fa_ok c (in2 17 rfl)), He.noat_ok (fa_ok c (in2 18 rfl))⟩
  have sr : SrC K (aS K) := ⟨He.cls_ok (fa_ok c (in2 13 rfl)), He.noat_ok (fa_ok c (in2 19 rfl)), He.noat_ok (fa_ok c (in2 20 rfl)), He.noat_ok (fa_ok c (in2 21 rfl)), He.noat_ok (fa_ok c (in2 22 rfl))⟩
  have lv : LvC K (aL K) := ⟨⟨He.cls_ok (fa_ok c (in2 14 rfl)), He.noat_ok (fa_ok c (in3 0 rfl)), He.noat_ok (fa_ok c (in3 1 rfl)), He.noat_ok (fa_ok c (in3 2 rfl)), He.noat_ok (fa_ok c (in3 3 rfl))⟩, He.noat_ok (fa_ok c (in3 4 rfl)), He.noat_ok (fa_ok c (in3 5 rfl)), He.noat_ok (fa_ok c (in3 6 rfl))⟩
  have meSc := He.meth_ok (fa_ok c (in3 7 rfl))
  have meSt := He.meth_ok (fa_ok c (in3 8 rfl))
  have meLc := He.meth_ok (fa_ok c (in3 9 rfl))
  have meLf := He.meth_ok (fa_ok c (in3 10 rfl))
  have meLt := He.meth_ok (fa_ok c (in3 11 rfl))
  rw [← cntE] at meLt
  obtain ⟨fdInt, FInt, m_Int⟩ := dfun X G c 0 (x := "is_integer") (st := sInt) rfl
  have bInt := FInt.binds (ps := ["value", "least", "most"]) fun _ _ _ _ _ _ us hl => match us, hl with | [_, _, _], _ => rfl
  obtain ⟨fdAsc, FAsc, m_Asc⟩ := dfun X G c 1 (x := "is_ascending") (st := sAsc) rfl
  have bAsc := FAsc.binds (ps := ["items"]) fun _ _ _ _ _ _ us hl => match us, hl with | [_], _ => rfl
  obtain ⟨fdParts, FParts⟩ := dmeth c 2 (cl := "Parts") (m := "__init__") (q := "Parts.__init__") (st := sParts) rfl
  obtain ⟨fdTie, FTie, m_Tie⟩ := dfun X G c 3 (x := "is_tie") (st := sTie) rfl
  have bTie := FTie.binds (ps := ["value", "size"]) fun _ _ _ _ _ _ us hl => match us, hl with | [_, _], _ => rfl
  obtain ⟨fdChk, FChk, m_Chk⟩ := dfun X G c 4 (x := "checked") (st := sChk) rfl
  have bChk := FChk.binds (ps := ["size", "ties"]) fun _ _ _ _ _ _ us hl => match us, hl with | [_, _], _ => rfl
  obtain ⟨fdNear, FNear, m_Near⟩ := dfun X G c 5 (x := "near_of") (st := sNear) rfl
  have bNear := FNear.binds (ps := ["size", "ties"]) fun _ _ _ _ _ _ us hl => match us, hl with | [_, _], _ => rfl
  obtain ⟨fdNbr, FNbr, m_Nbr⟩ := dfun X G c 6 (x := "neighbours_of") (st := sNbr) rfl
  have bNbr := FNbr.binds (ps := ["place", "ties"]) fun _ _ _ _ _ _ us hl => match us, hl with | [_, _], _ => rfl
  obtain ⟨fdRw, FRw, m_Rw⟩ := dfun X G c 8 (x := "require_web") (st := sRw) rfl
  have bRw := FRw.binds (ps := ["value"]) fun _ _ _ _ _ _ us hl => match us, hl with | [_], _ => rfl
  obtain ⟨fdSi, FSi⟩ := dmeth c 9 (cl := "Search") (m := "__init__") (q := "Search.__init__") (st := sSi) rfl
  obtain ⟨fdSc, FSc⟩ := dmeth c 10 (cl := "Search") (m := "choices") (q := "Search.choices") (st := sSc) rfl
  obtain ⟨fdCt, FCt⟩ := dmeth c 11 (cl := "Search") (m := "count") (q := "Search.count") (st := sCt) rfl
  obtain ⟨fdFi, FFi⟩ := dmeth c 12 (cl := "LevelSearch") (m := "fits") (q := "LevelSearch.fits") (st := sFi) rfl
  obtain ⟨fdLc, FLc⟩ := dmeth c 13 (cl := "LevelSearch") (m := "choices") (q := "LevelSearch.choices") (st := sLc) rfl
  obtain ⟨fdLess, FLess, m_Less⟩ := dfun X G c 14 (x := "less") (st := sLess) rfl
  have bLess := FLess.binds (ps := ["left", "places"]) fun _ _ _ _ _ _ us hl => match us, hl with | [_, _], _ => rfl
  obtain ⟨fdApt, FApt, m_Apt⟩ := dfun X G c 15 (x := "apart_sets") (st := sApt) rfl
  have bApt := FApt.binds (ps := ["web", "places"]) fun _ _ _ _ _ _ us hl => match us, hl with | [_, _], _ => rfl
  obtain ⟨fdRe, FRe, m_Re⟩ := dfun X G c 16 (x := "require_exact") (st := sRe) rfl
  have bRe := FRe.binds (ps := ["web", "most"]) fun _ _ _ _ _ _ us hl => match us, hl with | [_, _], _ => rfl
  obtain ⟨fdRa, FRa, m_Ra⟩ := dfun X G c 17 (x := "require_asked") (st := sRa) rfl
  have bRa := FRa.binds (ps := ["web", "hues"]) fun _ _ _ _ _ _ us hl => match us, hl with | [_, _], _ => rfl
  obtain ⟨fdCc, FCc, m_Cc⟩ := dfun X G c 18 (x := "count_colourings") (st := sCc) rfl
  have bCc := FCc.binds (ps := ["web", "hues"]) fun _ _ _ _ _ _ us hl => match us, hl with | [_, _], _ => rfl
  obtain ⟨fdCl, FCl, m_Cl⟩ := dfun X G c 19 (x := "count_level") (st := sCl) rfl
  have bCl := FCl.binds (ps := ["web", "hues"]) fun _ _ _ _ _ _ us hl => match us, hl with | [_, _], _ => rfl
  obtain ⟨fdRf, FRf, m_Rf⟩ := dfun X G c 20 (x := "rows_from") (st := sRf) rfl
  have bRf := FRf.binds (ps := ["web", "hues", "row"]) fun _ _ _ _ _ _ us hl => match us, hl with | [_, _, _], _ => rfl
  obtain ⟨fdCg, FCg, m_Cg⟩ := dfun X G c 21 (x := "colourings") (st := sCg) rfl
  have bCg := FCg.binds (ps := ["web", "hues"]) fun _ _ _ _ _ _ us hl => match us, hl with | [_, _], _ => rfl
  obtain ⟨fdDi, FDi, m_Di⟩ := dfun X G c 22 (x := "_law_dice") (st := sDi) rfl
  have bDi := FDi.binds (ps := ["_law_script", "_law_at"]) fun _ _ _ _ _ _ us hl => match us, hl with | [_, _], _ => rfl
  obtain ⟨fdRo, FRo, m_Ro⟩ := dfun X G c 23 (x := "_law_roll") (st := sRo) rfl
  have bRo := FRo.binds (ps := ["_law_dice_here", "_law_total"]) fun _ _ _ _ _ _ us hl => match us, hl with | [_, _], _ => rfl
  obtain ⟨fdMi, FMi, m_Mi⟩ := dfun X G c 24 (x := "_law_mixed") (st := sMi) rfl
  have bMi := FMi.binds (ps := ["_law_dice_here", "_law_items"]) fun _ _ _ _ _ _ us hl => match us, hl with | [_, _], _ => rfl
  obtain ⟨fdAt, FAt, m_At⟩ := dfun X G c 25 (x := "_law_all_ties") (st := sAt) rfl
  have bAt := FAt.binds (ps := ["_law_size"]) fun _ _ _ _ _ _ us hl => match us, hl with | [_], _ => rfl
  obtain ⟨fdPt, FPt, m_Pt⟩ := dfun X G c 26 (x := "_law_parted_ties") (st := sPt) rfl
  have bPt := FPt.binds (ps := ["_law_parts"]) fun _ _ _ _ _ _ us hl => match us, hl with | [_], _ => rfl
  obtain ⟨fdTi, FTi, m_Ti⟩ := dfun X G c 27 (x := "_law_ties") (st := sTi) rfl
  have bTi := FTi.binds (ps := ["_law_dice_here", "_law_size", "_law_sort"]) fun _ _ _ _ _ _ us hl => match us, hl with | [_, _, _], _ => rfl
  obtain ⟨fdWb, FWb, m_Wb⟩ := dfun X G c 28 (x := "_law_web") (st := sWb) rfl
  have bWb := FWb.binds (ps := ["_law_dice_here", "_law_least", "_law_most"]) fun _ _ _ _ _ _ us hl => match us, hl with | [_, _, _], _ => rfl
  obtain ⟨fdMw, FMw, m_Mw⟩ := dfun X G c 29 (x := "_law_made_web") (st := sMw) rfl
  have bMw := FMw.binds (ps := ["_law_plain"]) fun _ _ _ _ _ _ us hl => match us, hl with | [_], _ => rfl
  obtain ⟨fdNe, FNe, m_Ne⟩ := dfun X G c 30 (x := "_law_near") (st := sNe) rfl
  have bNe := FNe.binds (ps := ["_law_plain"]) fun _ _ _ _ _ _ us hl => match us, hl with | [_], _ => rfl
  obtain ⟨fdIr, FIr, m_Ir⟩ := dfun X G c 31 (x := "_law_is_row") (st := sIr) rfl
  have bIr := FIr.binds (ps := ["_law_plain", "_law_hues_here", "_law_row"]) fun _ _ _ _ _ _ us hl => match us, hl with | [_, _, _], _ => rfl
  obtain ⟨fdIc, FIc, m_Ic⟩ := dfun X G c 32 (x := "_law_is_colouring") (st := sIc) rfl
  have bIc := FIc.binds (ps := ["_law_plain", "_law_hues_here", "_law_row"]) fun _ _ _ _ _ _ us hl => match us, hl with | [_, _, _], _ => rfl
  obtain ⟨fdCo, FCo, m_Co⟩ := dfun X G c 33 (x := "_law_counts") (st := sCo) rfl
  have bCo := FCo.binds (ps := ["_law_hues_here", "_law_row"]) fun _ _ _ _ _ _ us hl => match us, hl with | [_, _], _ => rfl
  obtain ⟨fdIl, FIl, m_Il⟩ := dfun X G c 34 (x := "_law_is_level") (st := sIl) rfl
  have bIl := FIl.binds (ps := ["_law_hues_here", "_law_row"]) fun _ _ _ _ _ _ us hl => match us, hl with | [_, _], _ => rfl
  obtain ⟨fdHu, FHu, m_Hu⟩ := dfun X G c 35 (x := "_law_hues") (st := sHu) rfl
  have bHu := FHu.binds (ps := ["_law_dice_here", "_law_size"]) fun _ _ _ _ _ _ us hl => match us, hl with | [_, _], _ => rfl
  obtain ⟨fdMg, FMg, m_Mg⟩ := dfun X G c 36 (x := "_law_merged") (st := sMg) rfl
  have bMg := FMg.binds (ps := ["_law_size", "_law_ties_here", "_law_tie"]) fun _ _ _ _ _ _ us hl => match us, hl with | [_, _, _], _ => rfl
  obtain ⟨fdPw, FPw, m_Pw⟩ := dfun X G c 37 (x := "_law_power") (st := sPw) rfl
  have bPw := FPw.binds (ps := ["_law_number_here", "_law_times"]) fun _ _ _ _ _ _ us hl => match us, hl with | [_, _], _ => rfl
  obtain ⟨fdNu, FNu, m_Nu⟩ := dfun X G c 38 (x := "_law_number") (st := sNu) rfl
  have bNu := FNu.binds (ps := ["_law_size", "_law_ties_here", "_law_hues_here", "_law_known"]) fun _ _ _ _ _ _ us hl => match us, hl with | [_, _, _, _], _ => rfl
  obtain ⟨fdLn, FLn, m_Ln⟩ := dfun X G c 39 (x := "_law_level_number") (st := sLn) rfl
  have bLn := FLn.binds (ps := ["_law_near_here", "_law_hues_here"]) fun _ _ _ _ _ _ us hl => match us, hl with | [_, _], _ => rfl
  obtain ⟨fdLr, FLr, m_Lr⟩ := dfun X G c 40 (x := "_law_listed_right") (st := sLr) rfl
  have bLr := FLr.binds (ps := ["_law_plain", "_law_made", "_law_hues_here"]) fun _ _ _ _ _ _ us hl => match us, hl with | [_, _, _], _ => rfl
  obtain ⟨fdRt, FRt, m_Rt⟩ := dfun X G c 41 (x := "_law_right") (st := sRt) rfl
  have bRt := FRt.binds (ps := ["_law_dice_here"]) fun _ _ _ _ _ _ us hl => match us, hl with | [_], _ => rfl
  obtain ⟨fdLw, FLw, m_Lw⟩ := dfun X G c 42 (x := "law") (st := sLw) rfl
  have bLw := FLw.binds (ps := ["_law_script"]) fun _ _ _ _ _ _ us hl => match us, hl with | [_], _ => rfl
  have bParts := FParts.binds (ps := ["self", "size", "ties"]) fun _ _ _ _ _ _ us hl => match us, hl with | [_, _, _], _ => rfl
  have bSi := FSi.binds (ps := ["self", "web", "hues"]) fun _ _ _ _ _ _ us hl => match us, hl with | [_, _, _], _ => rfl
  have bSc := FSc.binds (ps := ["self", "hue", "left", "more"]) fun _ _ _ _ _ _ us hl => match us, hl with | [_, _, _, _], _ => rfl
  have bCt := FCt.binds (ps := ["self", "hue", "left", "more"]) fun _ _ _ _ _ _ us hl => match us, hl with | [_, _, _, _], _ => rfl
  have bFi := FFi.binds (ps := ["self", "hue", "left", "places"]) fun _ _ _ _ _ _ us hl => match us, hl with | [_, _, _, _], _ => rfl
  have bLc := FLc.binds (ps := ["self", "hue", "left", "more"]) fun _ _ _ _ _ _ us hl => match us, hl with | [_, _, _, _], _ => rfl
  obtain ⟨fdWeb, FWeb⟩ := c.def_ 7 (d := dWeb) rfl
  have FWeb : FunD K "__init__" "Web.__init__" (defArgs sWeb) (defBody sWeb) (defScope sWeb) [.ref (aE K)] [] (He.ma K (aW K) "__init__") fdWeb := FWeb
  obtain ⟨dsA, vA, bWeb⟩ := FWeb.binds1 (ps := ["self", "size", "ties"]) 3 1 (List.cons_ne_nil _ _) rfl fun _ _ _ _ _ _ _ us its hl hi => match us, its, hl, hi with | [_, _, _], [_], _, _ => ⟨_, rfl, rfl⟩
  cases vA
  obtain ⟨dsB, vB, bWebE⟩ := FWeb.binds1 (ps := ["self", "size", "ties"]) 2 0 (List.cons_ne_nil _ _) rfl fun _ _ _ _ _ _ _ us its hl hi => match us, its, hl, hi with | [_, _], [_], _, _ => ⟨_, rfl, rfl⟩
  obtain rfl : dsB = [.ref (aE K)] := match dsB, vB with | [_], .cons r .nil => by cases r; rfl
  obtain ⟨fdV, FV, bV⟩ := vfun (says_c s0) x6
  refine ⟨fdLw, fun s u => ?_, m_Lw, fun base => ?_⟩
  · obtain ⟨oc, od, kV, doc, pm, an, cdv, ct, osl, rfl, _, _⟩ := FLw.ex
    exact .of_eq rfl
  have cInt : Ca PP w K mg base 1 "is_integer" phInt := ⟨_, _, _, fnInt FInt g, m_Int, FInt.kp, bInt⟩
  have cAsc : Ca PP w K mg base 1 "is_ascending" phAsc := ⟨_, _, _, fnAsc FAsc g, m_Asc, FAsc.kp, bAsc⟩
  have cTie : Ca PP w K mg base 2 "is_tie" phTie := ⟨_, _, _, fnTie FTie g cInt, m_Tie, FTie.kp, bTie⟩
  have cNbr : Ca PP w K mg base 1 "neighbours_of" phNbr := ⟨_, _, _, fnNbr FNbr g, m_Nbr, FNbr.kp, bNbr⟩
  have cNear : Ca PP w K mg base 2 "near_of" phNear := ⟨_, _, _, fnNear FNear g cNbr, m_Near, FNear.kp, bNear⟩
  have kParts := fnParts (P := PP) (w := w) (mg := mg) (base := base) FParts scP t0 t1
  have cChk : Ca PP w K mg base 3 "checked" (phChk (aP K)) := ⟨_, _, _, fnChk FChk g cInt cTie cAsc kiP kParts bParts mP mPa, m_Chk, FChk.kp, bChk⟩
  have kWeb := fnWeb (P := PP) (w := w) (base := base) FWeb g wc cChk cNear mP kP scP t0 t1
  have cRw : Ca PP w K mg base 1 "require_web" (phRw (aW K)) := ⟨_, _, _, fnRw FRw g wc isW mW, m_Rw, FRw.kp, bRw⟩
  have cRe : Ca PP w K mg base 1 "require_exact" (phRe (aW K)) := ⟨_, _, _, fnRe FRe wc, m_Re, FRe.kp, bRe⟩
  have cRa : Ca PP w K mg base 2 "require_asked" (phRa (aW K)) := ⟨_, _, _, fnRa FRa cRw cInt mH, m_Ra, FRa.kp, bRa⟩
  have cLess : Ca PP w K mg base 1 "less" phLess := ⟨_, _, _, fnLess FLess g, m_Less, FLess.kp, bLess⟩
  have cApt : Ca PP w K mg base 1 "apart_sets" (phApt (aW K)) := ⟨_, _, _, fnApt FApt g wc, m_Apt, FApt.kp, bApt⟩
  have kSi := fnSi (P := PP) (w := w) (mg := mg) (base := base) (CW := aW K) FSi sr
  have gCc : ∀ (n h : Nat) (ts : List (Nat × Nat)), WebOk n ts → n ≤ 9 → 1 ≤ h → h ≤ 20 → FnOk PP w K mg base CX0 24 (He.ma K (aS K) "count") fdCt ["self", "hue", "left", "more"] (spC K (phCt PP w K (aS K) (srF (aW K) n ts h) (chS ts) n h h)) := fun n h ts ok n9 h1 h20 =>
    (fnCt FCt g sr search_fields (by omega) h20 (ChOk.S n9) meSc (fun a => fnSc FSc sr cApt ok n9) bSc cLess meSt bCt h).mono (by omega)
  have cCc : Ca PP w K mg base 25 "count_colourings" (phCc (aW K)) := ⟨_, _, _, fnCc FCc wc sr cRa cRe mE kiS kSi bSi mS meSt gCc bCt, m_Cc, FCc.kp, bCc⟩
  have kSiL := fnSi (P := PP) (w := w) (mg := mg) (base := base) (CW := aW K) FSi lv.sr
  have kV := fnVi (P := PP) (w := w) FV wc lv U kSiL bSi
  have gCl : ∀ (n h : Nat) (ts : List (Nat × Nat)), WebOk n ts → n ≤ 9 → 1 ≤ h → h ≤ 20 → FnOk PP w K mg base CX0 24 (He.ma K (aS K) "count") fdCt ["self", "hue", "left", "more"] (spC K (phCt PP w K (aL K) (lvF (aW K) n ts h) (chL ts n h) n h h)) := fun n h ts ok n9 h1 h20 =>
    (fnCt FCt g lv.sr level_fields (by omega) h20 (ChOk.L n9) meLc (fun a => fnLc FLc g lv cApt ok n9 meLf (fnFi FFi g lv rfl) bFi) bLc cLess meLt bCt h).mono (by omega)
  have cCl : Ca PP w K mg base 25 "count_level" (phCl (aW K)) := ⟨_, _, _, fnCl FCl wc lv cRa cRe mE kiL kV bV mL meLt gCl bCt, m_Cl, FCl.kp, bCl⟩
  have cG : CaG PP w K mg base (aW K) := ⟨_, _, fun n h ts ok n7 h1 h20 => fnCg FCg cRa cRe ok n7 h1 h20 mLi (fnRf FRf g wc ok n7 h20 m_Rf bRf n) m_Rf FRf.kp bRf, m_Cg, FCg.kp, bCg⟩
  have cDi : CaN PP w K mg base 1 "_law_dice" phDi := ⟨_, _, _, fnDi FDi g, m_Di, FDi.kp, bDi⟩
  have cRo : CaC PP w K mg base 1 "_law_roll" phRo := ⟨_, _, _, fnRo FRo g, m_Ro, FRo.kp, bRo⟩
  have cMi : CaC PP w K mg base 2 "_law_mixed" phMi := ⟨_, _, _, fnMi FMi g cRo, m_Mi, FMi.kp, bMi⟩
  have cAt : Ca PP w K mg base 1 "_law_all_ties" phAt := ⟨_, _, _, fnAt FAt g, m_At, FAt.kp, bAt⟩
  have cPt : Ca PP w K mg base 2 "_law_parted_ties" phPt := ⟨_, _, _, fnPt FPt g cAt, m_Pt, FPt.kp, bPt⟩
  have cTi : CaC PP w K mg base 3 "_law_ties" phTi := ⟨_, _, _, fnTi FTi g cRo cAt cPt cMi, m_Ti, FTi.kp, bTi⟩
  have cWb : CaC PP w K mg base 5 "_law_web" phWb := ⟨_, _, _, (fnWb FWb g cRo cMi cTi).mono (by decide), m_Wb, FWb.kp, bWb⟩
  have cMw : Ca PP w K mg base 6 "_law_made_web" (phMw (aW K)) := ⟨_, _, _, fnMw FMw g kiW kWeb bWeb mW, m_Mw, FMw.kp, bMw⟩
  have cNe : Ca PP w K mg base 1 "_law_near" phNe := ⟨_, _, _, fnNe FNe g, m_Ne, FNe.kp, bNe⟩
  have cIr : Ca PP w K mg base 1 "_law_is_row" phIr := ⟨_, _, _, fnIr FIr g, m_Ir, FIr.kp, bIr⟩
  have cIc : Ca PP w K mg base 2 "_law_is_colouring" phIc := ⟨_, _, _, fnIc FIc g cIr, m_Ic, FIc.kp, bIc⟩
  have cCo : Ca PP w K mg base 1 "_law_counts" phCo := ⟨_, _, _, fnCo FCo g, m_Co, FCo.kp, bCo⟩
  have cIl : Ca PP w K mg base 2 "_law_is_level" phIl := ⟨_, _, _, fnIl FIl g cCo, m_Il, FIl.kp, bIl⟩
  have cHu : CaC PP w K mg base 2 "_law_hues" phHu := ⟨_, _, _, fnHu FHu cRo, m_Hu, FHu.kp, bHu⟩
  have cMg : Ca PP w K mg base 1 "_law_merged" phMg := ⟨_, _, _, fnMg FMg g, m_Mg, FMg.kp, bMg⟩
  have cPw : Ca PP w K mg base 1 "_law_power" phPw := ⟨_, _, _, fnPw FPw g, m_Pw, FPw.kp, bPw⟩
  have cNu : CaC PP w K mg base 23 "_law_number" (phNu PP w K 21) := ⟨_, _, _, fnNu FNu g cPw cMg m_Nu FNu.kp bNu 21, m_Nu, FNu.kp, bNu⟩
  have cLn : Ca PP w K mg base 1 "_law_level_number" phLn := ⟨_, _, _, fnLn FLn g, m_Ln, FLn.kp, bLn⟩
  have cLr : CaPL PP w K mg base 29 "_law_listed_right" (phLr (aW K)) := ⟨_, _, _, fnLr FLr g cG cCc cCl cIc cIl, m_Lr, FLr.kp, bLr⟩
  have cRt : CaCL PP w K mg base 30 "_law_right" phRt := ⟨_, _, _, fnRt FRt g cWb cMw cNe cHu cCc cCl cNu cLn cPw cLr, m_Rt, FRt.kp, bRt⟩
  exact fnLw (fG := 0) (fdG := fdLw) FLw g cDi cRt cCc cCl cG kiW kWeb bWeb bWebE (emB_ok x7) mW
end
end Hk
set_option maxHeartbeats 0
open PySem PySem.W PySem.Calls PyProof.Rows
theorem PySem.Challenge.cw_levelhues_k35_whole_counts_of_colourings_holds : PySem.Challenge.rw_levelhues_k35_whole_counts_of_colourings.Holds := by
  w_on; o_law
  refine Lo.head_anyL (r := OpenLaw.row PySem.Challenge.rw_levelhues_k35_whole_counts_of_colourings) (q := Hk.qv) (H := Hk.hk) (ob := Hk.ob) (M := 20000) (loose := Hk.names) (d := HandSHeadRun.topDef (OpenLaw.row PySem.Challenge.rw_levelhues_k35_whole_counts_of_colourings).prog 66) (kwd := []) Hk.ob_eq
    (by kernel_rfl) (fun s => by kernel_rfl) Hk.run (by kernel_rfl) (by kernel_rfl) (by kernel_rfl) (by rfl) (by first | assumption | decide +kernel) (by decide +kernel) ⟨rfl, rfl, rfl, rfl, rfl, by decide +kernel⟩ ?hw ?hc
  case hw => w_witness2
  case hc =>
    refine Lo.walk_ofL (l := PySem.Challenge.rw_levelhues_k35_whole_counts_of_colourings) (n := 63) (k := 31) (x := "_law_script") (φ := Fa.phLw) rfl (by decide) ⟨rfl, by decide, by decide⟩ (fun ns => ⟨ns, rfl, rfl⟩) ?F
    intro w mg fa h h1 Y keeps G hmg0
    obtain ⟨K, KX, c⟩ := Y
    have hmg : mg ("law" : PySem.Str) = some (.ref fa) := by
      have e : (HandSHeadRun.topDef (OpenLaw.row PySem.Challenge.rw_levelhues_k35_whole_counts_of_colourings).prog 66).name = ("law" : PySem.Str) := by kernel_rfl
      rw [← e]
      exact hmg0
    obtain ⟨fd, hb, hm, hF⟩ := Hk.chain (w := w) (KX.keeps keeps) G c
    cases hm.symm.trans hmg
    exact ⟨K, fd, KX, hb, fun base _ _ => hF base⟩
