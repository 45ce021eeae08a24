import PyProof.Rows.All
import Wide.All
import OpenK.AllK
import Wide.FinOn
import KE.KStateDown
import KE.KLam
import KE.KNestM
import HandS.Lambda
import HandS.EndTab
import HandS.Words
import HandS.Head0
import HandS.Head1
import HandS.Head2
import HandS.HeadHook1
import HandS.HeadHook2
import HandS.HeadHook3
import HandS.HeadHook4
import HandS.HeadWalk
import PySem.Challenge.RW_busfind_k01_refused
import HandS.ForMost
import HandS.Exc
import HandS.TryOnly
import HandS.ExcOwn
import HandS.WordsExc
import HandS.Flow
import HandS.TupAny
import HandS.More
import HandS.Conv
import HandS.IsInst
import HandS.Codes
import PyProof.EqAt
import PyProof.EqKinds
import HandS.ExcIs
import HandS.SetFor
import HandS.ExcInit
import HandS.ExcField
import KE.KIsAll
import HandS.FStr
import HandS.Text
import PyProof.P3Eq
import HandS.Iter
import KE.DataCmp
import KE.DatumOrd
import HandS.Set
import HandS.SortInts
import HandS.Strs
import HandS.Deep
import KE.KDflt
import HandS.Comp
import HandS.Replace
import HandS.List
import PyProof.ToksMono
import PyProof.StrLawsReplace
import KE.SortData
set_option Elab.async false
set_option linter.all false
set_option maxRecDepth 100000
set_option maxHeartbeats 4000000
section
/-! the head by one run of the kernel: the Hook (over the library's HandS.Head0 .. HeadHook4) -/
namespace Hr
open PySem PySem.Spec PyProof.Rows L2 He
abbrev AlH : Type := Bool × List FnV × List Int
def obsH (as : List Addr) (fn : List FnD) (tf : List Defn) (ex : PySem.W.Frag → Bool) (hs : PySem.W.Frag → List Int) (g : Addr → Option Obj) : AlH :=
  (ex (frT g as) && (fn.all (fun d => (Fa.code d.at_ d.qual).ok (frT g as)) && tabsB g tf (frT g as)), fn.map (fun d => fnObs (frT g as) d.at_), hs (frT g as))
def valH (fn : List FnD) (hv : World → List Int) (w : World) : AlH := (true, fn.map FnD.val, hv w)
structure SaysH (fn : List FnD) (tf : List Defn) (ex : PySem.W.Frag → Bool) (hs : PySem.W.Frag → List Int) (hv : World → List Int) (w : World) (h : Heap) (K : PySem.W.Frag) : Prop where
  fns : fn.map (fun d => fnObs K d.at_) = fn.map FnD.val
  codes : fn.all (fun d => (Fa.code d.at_ d.qual).ok K) = true
  more : ex K = true
  hash : hs K = hv w
  hd : ∀ p ∈ tf, PySem.W.codeHdIn K (cT K p).1 (cT K p).2 = true
  out : ∀ p ∈ tf, K.lookup (cT K p).2 = none
  empty : ∀ p ∈ tf, h.get? (cT K p).2 = some (PySem.W.tabObj #[])
theorem saysH_of {as : List Addr} {fn : List FnD} {tf : List Defn} {ex : PySem.W.Frag → Bool} {hs : PySem.W.Frag → List Int} {hv : World → List Int} {w : World} {h : Heap}
    (e : obsH as fn tf ex hs h.get? = valH fn hv w) : SaysH fn tf ex hs hv w h (frT h.get? as) := by
  have e1 : (ex (frT h.get? as) && (fn.all (fun d => (Fa.code d.at_ d.qual).ok (frT h.get? as)) && tabsB h.get? tf (frT h.get? as))) = true := congrArg (fun z : AlH => z.1) e
  obtain ⟨h1, h2⟩ := ba e1
  obtain ⟨h2, h4⟩ := ba h2
  have key : ∀ p ∈ tf, PySem.W.codeHdIn (frT h.get? as) (cT (frT h.get? as) p).1 (cT (frT h.get? as) p).2 = true ∧ ∃ o, h.get? (cT (frT h.get? as) p).2 = some o ∧ emptyTab o = true := fun p hp => by
    obtain ⟨h5, h6⟩ := ba (List.all_eq_true.mp h4 p hp)
    refine ⟨h5, ?_⟩
    cases q : h.get? (cT (frT h.get? as) p).2 with
    | none =>
      rw [q] at h6
      cases h6
    | some o =>
      rw [q] at h6
      exact ⟨o, rfl, h6⟩
  exact ⟨congrArg (fun z : AlH => z.2.1) e, h2, h1, congrArg (fun z : AlH => z.2.2) e, fun p hp => (key p hp).1, fun p hp => by
    obtain ⟨_, o, q, z⟩ := key p hp
    exact frT_none q z, fun p hp => by
    obtain ⟨_, o, q, z⟩ := key p hp
    rw [q, emptyTab_eq z] <;> rfl⟩
def hookH (as : List Addr) (fn : List FnD) (tf : List Defn) (ex : PySem.W.Frag → Bool) (hs : PySem.W.Frag → List Int) (hv : World → List Int) : PySem.W.Hook where
  α := AlH
  obs := fun s => obsH as fn tf ex hs s.heap.get?
  val := fun w => valH fn hv w
  says := fun w h => ∃ K : PySem.W.Frag, K.In h ∧ SaysH fn tf ex hs hv w h K
  of := fun _ _ e => ⟨_, frT_in, saysH_of e⟩
  keeps := fun _ _ _ ⟨K, hK, c⟩ k => ⟨K, PySem.W.Frag.In.keeps hK k, ⟨c.fns, c.codes, c.more, c.hash, c.hd, c.out, fun p hp => k _ _ (c.empty p hp)⟩⟩
theorem obsH_eq {as : List Addr} {fn : List FnD} {tf : List Defn} {ex : PySem.W.Frag → Bool} {hs : PySem.W.Frag → List Int} {hv : World → List Int} {g : Addr → Option Obj} {s : Shared} (h : ∀ a, g a = s.heap.get? a) :
    obsH as fn tf ex hs g = (hookH as fn tf ex hs hv).obs s := by
  have e : g = s.heap.get? := funext h
  rw [e] <;> rfl
section
variable {fn : List FnD} {tf : List Defn} {ex : PySem.W.Frag → Bool} {hs : PySem.W.Frag → List Int} {hv : World → List Int} {w : World} {h : Heap} {K : PySem.W.Frag}
theorem SaysH.def_ (c : SaysH fn tf ex hs hv w h K) (i : Nat) {d : FnD} (hi : fn[i]? = some d := by rfl) :
    ∃ oc od osl kV doc pm an cdv ct, K.lookup (fAd K d.at_) = some ⟨oc, od, .func (PySem.W.fnOf d.name d.qual d.params d.body d.scope .none kV doc pm an cdv ct), osl⟩ ∧ PySem.W.codeIn K cdv d.qual = true := by
  have e := c.fns
  have e2 : (fn.map fun d => fnObs K d.at_)[i]? = (fn.map FnD.val)[i]? := by rw [e]
  rw [List.getElem?_map, List.getElem?_map, hi] at e2
  exact fn_ok (Option.some.inj e2) (List.all_eq_true.mp c.codes d (List.mem_of_getElem? hi))
/-- a def whose code has a table -/
theorem SaysH.defT (c : SaysH fn tf ex hs hv w h K) (i : Nat) {d : FnD} (hi : fn[i]? = some d := by rfl) :
    ∃ oc od osl kV doc pm an ct, K.lookup (fAd K d.at_) = some ⟨oc, od, .func (PySem.W.fnOf d.name d.qual d.params d.body d.scope .none kV doc pm an (.ref (codeOf K d.at_)) ct), osl⟩ ∧ PySem.W.codeIn K (.ref (codeOf K d.at_)) d.qual = true := by
  obtain ⟨oc, od, osl, kV, doc, pm, an, cdv, ct, l, e⟩ := c.def_ i hi
  obtain ⟨cc, rfl⟩ := codeIn_ref e
  have z := codeOf_eq l rfl
  rw [z]
  exact ⟨oc, od, osl, kV, doc, pm, an, ct, l, e⟩
end
/-! ### constants -/
def intB (K : PySem.W.Frag) (x : Str) (i : Int) : Bool := match PySem.W.nsIn K mainGlobals x with
  | some (some (.int j _)) => decide (j = i)
  | _ => false
theorem intB_ok {K : PySem.W.Frag} {x : Str} {i : Int} (h : intB K x i = true) : ∃ t, PySem.W.nsIn K mainGlobals x = some (some (.int i t)) := by
  unfold intB at h
  split at h
  · rename_i j t e
    have ej : j = i := of_decide_eq_true h
    subst ej
    exact ⟨t, e⟩
  · cases h
def strB (K : PySem.W.Frag) (x z : Str) : Bool := match PySem.W.nsIn K mainGlobals x with
  | some (some (.str j _)) => decide (j = z)
  | _ => false
theorem strB_ok {K : PySem.W.Frag} {x z : Str} (h : strB K x z = true) : ∃ t, PySem.W.nsIn K mainGlobals x = some (some (.str z t)) := by
  unfold strB at h
  split at h
  · rename_i j t e
    have ej : j = z := of_decide_eq_true h
    subst ej
    exact ⟨t, e⟩
  · cases h
def clsB (o : Option PySem.W.CFound) (v : Value) : Bool := match o with
  | some (.val u) => decide (u = v)
  | _ => false
/-! ### a class of refusals with an own making -/
def oexB (K : PySem.W.Frag) (C B : Addr) : Bool := match K.lookup C with
  | some ⟨.type t, _, .cls cd, sl⟩ => decide (t = "type") && (decide (cd.mro = [.ref C, .ref B, .type "ValueError", .type "Exception", .type "BaseException", .type "object"]) && (cd.hasDict && (!cd.hasDel && (match sl.toList with
    | [_, _, _, _, some (.builtin b), _] => decide (b = "ValueError.__new__")
    | _ => false))))
  | _ => false
/-! ### a dict of the top: texts by texts -/
def entB (es : List DictEntry) (kvs : List (Str × Str)) : Bool := match es, kvs with
  | [], [] => true
  | e :: r, kv :: q => (match e.key, e.val with
    | .str a _, .str b _ => decide (a = kv.1) && decide (b = kv.2)
    | _, _ => false) && entB r q
  | _, _ => false
def formB (K : PySem.W.Frag) (a : Addr) (kvs : List (Str × Str)) : Bool := match K.lookup a with
  | some ⟨.type c, none, .dict es _, sl⟩ => decide (c = "dict") && (sl.isEmpty && (!(a == sysModules) && entB es.toList kvs))
  | _ => false
def formH (K : PySem.W.Frag) (a : Addr) : List Int := match K.lookup a with
  | some ⟨_, _, .dict es _, _⟩ => es.toList.map (·.hash)
  | _ => []
def formV (kvs : List (Str × Str)) (w : World) : List Int := kvs.map fun kv => PyData.keyHash w.params kv.1
/-! ### a tuple of four pairs of bools -/
def pairB (K : PySem.W.Frag) (v : Value) (x : Bool × Bool) : Bool := match v with
  | .ref a => (match K.lookup a with
    | some ⟨.type c, _, .seq its _, _⟩ => decide (c = "tuple") && decide (its.toList = [.bool x.1, .bool x.2])
    | _ => false)
  | _ => false
def pairsB (K : PySem.W.Frag) : List Value → List (Bool × Bool) → Bool
  | [], [] => true
  | v :: r, x :: q => pairB K v x && pairsB K r q
  | _, _ => false
def ansL : List (Bool × Bool) := [(false, false), (false, true), (true, false), (true, true)]
def ansB (K : PySem.W.Frag) (a : Addr) : Bool := match K.lookup a with
  | some ⟨.type c, none, .seq its _, _⟩ => decide (c = "tuple") && (decide (its.size ≤ sizeLine) && pairsB K its.toList ansL)
  | _ => false
end Hr
end

section
set_option pp.maxSteps 700
namespace HR
open PySem PySem.Spec PyProof.Rows L2 He Hr
def top (i : Nat) : Stmt := PySem.Challenge.pw_busfind_k01_refused.main.body.getD i (.Pass ⟨0, 0, 0, 0⟩)
abbrev R : PySem.W.OpenRow := PySem.W.OpenLaw.row PySem.Challenge.rw_busfind_k01_refused
def as_0 : List (PySem.Addr) := [2, 3, 15, 22, 23, 24, 25, 28, 35, 36, 37, 40, 47, 48, 49, 52, 59, 60, 61, 64, 71, 72, 73, 76, 83, 84, 85, 88, 95, 96, 97, 100, 107, 108, 109, 112, 119, 120, 121, 124, 131, 132, 133, 136, 143, 145, 146, 148, 149, 150, 151, 152, 155, 162, 163, 164, 167, 174, 175, 176]
def as_1 : List (PySem.Addr) := [179, 186, 187, 188, 191, 198, 200, 201, 203, 204, 205, 206, 207, 210, 217, 219, 220, 222, 223, 224, 225, 226, 229, 231, 232, 234, 235, 236, 239, 240, 241, 243, 244, 246, 247, 248, 250, 251, 253, 254, 255, 257, 258, 260, 261, 262, 264, 265, 267, 268, 269, 271, 272, 274, 275, 276, 279, 280, 281, 282]
def as_2 : List (PySem.Addr) := [284, 285, 287, 288, 296, 298, 299, 301, 302, 303, 305, 306, 308, 309, 310, 312, 313, 315, 316, 317, 319, 320, 322, 323, 324, 326, 327, 329, 330, 331, 333, 334, 336, 337, 338, 340, 341, 343, 344, 345, 348, 349, 350, 352, 353, 355, 356, 357, 359, 360, 362, 363, 364, 366, 367, 369, 370, 371, 373, 374]
def as_3 : List (PySem.Addr) := [376, 377, 378, 380, 381, 383, 384, 385, 386, 387, 388, 389, 399, 401, 402, 404, 405, 406, 408, 409, 411, 412, 413, 415, 416, 418, 419, 420, 422, 423, 425, 426, 427, 429, 430, 432, 433, 434, 436, 437, 439, 440, 441, 443, 444, 446, 447, 448, 450, 451, 453, 454, 455, 457, 458, 460, 461, 462, 464, 465]
def as_4 : List (PySem.Addr) := [467, 468, 469, 471, 472, 474, 475, 476, 477, 478, 479, 480, 490, 492, 493, 495, 496, 497, 499, 500, 502, 503, 504, 505, 506, 507, 508, 518, 520, 521, 523, 524, 525, 528, 529, 530, 532, 533, 535, 536, 537, 538, 539, 540, 541, 544, 545, 547, 548, 550, 551, 552, 554, 555, 557, 558, 559, 561, 562, 564]
def as_5 : List (PySem.Addr) := [565, 573, 575, 576, 578, 579, 580, 582, 583, 585, 586, 587, 589, 590, 592, 593, 594, 596, 597, 599, 600, 601, 602, 603, 604, 605, 608, 611, 612, 613, 615, 616, 618, 619, 620, 622, 623, 625, 626, 634, 636, 637, 639, 640, 641, 643, 644, 646, 647, 648, 650, 651, 653, 654, 655, 658, 659, 660, 663, 664]
def as_6 : List (PySem.Addr) := [665, 666, 667, 668, 669, 672, 674, 675, 677, 678, 679, 681, 682, 684, 685, 686, 689, 690, 691, 693, 694, 696, 697, 698, 701, 702, 703, 706, 707, 708, 711, 712, 713, 715, 716, 718, 719, 720, 722, 723, 725, 726, 727, 730, 731, 732, 733, 734, 735, 736, 744, 746, 747, 749, 750, 751, 754, 755, 756, 759]
def as_7 : List (PySem.Addr) := [760, 761, 762, 763, 764, 765, 768, 770, 771, 773, 774, 775, 778, 779, 780, 782, 783, 785, 786, 787, 789, 790, 792, 793, 794, 797, 798, 799, 801, 802, 804, 805, 806, 809, 810, 811, 813, 814, 816, 817, 818, 821, 822, 823, 825, 826, 828, 829, 830, 832, 833, 835, 836, 837, 839, 840, 842, 843, 844, 846]
def as_8 : List (PySem.Addr) := [847, 849, 850, 851, 853, 854, 856, 857, 858, 860, 861, 863, 864, 865, 868, 869, 870, 873, 874]
def as : List (PySem.Addr) := as_0 ++ (as_1 ++ (as_2 ++ (as_3 ++ (as_4 ++ (as_5 ++ (as_6 ++ (as_7 ++ (as_8))))))))
def names_0 : List (PySem.Str) := ["BusError", "BadWidth", "BadNumber", "BadKind", "BadBit", "There", "NotThere", "NoRound", "Over", "Busy", "BadLooks", "BadRoster", "TooMany", "BadPlan", "BadStep", "BadText", "MOST_WIDTH", "need_width", "are_bits", "is_number", "is_beginning", "need_number", "beginnings_of", "met", "look_at", "KINDS", "need_kind", "Wire", "FOUND", "LOST"]
def names_1 : List (PySem.Str) := ["Walk", "ALARM", "DONE", "Desk", "Keeper", "MOST_STEPS", "FORMS", "is_part", "is_step", "need_steps", "Day", "played", "MOST_LOOKS", "NONE", "ONE", "MORE", "is_look", "need_looks", "Paper", "shown", "fewest", "MOST_NAMES_rosters", "MOST_LEAST", "are_rising", "need_roster", "all_sets", "judged", "parting", "first_rows", "marks_of"]
def names_2 : List (PySem.Str) := ["least", "MOST_NAMES_plans", "MOST_DEPTH", "HUNG", "LOOK", "ANSWERS", "Planner", "plan_of", "is_plan", "need_plan", "went", "follows", "_law_taken", "_law_alike", "_law_word", "_law_number", "_law_near", "_law_things", "_law_width", "_law_made", "_law_wide", "_law_odd", "_law_rounds"]
def names : List (PySem.Str) := names_0 ++ (names_1 ++ (names_2))
def A_c_Wire (K : PySem.W.Frag) : PySem.Addr := ga K "Wire"
def A_c_Walk (K : PySem.W.Frag) : PySem.Addr := ga K "Walk"
def A_c_Day (K : PySem.W.Frag) : PySem.Addr := ga K "Day"
def A_e_BusError (K : PySem.W.Frag) : PySem.Addr := ga K "BusError"
def A_e_BadWidth (K : PySem.W.Frag) : PySem.Addr := ga K "BadWidth"
def A_e_BadNumber (K : PySem.W.Frag) : PySem.Addr := ga K "BadNumber"
def A_e_BadKind (K : PySem.W.Frag) : PySem.Addr := ga K "BadKind"
def A_e_BadBit (K : PySem.W.Frag) : PySem.Addr := ga K "BadBit"
def A_e_There (K : PySem.W.Frag) : PySem.Addr := ga K "There"
def A_e_NotThere (K : PySem.W.Frag) : PySem.Addr := ga K "NotThere"
def A_e_NoRound (K : PySem.W.Frag) : PySem.Addr := ga K "NoRound"
def A_e_Over (K : PySem.W.Frag) : PySem.Addr := ga K "Over"
def A_e_Busy (K : PySem.W.Frag) : PySem.Addr := ga K "Busy"
def A_e_BadLooks (K : PySem.W.Frag) : PySem.Addr := ga K "BadLooks"
def A_e_BadRoster (K : PySem.W.Frag) : PySem.Addr := ga K "BadRoster"
def A_e_TooMany (K : PySem.W.Frag) : PySem.Addr := ga K "TooMany"
def A_e_BadPlan (K : PySem.W.Frag) : PySem.Addr := ga K "BadPlan"
def A_e_BadStep (K : PySem.W.Frag) : PySem.Addr := ga K "BadStep"
def A_e_BadText (K : PySem.W.Frag) : PySem.Addr := ga K "BadText"
def A_a_KINDS (K : PySem.W.Frag) : PySem.Addr := ga K "KINDS"
def A_f_law_taken (K : PySem.W.Frag) : PySem.Addr := ga K "_law_taken"
def d_law_taken : FnD := ⟨("_law_taken", none), "_law_taken", "_law_taken", defArgs (top 83), defBody (top 83), defScope (top 83)⟩
def A_f_law_width (K : PySem.W.Frag) : PySem.Addr := ga K "_law_width"
def d_law_width : FnD := ⟨("_law_width", none), "_law_width", "_law_width", defArgs (top 89), defBody (top 89), defScope (top 89)⟩
def A_f_law_number (K : PySem.W.Frag) : PySem.Addr := ga K "_law_number"
def d_law_number : FnD := ⟨("_law_number", none), "_law_number", "_law_number", defArgs (top 86), defBody (top 86), defScope (top 86)⟩
def A_f_law_near (K : PySem.W.Frag) : PySem.Addr := ga K "_law_near"
def d_law_near : FnD := ⟨("_law_near", none), "_law_near", "_law_near", defArgs (top 87), defBody (top 87), defScope (top 87)⟩
def A_f_law_things (K : PySem.W.Frag) : PySem.Addr := ga K "_law_things"
def d_law_things : FnD := ⟨("_law_things", none), "_law_things", "_law_things", defArgs (top 88), defBody (top 88), defScope (top 88)⟩
def A_f_need_width (K : PySem.W.Frag) : PySem.Addr := ga K "need_width"
def d_need_width : FnD := ⟨("need_width", none), "need_width", "need_width", defArgs (top 19), defBody (top 19), defScope (top 19)⟩
def A_f_Wire___init (K : PySem.W.Frag) : PySem.Addr := ma K (A_c_Wire K) "__init__"
def d_Wire___init : FnD := ⟨("Wire", some "__init__"), "__init__", "Wire.__init__", defArgs (inClass (top 30) 0), defBody (inClass (top 30) 0), defScope (inClass (top 30) 0)⟩
def A_f_are_bits (K : PySem.W.Frag) : PySem.Addr := ga K "are_bits"
def d_are_bits : FnD := ⟨("are_bits", none), "are_bits", "are_bits", defArgs (top 20), defBody (top 20), defScope (top 20)⟩
def A_f_is_number (K : PySem.W.Frag) : PySem.Addr := ga K "is_number"
def d_is_number : FnD := ⟨("is_number", none), "is_number", "is_number", defArgs (top 21), defBody (top 21), defScope (top 21)⟩
def A_f_need_number (K : PySem.W.Frag) : PySem.Addr := ga K "need_number"
def d_need_number : FnD := ⟨("need_number", none), "need_number", "need_number", defArgs (top 23), defBody (top 23), defScope (top 23)⟩
def A_f_Wire_hang (K : PySem.W.Frag) : PySem.Addr := ma K (A_c_Wire K) "hang"
def d_Wire_hang : FnD := ⟨("Wire", some "hang"), "hang", "Wire.hang", defArgs (inClass (top 30) 1), defBody (inClass (top 30) 1), defScope (inClass (top 30) 1)⟩
def A_f_law_made (K : PySem.W.Frag) : PySem.Addr := ga K "_law_made"
def d_law_made : FnD := ⟨("_law_made", none), "_law_made", "_law_made", defArgs (top 90), defBody (top 90), defScope (top 90)⟩
def A_f_met (K : PySem.W.Frag) : PySem.Addr := ga K "met"
def d_met : FnD := ⟨("met", none), "met", "met", defArgs (top 25), defBody (top 25), defScope (top 25)⟩
def A_f_fewest (K : PySem.W.Frag) : PySem.Addr := ga K "fewest"
def d_fewest : FnD := ⟨("fewest", none), "fewest", "fewest", defArgs (top 58), defBody (top 58), defScope (top 58)⟩
def A_f_shown (K : PySem.W.Frag) : PySem.Addr := ga K "shown"
def d_shown : FnD := ⟨("shown", none), "shown", "shown", defArgs (top 57), defBody (top 57), defScope (top 57)⟩
def A_f_need_roster (K : PySem.W.Frag) : PySem.Addr := ga K "need_roster"
def d_need_roster : FnD := ⟨("need_roster", none), "need_roster", "need_roster", defArgs (top 63), defBody (top 63), defScope (top 63)⟩
def A_f_judged (K : PySem.W.Frag) : PySem.Addr := ga K "judged"
def d_judged : FnD := ⟨("judged", none), "judged", "judged", defArgs (top 65), defBody (top 65), defScope (top 65)⟩
def A_f_least (K : PySem.W.Frag) : PySem.Addr := ga K "least"
def d_least : FnD := ⟨("least", none), "least", "least", defArgs (top 69), defBody (top 69), defScope (top 69)⟩
def A_f_plan_of (K : PySem.W.Frag) : PySem.Addr := ga K "plan_of"
def d_plan_of : FnD := ⟨("plan_of", none), "plan_of", "plan_of", defArgs (top 77), defBody (top 77), defScope (top 77)⟩
def A_f_follows (K : PySem.W.Frag) : PySem.Addr := ga K "follows"
def d_follows : FnD := ⟨("follows", none), "follows", "follows", defArgs (top 81), defBody (top 81), defScope (top 81)⟩
def A_f_Day___init (K : PySem.W.Frag) : PySem.Addr := ma K (A_c_Day K) "__init__"
def d_Day___init : FnD := ⟨("Day", some "__init__"), "__init__", "Day.__init__", defArgs (inClass (top 47) 0), defBody (inClass (top 47) 0), defScope (inClass (top 47) 0)⟩
def A_f_played (K : PySem.W.Frag) : PySem.Addr := ga K "played"
def d_played : FnD := ⟨("played", none), "played", "played", defArgs (top 48), defBody (top 48), defScope (top 48)⟩
def A_f_law_wide (K : PySem.W.Frag) : PySem.Addr := ga K "_law_wide"
def A_cd_law_wide (K : PySem.W.Frag) : PySem.Addr := (cT K ("_law_wide", none)).1
def A_P_law_wide (K : PySem.W.Frag) : PySem.Addr := (cT K ("_law_wide", none)).2
def d_law_wide : FnD := ⟨("_law_wide", none), "_law_wide", "_law_wide", defArgs (top 91), defBody (top 91), defScope (top 91)⟩
def A_f_law_odd (K : PySem.W.Frag) : PySem.Addr := ga K "_law_odd"
def d_law_odd : FnD := ⟨("_law_odd", none), "_law_odd", "_law_odd", defArgs (top 92), defBody (top 92), defScope (top 92)⟩
def A_f_Wire_need_round (K : PySem.W.Frag) : PySem.Addr := ma K (A_c_Wire K) "need_round"
def d_Wire_need_round : FnD := ⟨("Wire", some "need_round"), "need_round", "Wire.need_round", defArgs (inClass (top 30) 9), defBody (inClass (top 30) 9), defScope (inClass (top 30) 9)⟩
def A_f_look_at (K : PySem.W.Frag) : PySem.Addr := ga K "look_at"
def d_look_at : FnD := ⟨("look_at", none), "look_at", "look_at", defArgs (top 26), defBody (top 26), defScope (top 26)⟩
def A_f_Wire_look (K : PySem.W.Frag) : PySem.Addr := ma K (A_c_Wire K) "look"
def d_Wire_look : FnD := ⟨("Wire", some "look"), "look", "Wire.look", defArgs (inClass (top 30) 10), defBody (inClass (top 30) 10), defScope (inClass (top 30) 10)⟩
def A_f_Wire_say (K : PySem.W.Frag) : PySem.Addr := ma K (A_c_Wire K) "say"
def d_Wire_say : FnD := ⟨("Wire", some "say"), "say", "Wire.say", defArgs (inClass (top 30) 11), defBody (inClass (top 30) 11), defScope (inClass (top 30) 11)⟩
def A_f_need_kind (K : PySem.W.Frag) : PySem.Addr := ga K "need_kind"
def d_need_kind : FnD := ⟨("need_kind", none), "need_kind", "need_kind", defArgs (top 29), defBody (top 29), defScope (top 29)⟩
def A_f_Wire_begin (K : PySem.W.Frag) : PySem.Addr := ma K (A_c_Wire K) "begin"
def d_Wire_begin : FnD := ⟨("Wire", some "begin"), "begin", "Wire.begin", defArgs (inClass (top 30) 8), defBody (inClass (top 30) 8), defScope (inClass (top 30) 8)⟩
def A_f_Wire_looks (K : PySem.W.Frag) : PySem.Addr := ma K (A_c_Wire K) "looks"
def d_Wire_looks : FnD := ⟨("Wire", some "looks"), "looks", "Wire.looks", defArgs (inClass (top 30) 12), defBody (inClass (top 30) 12), defScope (inClass (top 30) 12)⟩
def A_f_Walk___init (K : PySem.W.Frag) : PySem.Addr := ma K (A_c_Walk K) "__init__"
def d_Walk___init : FnD := ⟨("Walk", some "__init__"), "__init__", "Walk.__init__", defArgs (inClass (top 34) 0), defBody (inClass (top 34) 0), defScope (inClass (top 34) 0)⟩
def A_f_Walk_say (K : PySem.W.Frag) : PySem.Addr := ma K (A_c_Walk K) "say"
def d_Walk_say : FnD := ⟨("Walk", some "say"), "say", "Walk.say", defArgs (inClass (top 34) 3), defBody (inClass (top 34) 3), defScope (inClass (top 34) 3)⟩
def A_f_Walk_ended (K : PySem.W.Frag) : PySem.Addr := ma K (A_c_Walk K) "ended"
def d_Walk_ended : FnD := ⟨("Walk", some "ended"), "ended", "Walk.ended", defArgs (inClass (top 34) 4), defBody (inClass (top 34) 4), defScope (inClass (top 34) 4)⟩
def A_f_Walk_begin (K : PySem.W.Frag) : PySem.Addr := ma K (A_c_Walk K) "begin"
def d_Walk_begin : FnD := ⟨("Walk", some "begin"), "begin", "Walk.begin", defArgs (inClass (top 34) 2), defBody (inClass (top 34) 2), defScope (inClass (top 34) 2)⟩
def A_f_Walk_step (K : PySem.W.Frag) : PySem.Addr := ma K (A_c_Walk K) "step"
def d_Walk_step : FnD := ⟨("Walk", some "step"), "step", "Walk.step", defArgs (inClass (top 34) 1), defBody (inClass (top 34) 1), defScope (inClass (top 34) 1)⟩
def A_f_Walk_go_round (K : PySem.W.Frag) : PySem.Addr := ma K (A_c_Walk K) "go_round"
def d_Walk_go_round : FnD := ⟨("Walk", some "go_round"), "go_round", "Walk.go_round", defArgs (inClass (top 34) 5), defBody (inClass (top 34) 5), defScope (inClass (top 34) 5)⟩
def A_f_Walk_found (K : PySem.W.Frag) : PySem.Addr := ma K (A_c_Walk K) "found"
def d_Walk_found : FnD := ⟨("Walk", some "found"), "found", "Walk.found", defArgs (inClass (top 34) 9), defBody (inClass (top 34) 9), defScope (inClass (top 34) 9)⟩
def A_f_Walk_go_all (K : PySem.W.Frag) : PySem.Addr := ma K (A_c_Walk K) "go_all"
def d_Walk_go_all : FnD := ⟨("Walk", some "go_all"), "go_all", "Walk.go_all", defArgs (inClass (top 34) 6), defBody (inClass (top 34) 6), defScope (inClass (top 34) 6)⟩
def A_f_law_rounds (K : PySem.W.Frag) : PySem.Addr := ga K "_law_rounds"
def A_cd_law_rounds (K : PySem.W.Frag) : PySem.Addr := (cT K ("_law_rounds", none)).1
def A_P_law_rounds (K : PySem.W.Frag) : PySem.Addr := (cT K ("_law_rounds", none)).2
def d_law_rounds : FnD := ⟨("_law_rounds", none), "_law_rounds", "_law_rounds", defArgs (top 93), defBody (top 93), defScope (top 93)⟩
def A_f_law_alike (K : PySem.W.Frag) : PySem.Addr := ga K "_law_alike"
def d_law_alike : FnD := ⟨("_law_alike", none), "_law_alike", "_law_alike", defArgs (top 84), defBody (top 84), defScope (top 84)⟩
def A_f_Wire_need_thing (K : PySem.W.Frag) : PySem.Addr := ma K (A_c_Wire K) "need_thing"
def d_Wire_need_thing : FnD := ⟨("Wire", some "need_thing"), "need_thing", "Wire.need_thing", defArgs (inClass (top 30) 2), defBody (inClass (top 30) 2), defScope (inClass (top 30) 2)⟩
def A_f_Wire_off (K : PySem.W.Frag) : PySem.Addr := ma K (A_c_Wire K) "off"
def d_Wire_off : FnD := ⟨("Wire", some "off"), "off", "Wire.off", defArgs (inClass (top 30) 3), defBody (inClass (top 30) 3), defScope (inClass (top 30) 3)⟩
def A_f_Wire_alarm (K : PySem.W.Frag) : PySem.Addr := ma K (A_c_Wire K) "alarm"
def d_Wire_alarm : FnD := ⟨("Wire", some "alarm"), "alarm", "Wire.alarm", defArgs (inClass (top 30) 4), defBody (inClass (top 30) 4), defScope (inClass (top 30) 4)⟩
def A_f_Wire_calm (K : PySem.W.Frag) : PySem.Addr := ma K (A_c_Wire K) "calm"
def d_Wire_calm : FnD := ⟨("Wire", some "calm"), "calm", "Wire.calm", defArgs (inClass (top 30) 5), defBody (inClass (top 30) 5), defScope (inClass (top 30) 5)⟩
def A_f_Wire_hung (K : PySem.W.Frag) : PySem.Addr := ma K (A_c_Wire K) "hung"
def d_Wire_hung : FnD := ⟨("Wire", some "hung"), "hung", "Wire.hung", defArgs (inClass (top 30) 6), defBody (inClass (top 30) 6), defScope (inClass (top 30) 6)⟩
def A_f_Wire_alarms (K : PySem.W.Frag) : PySem.Addr := ma K (A_c_Wire K) "alarms"
def d_Wire_alarms : FnD := ⟨("Wire", some "alarms"), "alarms", "Wire.alarms", defArgs (inClass (top 30) 7), defBody (inClass (top 30) 7), defScope (inClass (top 30) 7)⟩
def A_f_law (K : PySem.W.Frag) : PySem.Addr := ga K "law"
def A_cd_law (K : PySem.W.Frag) : PySem.Addr := (cT K ("law", none)).1
def A_P_law (K : PySem.W.Frag) : PySem.Addr := (cT K ("law", none)).2
def d_law : FnD := ⟨("law", none), "law", "law", defArgs (top 94), defBody (top 94), defScope (top 94)⟩
def A_f_law_word (K : PySem.W.Frag) : PySem.Addr := ga K "_law_word"
def d_law_word : FnD := ⟨("_law_word", none), "_law_word", "_law_word", defArgs (top 85), defBody (top 85), defScope (top 85)⟩
def fn_0 : List (FnD) := [d_law_taken, d_law_width, d_law_number, d_law_near, d_law_things, d_need_width, d_Wire___init, d_are_bits, d_is_number, d_need_number, d_Wire_hang, d_law_made, d_met, d_fewest, d_shown, d_need_roster, d_judged, d_least, d_plan_of, d_follows, d_Day___init, d_played, d_law_wide, d_law_odd, d_Wire_need_round, d_look_at, d_Wire_look, d_Wire_say, d_need_kind, d_Wire_begin]
def fn_1 : List (FnD) := [d_Wire_looks, d_Walk___init, d_Walk_say, d_Walk_ended, d_Walk_begin, d_Walk_step, d_Walk_go_round, d_Walk_found, d_Walk_go_all, d_law_rounds, d_law_alike, d_Wire_need_thing, d_Wire_off, d_Wire_alarm, d_Wire_calm, d_Wire_hung, d_Wire_alarms, d_law, d_law_word]
def fn : List (FnD) := fn_0 ++ (fn_1)
def tf : List Defn := [("law", none), ("_law_wide", none), ("_law_rounds", none)]
def ex_0 (K : PySem.W.Frag) : Bool := decide (PySem.W.nsIn K mainGlobals "Wire" = some (some (.ref (A_c_Wire K)))) && (decide (PySem.W.nsIn K mainGlobals "Walk" = some (some (.ref (A_c_Walk K)))) && (decide (PySem.W.nsIn K mainGlobals "Day" = some (some (.ref (A_c_Day K)))) && (decide (PySem.W.nsIn K mainGlobals "_law_taken" = some (some (.ref (A_f_law_taken K)))) && (PySem.W.keepIn K (.ref (A_f_law_taken K)) && (decide (PySem.W.nsIn K mainGlobals "_law_width" = some (some (.ref (A_f_law_width K)))) && (PySem.W.keepIn K (.ref (A_f_law_width K)) && (decide (PySem.W.nsIn K mainGlobals "_law_number" = some (some (.ref (A_f_law_number K)))) && (PySem.W.keepIn K (.ref (A_f_law_number K)) && (decide (PySem.W.nsIn K mainGlobals "_law_near" = some (some (.ref (A_f_law_near K)))) && (PySem.W.keepIn K (.ref (A_f_law_near K)) && (decide (PySem.W.nsIn K mainGlobals "_law_things" = some (some (.ref (A_f_law_things K)))) && (PySem.W.keepIn K (.ref (A_f_law_things K)) && (decide (PySem.W.nsIn K mainGlobals "need_width" = some (some (.ref (A_f_need_width K)))) && (PySem.W.keepIn K (.ref (A_f_need_width K)) && (decide (PySem.W.findIn K (.ref (A_c_Wire K)) "__init__" = some (some (.ref (A_f_Wire___init K)))) && (PySem.W.isFn K (.ref (A_f_Wire___init K)) && (PySem.W.keepIn K (.ref (A_f_Wire___init K)) && (decide (PySem.W.nsIn K mainGlobals "are_bits" = some (some (.ref (A_f_are_bits K)))) && (PySem.W.keepIn K (.ref (A_f_are_bits K)) && (decide (PySem.W.nsIn K mainGlobals "is_number" = some (some (.ref (A_f_is_number K)))) && (PySem.W.keepIn K (.ref (A_f_is_number K)) && (decide (PySem.W.nsIn K mainGlobals "need_number" = some (some (.ref (A_f_need_number K)))) && (PySem.W.keepIn K (.ref (A_f_need_number K)) && (decide (PySem.W.findIn K (.ref (A_c_Wire K)) "hang" = some (some (.ref (A_f_Wire_hang K)))) && ( true)))))))))))))))))))))))))
def ex_1 (K : PySem.W.Frag) : Bool := PySem.W.isFn K (.ref (A_f_Wire_hang K)) && (PySem.W.keepIn K (.ref (A_f_Wire_hang K)) && (decide (PySem.W.nsIn K mainGlobals "_law_made" = some (some (.ref (A_f_law_made K)))) && (PySem.W.keepIn K (.ref (A_f_law_made K)) && (decide (PySem.W.nsIn K mainGlobals "met" = some (some (.ref (A_f_met K)))) && (PySem.W.keepIn K (.ref (A_f_met K)) && (decide (PySem.W.nsIn K mainGlobals "fewest" = some (some (.ref (A_f_fewest K)))) && (PySem.W.keepIn K (.ref (A_f_fewest K)) && (decide (PySem.W.nsIn K mainGlobals "shown" = some (some (.ref (A_f_shown K)))) && (PySem.W.keepIn K (.ref (A_f_shown K)) && (decide (PySem.W.nsIn K mainGlobals "need_roster" = some (some (.ref (A_f_need_roster K)))) && (PySem.W.keepIn K (.ref (A_f_need_roster K)) && (decide (PySem.W.nsIn K mainGlobals "judged" = some (some (.ref (A_f_judged K)))) && (PySem.W.keepIn K (.ref (A_f_judged K)) && (decide (PySem.W.nsIn K mainGlobals "least" = some (some (.ref (A_f_least K)))) && (PySem.W.keepIn K (.ref (A_f_least K)) && (decide (PySem.W.nsIn K mainGlobals "plan_of" = some (some (.ref (A_f_plan_of K)))) && (PySem.W.keepIn K (.ref (A_f_plan_of K)) && (decide (PySem.W.nsIn K mainGlobals "follows" = some (some (.ref (A_f_follows K)))) && (PySem.W.keepIn K (.ref (A_f_follows K)) && (decide (PySem.W.findIn K (.ref (A_c_Day K)) "__init__" = some (some (.ref (A_f_Day___init K)))) && (PySem.W.isFn K (.ref (A_f_Day___init K)) && (PySem.W.keepIn K (.ref (A_f_Day___init K)) && (decide (PySem.W.nsIn K mainGlobals "played" = some (some (.ref (A_f_played K)))) && (PySem.W.keepIn K (.ref (A_f_played K)) && ( true)))))))))))))))))))))))))
def ex_2 (K : PySem.W.Frag) : Bool := decide (PySem.W.nsIn K mainGlobals "_law_wide" = some (some (.ref (A_f_law_wide K)))) && (PySem.W.keepIn K (.ref (A_f_law_wide K)) && (decide (PySem.W.nsIn K mainGlobals "_law_odd" = some (some (.ref (A_f_law_odd K)))) && (PySem.W.keepIn K (.ref (A_f_law_odd K)) && (decide (PySem.W.findIn K (.ref (A_c_Wire K)) "need_round" = some (some (.ref (A_f_Wire_need_round K)))) && (PySem.W.isFn K (.ref (A_f_Wire_need_round K)) && (PySem.W.keepIn K (.ref (A_f_Wire_need_round K)) && (decide (PySem.W.nsIn K mainGlobals "look_at" = some (some (.ref (A_f_look_at K)))) && (PySem.W.keepIn K (.ref (A_f_look_at K)) && (decide (PySem.W.findIn K (.ref (A_c_Wire K)) "look" = some (some (.ref (A_f_Wire_look K)))) && (PySem.W.isFn K (.ref (A_f_Wire_look K)) && (PySem.W.keepIn K (.ref (A_f_Wire_look K)) && (decide (PySem.W.findIn K (.ref (A_c_Wire K)) "say" = some (some (.ref (A_f_Wire_say K)))) && (PySem.W.isFn K (.ref (A_f_Wire_say K)) && (PySem.W.keepIn K (.ref (A_f_Wire_say K)) && (decide (PySem.W.nsIn K mainGlobals "need_kind" = some (some (.ref (A_f_need_kind K)))) && (PySem.W.keepIn K (.ref (A_f_need_kind K)) && (decide (PySem.W.findIn K (.ref (A_c_Wire K)) "begin" = some (some (.ref (A_f_Wire_begin K)))) && (PySem.W.isFn K (.ref (A_f_Wire_begin K)) && (PySem.W.keepIn K (.ref (A_f_Wire_begin K)) && (decide (PySem.W.findIn K (.ref (A_c_Wire K)) "looks" = some (some (.ref (A_f_Wire_looks K)))) && (PySem.W.isFn K (.ref (A_f_Wire_looks K)) && (PySem.W.keepIn K (.ref (A_f_Wire_looks K)) && (decide (PySem.W.findIn K (.ref (A_c_Walk K)) "__init__" = some (some (.ref (A_f_Walk___init K)))) && (PySem.W.isFn K (.ref (A_f_Walk___init K)) && ( true)))))))))))))))))))))))))
def ex_3 (K : PySem.W.Frag) : Bool := PySem.W.keepIn K (.ref (A_f_Walk___init K)) && (decide (PySem.W.findIn K (.ref (A_c_Walk K)) "say" = some (some (.ref (A_f_Walk_say K)))) && (PySem.W.isFn K (.ref (A_f_Walk_say K)) && (PySem.W.keepIn K (.ref (A_f_Walk_say K)) && (decide (PySem.W.findIn K (.ref (A_c_Walk K)) "ended" = some (some (.ref (A_f_Walk_ended K)))) && (PySem.W.isFn K (.ref (A_f_Walk_ended K)) && (PySem.W.keepIn K (.ref (A_f_Walk_ended K)) && (decide (PySem.W.findIn K (.ref (A_c_Walk K)) "begin" = some (some (.ref (A_f_Walk_begin K)))) && (PySem.W.isFn K (.ref (A_f_Walk_begin K)) && (PySem.W.keepIn K (.ref (A_f_Walk_begin K)) && (decide (PySem.W.findIn K (.ref (A_c_Walk K)) "step" = some (some (.ref (A_f_Walk_step K)))) && (PySem.W.isFn K (.ref (A_f_Walk_step K)) && (PySem.W.keepIn K (.ref (A_f_Walk_step K)) && (decide (PySem.W.findIn K (.ref (A_c_Walk K)) "go_round" = some (some (.ref (A_f_Walk_go_round K)))) && (PySem.W.isFn K (.ref (A_f_Walk_go_round K)) && (PySem.W.keepIn K (.ref (A_f_Walk_go_round K)) && (decide (PySem.W.findIn K (.ref (A_c_Walk K)) "found" = some (some (.ref (A_f_Walk_found K)))) && (PySem.W.isFn K (.ref (A_f_Walk_found K)) && (PySem.W.keepIn K (.ref (A_f_Walk_found K)) && (decide (PySem.W.findIn K (.ref (A_c_Walk K)) "go_all" = some (some (.ref (A_f_Walk_go_all K)))) && (PySem.W.isFn K (.ref (A_f_Walk_go_all K)) && (PySem.W.keepIn K (.ref (A_f_Walk_go_all K)) && (decide (PySem.W.nsIn K mainGlobals "_law_rounds" = some (some (.ref (A_f_law_rounds K)))) && (PySem.W.keepIn K (.ref (A_f_law_rounds K)) && (decide (PySem.W.nsIn K mainGlobals "_law_alike" = some (some (.ref (A_f_law_alike K)))) && ( true)))))))))))))))))))))))))
def ex_4 (K : PySem.W.Frag) : Bool := PySem.W.keepIn K (.ref (A_f_law_alike K)) && (decide (PySem.W.findIn K (.ref (A_c_Wire K)) "need_thing" = some (some (.ref (A_f_Wire_need_thing K)))) && (PySem.W.isFn K (.ref (A_f_Wire_need_thing K)) && (PySem.W.keepIn K (.ref (A_f_Wire_need_thing K)) && (decide (PySem.W.findIn K (.ref (A_c_Wire K)) "off" = some (some (.ref (A_f_Wire_off K)))) && (PySem.W.isFn K (.ref (A_f_Wire_off K)) && (PySem.W.keepIn K (.ref (A_f_Wire_off K)) && (decide (PySem.W.findIn K (.ref (A_c_Wire K)) "alarm" = some (some (.ref (A_f_Wire_alarm K)))) && (PySem.W.isFn K (.ref (A_f_Wire_alarm K)) && (PySem.W.keepIn K (.ref (A_f_Wire_alarm K)) && (decide (PySem.W.findIn K (.ref (A_c_Wire K)) "calm" = some (some (.ref (A_f_Wire_calm K)))) && (PySem.W.isFn K (.ref (A_f_Wire_calm K)) && (PySem.W.keepIn K (.ref (A_f_Wire_calm K)) && (decide (PySem.W.findIn K (.ref (A_c_Wire K)) "hung" = some (some (.ref (A_f_Wire_hung K)))) && (PySem.W.isFn K (.ref (A_f_Wire_hung K)) && (PySem.W.keepIn K (.ref (A_f_Wire_hung K)) && (decide (PySem.W.findIn K (.ref (A_c_Wire K)) "alarms" = some (some (.ref (A_f_Wire_alarms K)))) && (PySem.W.isFn K (.ref (A_f_Wire_alarms K)) && (PySem.W.keepIn K (.ref (A_f_Wire_alarms K)) && (decide (PySem.W.nsIn K mainGlobals "law" = some (some (.ref (A_f_law K)))) && (PySem.W.keepIn K (.ref (A_f_law K)) && (decide (PySem.W.nsIn K mainGlobals "_law_word" = some (some (.ref (A_f_law_word K)))) && (PySem.W.keepIn K (.ref (A_f_law_word K)) && (decide ((A_P_law K) ≠ (A_P_law_wide K)) && (decide ((A_P_law K) ≠ (A_P_law_rounds K)) && ( true)))))))))))))))))))))))))
def ex_5 (K : PySem.W.Frag) : Bool := decide ((A_P_law_wide K) ≠ (A_P_law_rounds K)) && (PySem.W.plainGet K (A_c_Wire K) Str.empty && (PySem.W.hasDictIn K (A_c_Wire K) && (PySem.W.plainOver K (A_c_Wire K) && (decide (PySem.W.findIn K (.ref (A_c_Wire K)) "__setattr__" = some (some (.builtin "object.__setattr__"))) && (PySem.W.makesIn K (A_c_Wire K) && (PySem.W.keepIn K (.ref (A_c_Wire K)) && (decide (PySem.W.findIn K (.ref (A_c_Wire K)) "width" = some none) && (decide (PySem.W.findIn K (.ref (A_c_Wire K)) "things" = some none) && (decide (PySem.W.findIn K (.ref (A_c_Wire K)) "listening" = some none) && (decide (PySem.W.findIn K (.ref (A_c_Wire K)) "told" = some none) && (decide (PySem.W.findIn K (.ref (A_c_Wire K)) "many" = some none) && (PySem.W.plainGet K (A_c_Walk K) Str.empty && (PySem.W.hasDictIn K (A_c_Walk K) && (PySem.W.plainOver K (A_c_Walk K) && (decide (PySem.W.findIn K (.ref (A_c_Walk K)) "__setattr__" = some (some (.builtin "object.__setattr__"))) && (PySem.W.makesIn K (A_c_Walk K) && (PySem.W.keepIn K (.ref (A_c_Walk K)) && (decide (PySem.W.findIn K (.ref (A_c_Walk K)) "wire" = some none) && (decide (PySem.W.findIn K (.ref (A_c_Walk K)) "kind" = some none) && (decide (PySem.W.findIn K (.ref (A_c_Walk K)) "rest" = some none) && (decide (PySem.W.findIn K (.ref (A_c_Walk K)) "said" = some none) && (decide (PySem.W.findIn K (.ref (A_c_Walk K)) "names" = some none) && (decide (PySem.W.findIn K (.ref (A_c_Walk K)) "seen" = some none) && (PySem.W.plainGet K (A_c_Day K) Str.empty && ( true)))))))))))))))))))))))))
def ex_6 (K : PySem.W.Frag) : Bool := PySem.W.hasDictIn K (A_c_Day K) && (PySem.W.plainOver K (A_c_Day K) && (decide (PySem.W.findIn K (.ref (A_c_Day K)) "__setattr__" = some (some (.builtin "object.__setattr__"))) && (PySem.W.makesIn K (A_c_Day K) && (PySem.W.keepIn K (.ref (A_c_Day K)) && (decide (PySem.W.findIn K (.ref (A_c_Day K)) "line" = some none) && (decide (PySem.W.findIn K (.ref (A_c_Day K)) "path" = some none) && (decide (PySem.W.findIn K (.ref (A_c_Day K)) "office" = some none) && (decide (PySem.W.findIn K (.ref (A_c_Day K)) "clerk" = some none) && (decide (PySem.W.nsIn K mainGlobals "BusError" = some (some (.ref (A_e_BusError K)))) && (decide (PySem.W.nsIn K mainGlobals "BadWidth" = some (some (.ref (A_e_BadWidth K)))) && (decide (PySem.W.nsIn K mainGlobals "BadNumber" = some (some (.ref (A_e_BadNumber K)))) && (decide (PySem.W.nsIn K mainGlobals "BadKind" = some (some (.ref (A_e_BadKind K)))) && (decide (PySem.W.nsIn K mainGlobals "BadBit" = some (some (.ref (A_e_BadBit K)))) && (decide (PySem.W.nsIn K mainGlobals "There" = some (some (.ref (A_e_There K)))) && (decide (PySem.W.nsIn K mainGlobals "NotThere" = some (some (.ref (A_e_NotThere K)))) && (decide (PySem.W.nsIn K mainGlobals "NoRound" = some (some (.ref (A_e_NoRound K)))) && (decide (PySem.W.nsIn K mainGlobals "Over" = some (some (.ref (A_e_Over K)))) && (decide (PySem.W.nsIn K mainGlobals "Busy" = some (some (.ref (A_e_Busy K)))) && (decide (PySem.W.nsIn K mainGlobals "BadLooks" = some (some (.ref (A_e_BadLooks K)))) && (decide (PySem.W.nsIn K mainGlobals "BadRoster" = some (some (.ref (A_e_BadRoster K)))) && (decide (PySem.W.nsIn K mainGlobals "TooMany" = some (some (.ref (A_e_TooMany K)))) && (decide (PySem.W.nsIn K mainGlobals "BadPlan" = some (some (.ref (A_e_BadPlan K)))) && (decide (PySem.W.nsIn K mainGlobals "BadStep" = some (some (.ref (A_e_BadStep K)))) && (decide (PySem.W.nsIn K mainGlobals "BadText" = some (some (.ref (A_e_BadText K)))) && ( true)))))))))))))))))))))))))
def ex_7 (K : PySem.W.Frag) : Bool := PySem.W.excIn K (A_e_BadBit K) [.type "ValueError", .type "Exception", .type "BaseException", .type "object"] "ValueError.__new__" && (PySem.W.keepIn K (.ref (A_e_BadBit K)) && (decide (PySem.W.subIn K (.ref (A_e_BadBit K)) (.type "BaseException") = some true) && (decide (PySem.W.typeIn K (.ref (A_e_BadBit K)) = some (.type "type")) && (PySem.W.excIn K (A_e_BadKind K) [.type "ValueError", .type "Exception", .type "BaseException", .type "object"] "ValueError.__new__" && (PySem.W.keepIn K (.ref (A_e_BadKind K)) && (decide (PySem.W.subIn K (.ref (A_e_BadKind K)) (.type "BaseException") = some true) && (decide (PySem.W.typeIn K (.ref (A_e_BadKind K)) = some (.type "type")) && (PySem.W.excIn K (A_e_BadNumber K) [.type "ValueError", .type "Exception", .type "BaseException", .type "object"] "ValueError.__new__" && (PySem.W.keepIn K (.ref (A_e_BadNumber K)) && (decide (PySem.W.subIn K (.ref (A_e_BadNumber K)) (.type "BaseException") = some true) && (decide (PySem.W.typeIn K (.ref (A_e_BadNumber K)) = some (.type "type")) && (PySem.W.excIn K (A_e_BadWidth K) [.type "ValueError", .type "Exception", .type "BaseException", .type "object"] "ValueError.__new__" && (PySem.W.keepIn K (.ref (A_e_BadWidth K)) && (decide (PySem.W.subIn K (.ref (A_e_BadWidth K)) (.type "BaseException") = some true) && (decide (PySem.W.typeIn K (.ref (A_e_BadWidth K)) = some (.type "type")) && (PySem.W.excIn K (A_e_NoRound K) [.type "ValueError", .type "Exception", .type "BaseException", .type "object"] "ValueError.__new__" && (PySem.W.keepIn K (.ref (A_e_NoRound K)) && (decide (PySem.W.subIn K (.ref (A_e_NoRound K)) (.type "BaseException") = some true) && (decide (PySem.W.typeIn K (.ref (A_e_NoRound K)) = some (.type "type")) && (PySem.W.excIn K (A_e_NotThere K) [.type "ValueError", .type "Exception", .type "BaseException", .type "object"] "ValueError.__new__" && (PySem.W.keepIn K (.ref (A_e_NotThere K)) && (decide (PySem.W.subIn K (.ref (A_e_NotThere K)) (.type "BaseException") = some true) && (decide (PySem.W.typeIn K (.ref (A_e_NotThere K)) = some (.type "type")) && (PySem.W.excIn K (A_e_Over K) [.type "ValueError", .type "Exception", .type "BaseException", .type "object"] "ValueError.__new__" && ( true)))))))))))))))))))))))))
def ex_8 (K : PySem.W.Frag) : Bool := PySem.W.keepIn K (.ref (A_e_Over K)) && (decide (PySem.W.subIn K (.ref (A_e_Over K)) (.type "BaseException") = some true) && (decide (PySem.W.typeIn K (.ref (A_e_Over K)) = some (.type "type")) && (PySem.W.excIn K (A_e_There K) [.type "ValueError", .type "Exception", .type "BaseException", .type "object"] "ValueError.__new__" && (PySem.W.keepIn K (.ref (A_e_There K)) && (decide (PySem.W.subIn K (.ref (A_e_There K)) (.type "BaseException") = some true) && (decide (PySem.W.typeIn K (.ref (A_e_There K)) = some (.type "type")) && (decide (([(A_e_BadWidth K), (A_e_BadNumber K), (A_e_BadKind K), (A_e_BadBit K), (A_e_There K), (A_e_NotThere K), (A_e_NoRound K), (A_e_Over K), (A_e_Busy K), (A_e_BadLooks K), (A_e_BadRoster K), (A_e_TooMany K), (A_e_BadPlan K), (A_e_BadStep K), (A_e_BadText K)].map fun c => [(A_e_BadWidth K), (A_e_BadNumber K), (A_e_BadKind K), (A_e_BadBit K), (A_e_There K), (A_e_NotThere K), (A_e_NoRound K), (A_e_Over K), (A_e_Busy K), (A_e_BadLooks K), (A_e_BadRoster K), (A_e_TooMany K), (A_e_BadPlan K), (A_e_BadStep K), (A_e_BadText K)].map fun d => PySem.W.kitOne K (.ref c) (.ref d)) = (List.range 15).map fun i => (List.range 15).map fun j => some (decide (i = j))) && (decide (([(A_e_BadWidth K), (A_e_BadNumber K), (A_e_BadKind K), (A_e_BadBit K), (A_e_There K), (A_e_NotThere K), (A_e_NoRound K), (A_e_Over K), (A_e_Busy K), (A_e_BadLooks K), (A_e_BadRoster K), (A_e_TooMany K), (A_e_BadPlan K), (A_e_BadStep K), (A_e_BadText K)].map fun c => PySem.W.kitOne K (.ref c) (.type "ValueError")) = List.replicate 15 (some true)) && (decide (([(A_e_BadWidth K), (A_e_BadNumber K), (A_e_BadKind K), (A_e_BadBit K), (A_e_There K), (A_e_NotThere K), (A_e_NoRound K), (A_e_Over K), (A_e_Busy K), (A_e_BadLooks K), (A_e_BadRoster K), (A_e_TooMany K), (A_e_BadPlan K), (A_e_BadStep K), (A_e_BadText K)].map fun c => PySem.W.findIn K (.ref c) "__getattribute__") = List.replicate 15 (some (some (.builtin "BaseException.__getattribute__")))) && (decide (([(A_e_BadWidth K), (A_e_BadNumber K), (A_e_BadKind K), (A_e_BadBit K), (A_e_There K), (A_e_NotThere K), (A_e_NoRound K), (A_e_Over K), (A_e_Busy K), (A_e_BadLooks K), (A_e_BadRoster K), (A_e_TooMany K), (A_e_BadPlan K), (A_e_BadStep K), (A_e_BadText K)].map fun c => PySem.W.findIn K (.ref c) "__getattr__") = List.replicate 15 (some none)) && (decide (([(A_e_BadWidth K), (A_e_BadNumber K), (A_e_BadKind K), (A_e_BadBit K), (A_e_There K), (A_e_NotThere K), (A_e_NoRound K), (A_e_Over K), (A_e_Busy K), (A_e_BadLooks K), (A_e_BadRoster K), (A_e_TooMany K), (A_e_BadPlan K), (A_e_BadStep K), (A_e_BadText K)].map fun c => PySem.W.subIn K (.ref c) (.type "BaseException")) = List.replicate 15 (some true)) && (decide (([(A_e_BadWidth K), (A_e_BadNumber K), (A_e_BadKind K), (A_e_BadBit K), (A_e_There K), (A_e_NotThere K), (A_e_NoRound K), (A_e_Over K), (A_e_Busy K), (A_e_BadLooks K), (A_e_BadRoster K), (A_e_TooMany K), (A_e_BadPlan K), (A_e_BadStep K), (A_e_BadText K)].map fun c => PySem.W.hasDictIn K c) = List.replicate 15 (true)) && (decide (([(A_e_BadWidth K), (A_e_BadNumber K), (A_e_BadKind K), (A_e_BadBit K), (A_e_There K), (A_e_NotThere K), (A_e_NoRound K), (A_e_Over K), (A_e_Busy K), (A_e_BadLooks K), (A_e_BadRoster K), (A_e_TooMany K), (A_e_BadPlan K), (A_e_BadStep K), (A_e_BadText K)].map fun c => PySem.W.findIn K (.ref c) "__class__") = List.replicate 15 (some (some (.builtin "object.__class__")))) && (decide (([(A_e_BadWidth K), (A_e_BadNumber K), (A_e_BadKind K), (A_e_BadBit K), (A_e_There K), (A_e_NotThere K), (A_e_NoRound K), (A_e_Over K), (A_e_Busy K), (A_e_BadLooks K), (A_e_BadRoster K), (A_e_TooMany K), (A_e_BadPlan K), (A_e_BadStep K), (A_e_BadText K)].map fun c => PySem.W.mroIn K c (.type "object")) = List.replicate 15 (some true)) && (decide (([(A_e_BadWidth K), (A_e_BadNumber K), (A_e_BadKind K), (A_e_BadBit K), (A_e_There K), (A_e_NotThere K), (A_e_NoRound K), (A_e_Over K), (A_e_Busy K), (A_e_BadLooks K), (A_e_BadRoster K), (A_e_TooMany K), (A_e_BadPlan K), (A_e_BadStep K), (A_e_BadText K)].map fun c => PySem.W.exmOne K (.ref c) (.ref (A_e_BusError K))) = List.replicate 15 (some true)) && (decide (PySem.W.specialIn K (.builtin "object.__class__") "__get__" = some (some (.builtin "getset_descriptor.__get__"))) && (decide (PySem.W.takesIn K (.builtin "object.__class__") = some true) && (strB K "FOUND" "found" && (decide (PySem.W.nsIn K mainGlobals "KINDS" = some (some (.ref (A_a_KINDS K)))) && (tupB K "KINDS" [.str "all", .str "alarm"] && (strB K "LOST" "lost" && (intB K "MOST_WIDTH" 12 && (decide (PySem.W.nsIn K mainGlobals "len" = some none) && (decide (PySem.W.nsIn K mainGlobals "range" = some none) && ( true)))))))))))))))))))))))))
def ex_9 (K : PySem.W.Frag) : Bool := decide (PySem.W.nsIn K mainGlobals "int" = some none) && (decide (PySem.W.nsIn K mainGlobals "bool" = some none) && (decide (PySem.W.nsIn K mainGlobals "str" = some none) && (decide (PySem.W.nsIn K mainGlobals "tuple" = some none) && (decide (PySem.W.nsIn K mainGlobals "list" = some none) && (decide (PySem.W.nsIn K mainGlobals "set" = some none) && (decide (PySem.W.nsIn K mainGlobals "sorted" = some none) && (decide (PySem.W.nsIn K mainGlobals "max" = some none) && (decide (PySem.W.nsIn K mainGlobals "min" = some none) && (decide (PySem.W.nsIn K mainGlobals "sum" = some none) && (decide (PySem.W.nsIn K mainGlobals "isinstance" = some none) && (decide (PySem.W.nsIn K mainGlobals "enumerate" = some none) && (decide (PySem.W.nsIn K mainGlobals "ValueError" = some none) && ( true)))))))))))))
def ex (K : PySem.W.Frag) : Bool := ex_0 K && (ex_1 K && (ex_2 K && (ex_3 K && (ex_4 K && (ex_5 K && (ex_6 K && (ex_7 K && (ex_8 K && (ex_9 K && ( true))))))))))
def hs (K : PySem.W.Frag) : List Int := []
def hv (w : World) : List Int := []
abbrev hk : PySem.W.Hook := hookH as fn tf ex hs hv
def ob (s : PySem.W.SharedT) : AlH := obsH as fn tf ex hs (HandSHeadRun.getT s)
theorem ob_eq (s : PySem.W.SharedT) : ob s = hk.obs s.abs := obsH_eq (HandSHeadRun.getT_eq s)
def hkU : PySem.W.Hook := ⟨Unit, fun _ => (), fun _ => (), fun _ _ => True, fun _ _ _ => trivial, fun _ _ _ _ _ => trivial⟩
theorem both {σ α β γ : Type} {X : Option σ} {f : σ → α} {g : σ → β} {h : σ → γ} {a : α} {b : β} {c : γ} (h1 : X.map (fun s => (f s, g s, ())) = some (a, b, ())) (h2 : X.map h = some c) : X.map (fun s => (f s, g s, h s)) = some (a, b, c) := by
  cases X with
  | none => cases h1
  | some s =>
    have e1 := Option.some.inj h1
    have e2 := Option.some.inj h2
    have p1 := congrArg (fun z : α × β × Unit => z.1) e1
    have p2 := congrArg (fun z : α × β × Unit => z.2.1) e1
    show some (f s, g s, h s) = _
    rw [show f s = a from p1, show g s = b from p2, show h s = c from e2]
set_option maxHeartbeats 0 in
theorem runFa (w : World) : HandSHeadRun.RunEq R (PySem.W.view R.prog [94]) hkU (fun _ => ()) 100000 names (w.withFollow "special-get-raises" false) := by
  intro os
  kernel_rfl
set_option maxHeartbeats 0 in
theorem runFb (w : World) (os : PySem.OsState) : (HandSHeadRun.endF (HandSHeadRun.stepQ (HandSHeadRun.denQ HandSHeadRun.tabQ) R.prog (w.withFollow "special-get-raises" false)) 100000 R.prog (w.withFollow "special-get-raises" false) os).map ob = some (hk.val (w.withFollow "special-get-raises" false)) := by kernel_rfl
theorem runF (w : World) : HandSHeadRun.RunEq R (PySem.W.view R.prog [94]) hk ob 100000 names (w.withFollow "special-get-raises" false) := fun os => both (runFa w os) (runFb w os)
set_option maxHeartbeats 0 in
theorem runTa (w : World) : HandSHeadRun.RunEq R (PySem.W.view R.prog [94]) hkU (fun _ => ()) 100000 names (w.withFollow "special-get-raises" true) := by
  intro os
  kernel_rfl
set_option maxHeartbeats 0 in
theorem runTb (w : World) (os : PySem.OsState) : (HandSHeadRun.endF (HandSHeadRun.stepQ (HandSHeadRun.denQ HandSHeadRun.tabQ) R.prog (w.withFollow "special-get-raises" true)) 100000 R.prog (w.withFollow "special-get-raises" true) os).map ob = some (hk.val (w.withFollow "special-get-raises" true)) := by kernel_rfl
theorem runT (w : World) : HandSHeadRun.RunEq R (PySem.W.view R.prog [94]) hk ob 100000 names (w.withFollow "special-get-raises" true) := fun os => both (runTa w os) (runTb w os)
theorem run (w : World) : HandSHeadRun.RunEq R (PySem.W.view R.prog [94]) hk ob 100000 names w := PySem.W.byRow2 "special-get-raises" (P := fun w => HandSHeadRun.RunEq R (PySem.W.view R.prog [94]) hk ob 100000 names w) runF runT w
end HR
section
open PySem PySem.W PySem.Calls PyProof.Rows
set_option maxRecDepth 100000 in
set_option maxHeartbeats 0 in
theorem HR.front (call : WalkO (view (OpenLaw.row PySem.Challenge.rw_busfind_k01_refused).prog [94]) HR.names (XL (view (OpenLaw.row PySem.Challenge.rw_busfind_k01_refused).prog [94]) []) HR.hk.says (OpenLaw.row PySem.Challenge.rw_busfind_k01_refused).toRowW (HandSHeadRun.topDef (OpenLaw.row PySem.Challenge.rw_busfind_k01_refused).prog 94) [] fun f vs => PySem.call f vs) : PySem.Challenge.rw_busfind_k01_refused.Holds := by
  w_on; o_law
  refine HandSHeadRun.head_any (r := OpenLaw.row PySem.Challenge.rw_busfind_k01_refused) (q := view (OpenLaw.row PySem.Challenge.rw_busfind_k01_refused).prog [94]) (H := HR.hk) (ob := HR.ob) (M := 100000) (loose := HR.names) (d := HandSHeadRun.topDef (OpenLaw.row PySem.Challenge.rw_busfind_k01_refused).prog 94) (kwd := []) HR.ob_eq
    (by kernel_rfl) (fun s => by kernel_rfl) HR.run (by kernel_rfl) (by kernel_rfl) (by kernel_rfl) (by rfl) (by first | assumption | decide +kernel) (by decide +kernel) ⟨rfl, rfl, rfl, rfl, rfl, by decide +kernel⟩ ?hw call
  case hw => w_witness2
theorem HR.lawName : (HandSHeadRun.topDef (OpenLaw.row PySem.Challenge.rw_busfind_k01_refused).prog 94).name = ("law" : PySem.Str) := by kernel_rfl
end
end

section
namespace Lw
open PySem L2
/-! ### calls -/
/-- a def of the module, as it is called -/
structure Cal (P : Program) (w : World) (K : PySem.W.Frag) (mg : Str → Option Value) (base : Heap) (k : Nat) (x : Str) (ps : List Str) (sp : Sp) : Prop where
  ex : ∃ (f : Addr) (fd : FuncData), FnOk P w K mg base (L2.CX P w) k f fd ps sp ∧ mg x = some (.ref f) ∧ PySem.W.keepIn K (.ref f) = true ∧ Binds K fd ps []
/-- a method -/
structure CalM (P : Program) (w : World) (K : PySem.W.Frag) (mg : Str → Option Value) (base : Heap) (k : Nat) (C : Addr) (m : Str) (ps : List Str) (sp : Sp) : Prop where
  ex : ∃ (f : Addr) (fd : FuncData), FnOk P w K mg base (L2.CX P w) k f fd ps sp ∧ Meth K C m f ∧ Binds K fd ps []
/-- a class, as it makes an instance -/
structure CalC (P : Program) (w : World) (K : PySem.W.Frag) (mg : Str → Option Value) (base : Heap) (k : Nat) (C : Addr) (x : Str) (ps : List Str) (sp : Sp) : Prop where
  ex : ∃ (f : Addr) (fd : FuncData), FnOk P w K mg base (L2.CX P w) k f fd ps sp ∧ Mk K C f ∧ mg x = some (.ref C) ∧ Binds K fd ps []
section
variable {X : Cx} {k : Nat} {x m : Str} {ps : List Str} {sp : Sp} {e o : Expr} {es : List Expr} {t : TA} {ta : TE} {E : XK} {p pos apos : Pos} {C : Addr}
theorem pe_cal (c : Cal X.prog X.w X.K X.mg X.base k x ps sp) (hr : Room k X.A) (hx : Passes (L2.CX X.prog X.w) X E) (ha : PA X (e :: es) t) (hg : Gl X x := by rfl) (hdb : (x == ("__debug__" : Str)) = false := by decide)
    (he : starEach (e :: es) X.env = (false, eval e X.env) :: starEach es X.env := by rfl) (hpl : (backTo pos (starEach es X.env)).any (·.1) = false := by rfl) :
    PE X (.Call (.Name x p) (e :: es) [] pos) (tCall sp [] E t) := by
  obtain ⟨f, fd, F, hm, hk, hb⟩ := c.ex
  exact pe_call F hr hg hm hk hb .nil hx ha hdb he hpl
theorem pe_me {pl : Sem Bool} (ho : PE X o ta) (cl : Cls X.K C) (c : CalM X.prog X.w X.K X.mg X.base k C m ps sp) (hr : Room k X.A) (hx : Passes (L2.CX X.prog X.w) X E) (ha : PA X (e :: es) t)
    (he : starEach (e :: es) X.env = (false, eval e X.env) :: starEach es X.env := by rfl) (hpl : (backTo pos (starEach es X.env)).any (·.1) = false := by rfl)
    (hm : eval (.Call (.Attribute o m apos) (e :: es) [] pos) X.env = (do let ov ← eval o X.env; standAt apos.atName; let (f, first) ← holding [ov] (getMethod ov m pl); callWith pos f first (backTo pos (starEach (e :: es) X.env)) (backToKw pos (keywordEach [] X.env))) := by rfl) :
    PE X (.Call (.Attribute o m apos) (e :: es) [] pos) (tMeth C m sp [] E ta t) := by
  obtain ⟨f, fd, F, hM, hb⟩ := c.ex
  exact pe_meth ho cl hM F hr hb .nil hx ha he hpl hm
theorem pe_me0 {pl : Sem Bool} (ho : PE X o ta) (cl : Cls X.K C) (c : CalM X.prog X.w X.K X.mg X.base k C m ps sp) (hr : Room k X.A) (hx : Passes (L2.CX X.prog X.w) X E)
    (hm : eval (.Call (.Attribute o m apos) [] [] pos) X.env = (do let ov ← eval o X.env; standAt apos.atName; let (f, first) ← holding [ov] (getMethod ov m pl); callWith pos f first (backTo pos (starEach [] X.env)) (backToKw pos (keywordEach [] X.env))) := by rfl) :
    PE X (.Call (.Attribute o m apos) [] [] pos) (tMeth C m sp [] E ta tNil) := by
  obtain ⟨f, fd, F, hM, hb⟩ := c.ex
  exact pe_meth0 ho cl hM F hr hb .nil hx hm
theorem pe_mk (c : CalC X.prog X.w X.K X.mg X.base k C x ps sp) (hr : Room (k + 1) X.A) (hx : Passes (L2.CX X.prog X.w) X E) (ha : PA X (e :: es) t) (hg : Gl X x := by rfl) (hdb : (x == ("__debug__" : Str)) = false := by decide)
    (he : starEach (e :: es) X.env = (false, eval e X.env) :: starEach es X.env := by rfl) (hpl : (backTo pos (starEach es X.env)).any (·.1) = false := by rfl) :
    PE X (.Call (.Name x p) (e :: es) [] pos) (tMake C sp [] E t) := by
  obtain ⟨f, fd, F, hM, hm, hb⟩ := c.ex
  exact pe_make hM F hr hg hm hb .nil hx ha hdb he hpl
end
/-! ### heaps -/
/-- a law's row: [script, place, mix, rest] -/
abbrev row (a : Addr) (i m z : Int) : HO := .lst [.ref a, .int i, .int m, .int z]
def RowSh (o : HO) : Prop := ∃ a i m z, o = row a i m z
/-- the script: known to its object, or written -/
def Scr (K : PySem.W.Frag) (H : Hp) (a : Addr) (xs : List V) : Prop := (∃ o, H a = some (.frz o (.lst xs))) ∨ ∀ H', SqL K H' a xs
theorem Scr.sq {K : PySem.W.Frag} {H : Hp} {a : Addr} {xs : List V} (h : Scr K H a xs) : SqL K H a xs := by
  rcases h with ⟨o, h⟩ | h
  · exact .inl (.inr ⟨o, h⟩)
  · exact h H
/-- a law's row stands at r -/
def RowOk (K : PySem.W.Frag) (H : Hp) (r : Addr) : Prop := ∃ (a : Addr) (i m z : Int) (ns : List Int), H r = some (row a i m z) ∧ 0 ≤ i ∧ Scr K H a (ns.map V.int)
/-- all but rows stands, rows stay rows -/
structure Ext (H H' : Hp) : Prop where
  st : ∀ b o, H b = some o → ¬ RowSh o → H' b = some o
  rw_ : ∀ b a i m z, H b = some (row a i m z) → 0 ≤ i → ∃ i' m' z', H' b = some (row a i' m' z') ∧ 0 ≤ i'
  th : ∀ b o, H b = some o → ∃ o', H' b = some o'
theorem nsh_of {o : HO} (h : ∀ a i m z, o ≠ row a i m z) : ¬ RowSh o := fun ⟨a, i, m, z, e⟩ => h a i m z e
theorem nsh_ints (ns : List Int) : ¬ RowSh (.lst (ns.map V.int)) := nsh_of fun a i m z e => by
  cases ns with
  | nil => simp [row] at e
  | cons x xs => simp [row] at e
theorem nsh_strs (ns : List Str) : ¬ RowSh (.lst (ns.map V.str)) := nsh_of fun a i m z e => by
  cases ns with
  | nil => simp [row] at e
  | cons x xs => simp [row] at e
theorem nsh_refs (ns : List Addr) : ¬ RowSh (.lst (ns.map V.ref)) := nsh_of fun a i m z e => by
  match ns, e with
  | [], e => simp [row] at e
  | [x], e => simp [row] at e
  | x :: y :: xs, e => simp [row] at e
theorem nsh_nil : ¬ RowSh (.lst []) := nsh_of fun a i m z e => by simp [row] at e
theorem nsh_tup {xs : List V} : ¬ RowSh (.tup xs) := nsh_of fun a i m z e => by cases e
theorem nsh_frz {o : Obj} {u : HO} : ¬ RowSh (.frz o u) := nsh_of fun a i m z e => by cases e
theorem nsh_dK {kvs} : ¬ RowSh (.dK kvs) := nsh_of fun a i m z e => by cases e
theorem nsh_ins {C dx fs} : ¬ RowSh (.ins C dx fs) := nsh_of fun a i m z e => by cases e
theorem nsh_ext {x} : ¬ RowSh (.ext x) := nsh_of fun a i m z e => by cases e
section
variable {K : PySem.W.Frag} {H H1 H2 : Hp} {p a r : Addr} {o : HO} {xs : List V}
theorem Ext.refl (H : Hp) : Ext H H := ⟨fun _ _ h _ => h, fun _ _ i m z h hi => ⟨i, m, z, h, hi⟩, fun _ o h => ⟨o, h⟩⟩
theorem Ext.trans (a : Ext H H1) (b : Ext H1 H2) : Ext H H2 := ⟨fun c o h n => b.st c o (a.st c o h n) n, fun c x i m z h hi => by
  obtain ⟨i1, m1, z1, h1, hi1⟩ := a.rw_ c x i m z h hi
  exact b.rw_ c x i1 m1 z1 h1 hi1, fun c o h => by
  obtain ⟨o1, h1⟩ := a.th c o h
  exact b.th c o1 h1⟩
theorem Ext.seq (e : Ext H H1) (n : ¬ RowSh (.lst xs)) (h : SqL K H a xs) : SqL K H1 a xs := by
  rcases h with (h | ⟨o, h⟩) | h
  · exact .inl (.inl (e.st _ _ h n))
  · exact .inl (.inr ⟨o, e.st _ _ h nsh_frz⟩)
  · exact .inr h
theorem Ext.tup (e : Ext H H1) (h : SqT K H a xs) : SqT K H1 a xs := by
  rcases h with (h | ⟨o, h⟩) | h
  · exact .inl (.inl (e.st _ _ h nsh_tup))
  · exact .inl (.inr ⟨o, e.st _ _ h nsh_frz⟩)
  · exact .inr h
theorem Ext.scr (e : Ext H H1) (h : Scr K H a xs) : Scr K H1 a xs := by
  rcases h with ⟨o, h⟩ | h
  · exact .inl ⟨o, e.st _ _ h nsh_frz⟩
  · exact .inr h
theorem Ext.rowOk (e : Ext H H1) (h : RowOk K H r) : RowOk K H1 r := by
  obtain ⟨a, i, m, z, ns, h0, hi, hs⟩ := h
  obtain ⟨i', m', z', h1, hi'⟩ := e.rw_ _ _ _ _ _ h0 hi
  exact ⟨a, i', m', z', ns, h1, hi', e.scr hs⟩
theorem Ext.of_same (e : ∀ b o, H b = some o → H1 b = some o) : Ext H H1 := ⟨fun b o h _ => e b o h, fun b a i m z h hi => ⟨i, m, z, e _ _ h, hi⟩, fun b o h => ⟨o, e b o h⟩⟩
theorem Ext.new (h : H p = none) : Ext H (upd H p o) := .of_same fun b u e => by
  rw [upd_ne (ne_of_none e h)]
  exact e
/-- an object that was not there at H may change -/
theorem Ext.mut (e : Ext H H1) (h : H p = none) : Ext H (upd H1 p o) := by
  refine ⟨fun b u hb n => ?_, fun b a i m z hb hi => ?_, fun b u hb => ?_⟩
  · rw [upd_ne (ne_of_none hb h)]
    exact e.st b u hb n
  · rw [upd_ne (ne_of_none hb h)]
    exact e.rw_ b a i m z hb hi
  · rw [upd_ne (ne_of_none hb h)]
    exact e.th b u hb
/-- the row is written -/
theorem Ext.wr {i m z i' m' z' : Int} (h : H r = some (row a i m z)) (hi : 0 ≤ i') : Ext H (upd H r (row a i' m' z')) := by
  refine ⟨fun b u hb n => ?_, fun b a2 i2 m2 z2 hb hi2 => ?_, fun b u hb => ?_⟩
  · by_cases e : b = r
    · subst e
      rw [h] at hb
      cases hb
      exact absurd ⟨a, i, m, z, rfl⟩ n
    · rw [upd_ne e]
      exact hb
  · by_cases e : b = r
    · subst e
      rw [h] at hb
      cases hb
      exact ⟨i', m', z', upd_same, hi⟩
    · rw [upd_ne e]
      exact ⟨i2, m2, z2, hb, hi2⟩
  · by_cases e : b = r
    · subst e
      exact ⟨_, upd_same⟩
    · rw [upd_ne e]
      exact ⟨u, hb⟩
/-- what was not there behind was not there before -/
theorem Ext.free (e : Ext H H1) (h : H1 p = none) : H p = none := by
  cases q : H p with
  | none => rfl
  | some o =>
    obtain ⟨o', h1⟩ := e.th _ _ q
    rw [h] at h1
    cases h1
theorem Ext.lst (e : Ext H H1) (h : H p = some (.lst xs)) (n : ¬ RowSh (.lst xs)) : H1 p = some (.lst xs) := e.st _ _ h n
end
/-- a new tuple, a new list -/
def AlT (xs : List V) (H : Hp) (Q : VK) : Prop := xs.length ≤ sizeLine ∧ ∀ p, H p = none → Q (.ref p) (upd H p (.tup xs))
def AlL (xs : List V) (H : Hp) (Q : VK) : Prop := xs.length ≤ sizeLine ∧ ∀ p, H p = none → Q (.ref p) (upd H p (.lst xs))
/-! ### builtins by name -/
section
variable {X : Cx}
def rAddS : R2 := fun x y H Q => ∃ i j, x = .str i ∧ y = .str j ∧ i.length + j.length ≤ sizeLine ∧ Q (.str (i ++ j)) H
theorem o_addS : OpR X (binaryOp .Add) rAddS := op_add_str
def rSg : R2 := fun x y H Q => ∃ (c : Nat) (z : Str), x = .str ⟨#[c]⟩ ∧ y = .str z ∧ Q (.bl (decide (c ∈ z.cps.toList))) H
def rNotSg : R2 := fun x y H Q => ∃ (c : Nat) (z : Str), x = .str ⟨#[c]⟩ ∧ y = .str z ∧ Q (.bl (!decide (c ∈ z.cps.toList))) H
theorem o_notSg : OpR X (compareOp .NotIn) rNotSg := op_notIn_sign
def rStarts : V → List V → Hp → VK → Prop := fun x xs H Q => ∃ a b, x = .str a ∧ xs = [.str b] ∧ Q (.bl (Txt.startswith a b)) H
theorem m_starts : MtR X "str.startswith" rStarts := mt_startswith
/-- an own class of errors over ValueError, without an __init__ of its own -/
structure ExcC (K : PySem.W.Frag) (mg : Str → Option Value) (x : Str) (C : Addr) : Prop where
  q : PySem.W.excIn K C [.type "ValueError", .type "Exception", .type "BaseException", .type "object"] "ValueError.__new__" = true
  gC : mg x = some (.ref C)
  kC : PySem.W.keepIn K (.ref C) = true
  b : PySem.W.subIn K (.ref C) (.type "BaseException") = some true
  t : PySem.W.typeIn K (.ref C) = some (.type "type")
theorem pmkC {x m : Str} {C : Addr} {j : Nat} {p p2 pos : Pos} (e : ExcC X.K X.mg x C) (hg : Gl X x := by rfl) (hdb : (x == ("__debug__" : Str)) = false := by decide) : PMk X (.Call (.Name x p) [.Constant (.str m) j p2] [] pos) (fun _ H Q => Q (.ref C) none H) :=
  pmk_own PySem.F.excBase_ValueError e.q e.gC e.kC (raises_own e.b e.t) hg hdb
def rLenS (K : PySem.W.Frag) : List V → Hp → VK → Prop := fun xs H Q => ∃ p ys, xs = [.ref p] ∧ (SqL K H p ys ∨ SqT K H p ys) ∧ Q (.int ys.length) H
theorem c_len : CallR X (.builtin "len") (rLenS X.K) := call_len_seq
def rLenT : List V → Hp → VK → Prop := fun xs H Q => ∃ z, xs = [.str z] ∧ z.length ≤ sizeLine ∧ Q (.int z.length) H
theorem c_lenT : CallR X (.builtin "len") rLenT := call_len_str
def rMax2 : List V → Hp → VK → Prop := fun xs H Q => ∃ i j, xs = [.int i, .int j] ∧ Q (.int (if j > i then j else i)) H
theorem c_max2 (hc : X.calm = true) : CallR X (.builtin "max") rMax2 := call_max2 hc
def rMin2 : List V → Hp → VK → Prop := fun xs H Q => ∃ i j, xs = [.int i, .int j] ∧ Q (.int (if j < i then j else i)) H
def rIntV : List V → Hp → VK → Prop := fun xs H Q => (∃ i, xs = [.int i] ∧ Q (.int i) H) ∨ ∃ k, xs = [.bl k] ∧ Q (.int (if k then 1 else 0)) H
def rIntS : List V → Hp → VK → Prop := fun xs H Q => ∃ a n, xs = [.str a] ∧ PySem.intText? a = some n ∧ a.length ≤ 640 ∧ Q (.int n) H
theorem c_intS : CallR X (.type "int") rIntS := call_int_str
def rStrI : List V → Hp → VK → Prop := fun xs H Q => ∃ i : Int, xs = [.int i] ∧ i.natAbs.log2 < 1920 ∧ Q (.str (toString i)) H
theorem c_strI : CallR X (.type "str") rStrI := call_str_int
def rListS (K : PySem.W.Frag) : List V → Hp → VK → Prop := fun xs H Q => ∃ p ys, xs = [.ref p] ∧ (SqL K H p ys ∨ SqT K H p ys) ∧ ∀ l, H l = none → Q (.ref l) (upd H l (.lst ys))
theorem c_listS : CallR X (.type "list") (rListS X.K) := call_list_of
end
/-! ### rules with the written part told -/
section
variable {X : Cx} {K : PySem.W.Frag}
theorem ixL (h : X.K = K) : IxR X (rIxL K) := h ▸ ix_list
theorem ixA (h : X.K = K) : IxR X (rIx K) := h ▸ ix_seq
theorem cLen (h : X.K = K) : CallR X (.builtin "len") (rLenS K) := h ▸ c_len
theorem cIsi (h : X.K = K) : CallR X (.builtin "isinstance") (rIsi K) := h ▸ call_isi
theorem cIsiT (h : X.K = K) : CallR X (.builtin "isinstance") (rIsiT K) := h ▸ call_isiT
theorem oEqD (h : X.K = K) (hu : X.A.units + 64 < cLine) : OpR X (compareOp .Eq) (rEqD K) := h ▸ op_eqD hu
theorem oNeD (h : X.K = K) (hu : X.A.units + 64 < cLine) : OpR X (compareOp .NotEq) (rNeD K) := h ▸ op_neD hu
theorem oIn (h : X.K = K) : OpR X (compareOp .In) (rIn K false) := h ▸ op_in_seq
theorem oNotIn (h : X.K = K) : OpR X (compareOp .NotIn) (rIn K true) := h ▸ op_notIn_seq
theorem cList (h : X.K = K) : CallR X (.type "list") (rListS K) := h ▸ c_listS
theorem slL (h : X.K = K) : SlR X (rSlL K) := h ▸ sl_list
theorem cSortS (h : X.K = K) : CallR X (.builtin "sorted") (rSortedS K) := h ▸ cr_sortedS
theorem piL {tg l : Expr} {tl : TE} (h : X.K = K) (hl : PE X l tl) : PI X tg l (iList K tl) := h ▸ pi_list hl
theorem piT {tg l : Expr} {tl : TE} (h : X.K = K) (hl : PE X l tl) : PI X tg l (iTup K tl) := h ▸ pi_tup hl
theorem pFld {e : Expr} {te : TE} {f : Str} {pos : Pos} (h : X.K = K) (he : PE X e te) (hb : attributeBase e f X.env (eval e X.env) = eval e X.env) : PE X (.Attribute e f pos) (tFld K te f) := h ▸ pe_fld he hb
theorem sFldK {e v : Expr} {te tv : TE} {f : Str} {p1 pos : Pos} (h : X.K = K) (he : PE X e te) (hv : PE X v tv) (hs : swapsWith v (some (.Attribute e f p1)) pos.line X.env = pure false) : PS X (.Assign [.Attribute e f p1] v pos) (sFld K te tv f) := h ▸ ps_fld he hv hs
/-- few arguments, none starred -/
def FewA (X : Cx) (e : Expr) (es : List Expr) (cp : Pos) : Prop :=
  ((backTo cp (starEach (e :: es) X.env)).all (fun x => !x.1) &&
    (backToKw cp (keywordEach [] X.env)).all (fun x => x.1.isSome) && decide ((e :: es).length + 0 + 0 < 30)) = true
section
variable {o e : Expr} {es : List Expr} {to : TE} {t : TA} {name : Str} {ap cp : Pos} {T id : String} {r : V → List V → Hp → VK → Prop}
theorem pBm (h : X.K = K) (pa : PlainAttrs T) (slot : Slot T name id) (hty : typeOf (.builtin id) = pure (.type "method_descriptor")) (hm : MtR X id r) (ho : PE X o to) (ha : PA X (e :: es) t)
    (hb : attributeBase o name X.env (eval o X.env) = eval o X.env := by rfl) (hf : FewA X e es cp := by rfl) (hl : (ap.endLine == cp.line) = true := by rfl)
    (hs : starEach (e :: es) X.env = (false, eval e X.env) :: starEach es X.env := by rfl) (hp : (backTo cp (starEach es X.env)).any (·.1) = false := by rfl) :
    PE X (.Call (.Attribute o name ap) (e :: es) [] cp) (tBM K T r to t) := h ▸ pe_bm pa slot hty hm ho ha hb hf hl hs hp
theorem pBm0 (h : X.K = K) (pa : PlainAttrs T) (slot : Slot T name id) (hty : typeOf (.builtin id) = pure (.type "method_descriptor")) (hm : MtR X id r) (ho : PE X o to)
    (hb : attributeBase o name X.env (eval o X.env) = eval o X.env := by rfl) (hl : (ap.endLine == cp.line) = true := by rfl) : PE X (.Call (.Attribute o name ap) [] [] cp) (tBM0 K T r to) := h ▸ pe_bm0 pa slot hty hm ho hb hl
def rJoin (K : PySem.W.Frag) : V → List V → Hp → VK → Prop := fun x xs H Q => ∃ (a : Str) (p : Addr) (ys : List Str), x = .str a ∧ xs = [.ref p] ∧ (SqL K H p (ys.map V.str) ∨ SqT K H p (ys.map V.str)) ∧
  (ys.map (·.length)).sum + ys.length * a.length ≤ 16777216 ∧ Q (.str (Txt.join a ys)) H
theorem mJoin (h : X.K = K) : MtR X "str.join" (rJoin K) := h ▸ mt_join
end
end
/-! ### readings, step by step (what follows is handed on) -/
section
variable {K : PySem.W.Frag} {σ : St} {H : Hp} {Q : VK} {D : Ends} {v x y : V} {i : Nat} {ta tb tc te : TE} {t u : TT} {ts tu tw : TS} {tr tq : TA} {R : Bool → Hp → Prop} {RA : List V → Hp → Prop} {r : R2} {E : XK}
theorem w_var (h : σ[i]? = some (some v)) (k : Q v H) : tVar i σ H Q := ⟨v, h, k⟩
theorem w_c (k : Q v H) : tC v σ H Q := k
theorem w_op (k : ta σ H fun x H1 => tb σ H1 fun y H2 => r x y H2 Q) : tOp r ta tb σ H Q := k
theorem w_un {r : V → Hp → VK → Prop} (k : ta σ H fun x H1 => r x H1 Q) : tUn r ta σ H Q := k
theorem w_cons (k : te σ H fun x H1 => tr σ H1 fun xs H2 => RA (x :: xs) H2) : tCons te tr σ H RA := k
theorem w_nil (k : RA [] H) : tNil σ H RA := k
theorem w_test (k : te σ H fun x H1 => ∃ b, x = .bl b ∧ R b H1) : tTest te σ H R := k
theorem w_B (k : te σ H fun x H1 => ∃ b, x = .bl b ∧ R b H1) : tB te σ H R := k
theorem w_isbl {b : Bool} {R : Bool → Prop} (k : R b) : ∃ c, V.bl b = .bl c ∧ R c := ⟨b, rfl, k⟩
theorem w_not (k : t σ H fun c H1 => R (!c) H1) : tNot t σ H R := k
theorem w_and (k : t σ H fun c H1 => if c = true then u σ H1 R else R false H1) : tAnd t u σ H R := k
theorem w_or (k : t σ H fun c H1 => if c = true then R true H1 else u σ H1 R) : tOr t u σ H R := k
theorem w_andV (k : ta σ H fun x H1 => ∃ c, x = .bl c ∧ if c = true then tb σ H1 Q else Q (.bl false) H1) : tAndV ta tb σ H Q := k
theorem w_orV (k : ta σ H fun x H1 => ∃ c, x = .bl c ∧ if c = true then Q (.bl true) H1 else tb σ H1 Q) : tOrV ta tb σ H Q := k
theorem w_notV (k : ta σ H fun x H1 => ∃ c, x = .bl c ∧ Q (.bl (!c)) H1) : tNotV ta σ H Q := k
theorem w_if (k : t σ H fun c H1 => if c = true then ta σ H1 Q else tb σ H1 Q) : tIf t ta tb σ H Q := k
theorem w_chain {r' : R2} (k : ta σ H fun x H1 => tb σ H1 fun y H2 => r x y H2 fun z H3 => ∃ k, z = .bl k ∧ (if k = true then tc σ H3 fun w' H4 => r' y w' H4 Q else Q (.bl false) H3)) : tChain r r' ta tb tc σ H Q := k
theorem w_isN (k : ta σ H fun x H1 => Q (.bl (decide (x = .non))) H1) : tIsN ta σ H Q := k
theorem w_notN (k : ta σ H fun x H1 => Q (.bl (!decide (x = .non))) H1) : tNotN ta σ H Q := k
theorem w_yes (k : R true H) : tYes σ H R := k
theorem w_call {sp : Sp} (k : tr σ H fun vs H1 => sp (vs ++ []) H1 Q E) : tCall sp [] E tr σ H Q := k
theorem w_CB {r : List V → Hp → VK → Prop} (k : tr σ H fun vs H1 => r vs H1 Q) : tCB r tr σ H Q := k
theorem w_tup (k : tr σ H fun xs H1 => AlT xs H1 Q) : tTup tr σ H Q := k
theorem w_lst (k : tr σ H fun xs H1 => AlL xs H1 Q) : tLst tr σ H Q := k
theorem w_alT {xs : List V} (hl : xs.length ≤ 100000) (k : ∀ p H', H p = none → Ext H H' → H' p = some (.tup xs) → Q (.ref p) H') : AlT xs H Q := ⟨Nat.le_trans hl (by decide), fun p hp => k p _ hp (Ext.new hp) upd_same⟩
theorem w_alL {xs : List V} (hl : xs.length ≤ 100000) (k : ∀ p H', H p = none → Ext H H' → H' p = some (.lst xs) → Q (.ref p) H') : AlL xs H Q := ⟨Nat.le_trans hl (by decide), fun p hp => k p _ hp (Ext.new hp) upd_same⟩
theorem w_sl {r : V → Option Int → Option Int → Hp → VK → Prop} {tl th : TO} (k : te σ H fun x H1 => tl σ H1 fun l H2 => th σ H2 fun u H3 => r x l u H3 Q) : tSl r te tl th σ H Q := k
theorem w_noPart {RO : Option Int → Hp → Prop} (k : RO none H) : tNoPart σ H RO := k
theorem w_part {RO : Option Int → Hp → Prop} (k : te σ H fun x H1 => ∃ i, x = .int i ∧ RO (some i) H1) : tPart te σ H RO := k
theorem w_isint {RO : Int → Prop} {j : Int} (k : RO j) : ∃ i, V.int j = .int i ∧ RO i := ⟨j, rfl, k⟩
-- statements
theorem w_seq (k : ts { D with nx := tu D } σ H) : tSeq ts tu D σ H := k
theorem w_asg {g : TG} (k : te σ H fun x H1 => g x σ H1 D.nx) : tAsg te g D σ H := k
theorem w_gname {S : St → Hp → Prop} (k : S (σ.set i (some v)) H) : gName i v σ H S := k
theorem w_ret (k : te σ H D.rt) : tRet te D σ H := k
theorem w_retN (k : D.rt .non H) : tRetN D σ H := k
theorem w_drop (k : te σ H fun _ H1 => D.nx σ H1) : tDrop te D σ H := k
theorem w_ifS (k : t σ H fun b H1 => if b = true then tu D σ H1 else tw D σ H1) : tIfS t tu tw D σ H := k
theorem w_next (k : D.nx σ H) : tNext D σ H := k
theorem w_break (k : D.bk σ H) : tBreak D σ H := k
theorem w_cont (k : D.ct σ H) : tCont D σ H := k
-- ints
theorem w_I0 {g : Int → Int → V} {a b : Int} (k : Q (g a b) H) : rI0 g (.int a) (.int b) H Q := ⟨a, b, rfl, rfl, k⟩
theorem w_I {Cc : Int → Int → Prop} {g : Int → Int → V} {a b : Int} (hc : Cc a b) (k : Q (g a b) H) : rI Cc g (.int a) (.int b) H Q := ⟨a, b, rfl, rfl, hc, k⟩
theorem w_eqI {a b : Int} (k : Q (.bl (decide (a = b))) H) : rEq (.int a) (.int b) H Q := ⟨rfl, by
  have e : decide (V.int a = V.int b) = decide (a = b) := by simp
  rw [e]; exact k⟩
theorem w_neI {a b : Int} (k : Q (.bl (!decide (a = b))) H) : rNe (.int a) (.int b) H Q := ⟨rfl, by
  have e : decide (V.int a = V.int b) = decide (a = b) := by simp
  rw [e]; exact k⟩
theorem w_eqS {a b : Str} (k : Q (.bl (decide (a = b))) H) : rEq (.str a) (.str b) H Q := ⟨rfl, by
  have e : decide (V.str a = V.str b) = decide (a = b) := by simp
  rw [e]; exact k⟩
theorem w_neS {a b : Str} (k : Q (.bl (!decide (a = b))) H) : rNe (.str a) (.str b) H Q := ⟨rfl, by
  have e : decide (V.str a = V.str b) = decide (a = b) := by simp
  rw [e]; exact k⟩
theorem w_eqB {a b : Bool} (k : Q (.bl (decide (a = b))) H) : rEq (.bl a) (.bl b) H Q := ⟨rfl, by
  have e : decide (V.bl a = V.bl b) = decide (a = b) := by simp
  rw [e]; exact k⟩
theorem w_neB {a b : Bool} (k : Q (.bl (!decide (a = b))) H) : rNe (.bl a) (.bl b) H Q := ⟨rfl, by
  have e : decide (V.bl a = V.bl b) = decide (a = b) := by simp
  rw [e]; exact k⟩
theorem w_ixAL {p : Addr} {xs : List V} {j : Int} (h : SqL K H p xs) (ha : atI xs j = some v) (k : Q v H) : rIx K (.ref p) (.int j) H Q := .inl ⟨p, xs, j, v, rfl, rfl, h, ha, k⟩
theorem w_ixAT {p : Addr} {xs : List V} {j : Int} (h : SqT K H p xs) (ha : atI xs j = some v) (k : Q v H) : rIx K (.ref p) (.int j) H Q := .inr (.inl ⟨p, xs, j, v, rfl, rfl, h, ha, k⟩)
-- items
theorem w_ixL {p : Addr} {xs : List V} {j : Int} (h : SqL K H p xs) (ha : atI xs j = some v) (k : Q v H) : rIxL K (.ref p) (.int j) H Q := ⟨p, xs, j, v, rfl, rfl, h, ha, k⟩
theorem w_ixT {p : Addr} {xs : List V} {j : Int} (h : SqT K H p xs) (ha : atI xs j = some v) (k : Q v H) : rIxT K (.ref p) (.int j) H Q := ⟨p, xs, j, v, rfl, rfl, h, ha, k⟩
theorem w_ixS {z : Str} {j : Int} {c : Nat} (h : z.length ≤ 100000) (ha : atI z.cps.toList j = some c) (k : Q (.str ⟨#[c]⟩) H) : rIxS (.str z) (.int j) H Q := ⟨z, j, c, rfl, rfl, Nat.le_trans h (by decide), ha, k⟩
theorem w_gSub {ti to : TE} {S : St → Hp → Prop} (k : to σ H fun o H1 => ti σ H1 fun i H2 => rSetL o i v H2 (fun H3 => S σ H3)) : gSub to ti rSetL v σ H S := k
section
variable {r a : Addr} {i m z j : Int} {S : Hp → Prop}
theorem w_row1 (h : H r = some (row a i m z)) (hj : 0 ≤ j) (k : ∀ H', H' r = some (row a j m z) → Ext H H' → S H') : rSetL (.ref r) (.int 1) (.int j) H S :=
  ⟨r, _, 1, 1, rfl, rfl, h, rfl, k (upd H r (row a j m z)) upd_same (Ext.wr h hj)⟩
theorem w_row2 (h : H r = some (row a i m z)) (hi : 0 ≤ i) (k : ∀ H', H' r = some (row a i j z) → Ext H H' → S H') : rSetL (.ref r) (.int 2) (.int j) H S :=
  ⟨r, _, 2, 2, rfl, rfl, h, rfl, k (upd H r (row a i j z)) upd_same (Ext.wr h hi)⟩
theorem w_row3 (h : H r = some (row a i m z)) (hi : 0 ≤ i) (k : ∀ H', H' r = some (row a i m j) → Ext H H' → S H') : rSetL (.ref r) (.int 3) (.int j) H S :=
  ⟨r, _, 3, 3, rfl, rfl, h, rfl, k (upd H r (row a i m j)) upd_same (Ext.wr h hi)⟩
end
/-- len of a sequence -/
theorem w_lenL {p : Addr} {xs : List V} (h : SqL K H p xs) (k : Q (.int (xs.length : Int)) H) : rLenS K [.ref p] H Q := ⟨p, xs, rfl, .inl h, k⟩
theorem w_lenT {p : Addr} {xs : List V} (h : SqT K H p xs) (k : Q (.int (xs.length : Int)) H) : rLenS K [.ref p] H Q := ⟨p, xs, rfl, .inr h, k⟩
theorem w_lenS {z : Str} (h : z.length ≤ 100000) (k : Q (.int (z.length : Int)) H) : rLenT [.str z] H Q := ⟨z, rfl, Nat.le_trans h (by decide), k⟩
theorem w_max2 {a b : Int} (k : Q (.int (if b > a then b else a)) H) : rMax2 [.int a, .int b] H Q := ⟨a, b, rfl, k⟩
theorem w_min2 {a b : Int} (k : Q (.int (if b < a then b else a)) H) : rMin2 [.int a, .int b] H Q := ⟨a, b, rfl, k⟩
theorem w_intB {b : Bool} (k : Q (.int (if b then 1 else 0)) H) : rIntV [.bl b] H Q := .inr ⟨b, rfl, k⟩
theorem w_intI {a : Int} (k : Q (.int a) H) : rIntV [.int a] H Q := .inl ⟨a, rfl, k⟩
theorem w_intS {a : Str} {n : Int} (h : PySem.intText? a = some n) (hl : a.length ≤ 640) (k : Q (.int n) H) : rIntS [.str a] H Q := ⟨a, n, rfl, h, hl, k⟩
theorem w_strI {a : Int} (h : a.natAbs.log2 < 1920) (k : Q (.str (toString a)) H) : rStrI [.int a] H Q := ⟨a, rfl, h, k⟩
theorem w_listL {p : Addr} {xs : List V} (h : SqL K H p xs) (k : ∀ l H', H l = none → Ext H H' → H' l = some (.lst xs) → Q (.ref l) H') : rListS K [.ref p] H Q := ⟨p, xs, rfl, .inl h, fun l hl => k l _ hl (Ext.new hl) upd_same⟩
theorem w_addS {a b : Str} (h : a.length + b.length ≤ 100000) (k : Q (.str (a ++ b)) H) : rAddS (.str a) (.str b) H Q := ⟨a, b, rfl, rfl, Nat.le_trans h (by decide), k⟩
theorem w_slS {z : Str} {lo hi : Option Int} (h : z.length ≤ 100000) (k : Q (.str (cutS z lo hi)) H) : rSlS (.str z) lo hi H Q := ⟨z, rfl, Nat.le_trans h (by decide), k⟩
theorem w_slL {p : Addr} {xs : List V} {lo hi : Option Int} (h : SqL K H p xs) (k : ∀ l H', H l = none → Ext H H' → H' l = some (.lst (cutV xs lo hi)) → Q (.ref l) H') : rSlL K (.ref p) lo hi H Q := ⟨p, xs, rfl, h, fun l hl => k l _ hl (Ext.new hl) upd_same⟩
theorem w_cat {p q : Addr} {xs ys : List V} (h : H p = some (.lst xs)) (h2 : H q = some (.lst ys)) (hl : xs.length + ys.length ≤ 100000) (k : ∀ l H', H l = none → Ext H H' → H' l = some (.lst (xs ++ ys)) → Q (.ref l) H') : rCat (.ref p) (.ref q) H Q :=
  ⟨p, q, xs, ys, rfl, rfl, h, h2, Nat.le_trans hl (by decide), fun l hl => k l _ hl (Ext.new hl) upd_same⟩
theorem w_in {neg : Bool} {p : Addr} {xs : List V} (h : SqL K H p xs) (hx : flatV x = true) (hs : xs.all flatV = true) (k : Q (.bl (if neg then !inV x xs else inV x xs)) H) : rIn K neg x (.ref p) H Q := ⟨p, xs, rfl, .inl h, hx, hs, k⟩
theorem w_inT {neg : Bool} {p : Addr} {xs : List V} (h : SqT K H p xs) (hx : flatV x = true) (hs : xs.all flatV = true) (k : Q (.bl (if neg then !inV x xs else inV x xs)) H) : rIn K neg x (.ref p) H Q := ⟨p, xs, rfl, .inr h, hx, hs, k⟩
/-- xs.append(e) as a statement's expression: at the list's object -/
theorem w_bm {T : String} {r : V → List V → Hp → VK → Prop} (k : ta σ H fun x H1 => tyV K T x H1 ∧ tr σ H1 fun xs H2 => r x xs H2 Q) : tBM K T r ta tr σ H Q := k
theorem w_bm0 {T : String} {r : V → List V → Hp → VK → Prop} (k : ta σ H fun x H1 => tyV K T x H1 ∧ r x [] H1 Q) : tBM0 K T r ta σ H Q := k
theorem w_tyL {p : Addr} {xs : List V} {A : Prop} (h : SqL K H p xs) (k : A) : tyV K "list" (.ref p) H ∧ A := ⟨.inl ⟨rfl, xs, h⟩, k⟩
theorem w_append {l : Addr} {xs : List V} (h : H l = some (.lst xs)) (hl : xs.length < 100000) (k : Q .non (upd H l (.lst (xs ++ [v])))) : rAppend (.ref l) [v] H Q := ⟨l, xs, v, rfl, rfl, h, Nat.lt_of_lt_of_le hl (by decide), k⟩
theorem w_m1 {r : V → List V → Hp → VK → Prop} (k : ta σ H fun x H1 => (∃ a, x = .str a) ∧ te σ H1 fun y H2 => r x [y] H2 Q) : tM1 r ta te σ H Q := k
theorem w_m0 {r : V → List V → Hp → VK → Prop} (k : ta σ H fun x H1 => (∃ a, x = .str a) ∧ r x [] H1 Q) : tM0 r ta σ H Q := k
theorem w_sg {c : Nat} {z : Str} (k : Q (.bl (decide (c ∈ z.cps.toList))) H) : rSg (.str ⟨#[c]⟩) (.str z) H Q := ⟨c, z, rfl, rfl, k⟩
theorem w_notSg {c : Nat} {z : Str} (k : Q (.bl (!decide (c ∈ z.cps.toList))) H) : rNotSg (.str ⟨#[c]⟩) (.str z) H Q := ⟨c, z, rfl, rfl, k⟩
theorem w_starts {a b : Str} (k : Q (.bl (Txt.startswith a b)) H) : rStarts (.str a) [.str b] H Q := ⟨a, b, rfl, rfl, k⟩
theorem w_isstr {z : Str} {A : Prop} (k : A) : (∃ a, V.str z = .str a) ∧ A := ⟨⟨z, rfl⟩, k⟩
/-- a test whose answer is known -/
theorem w_iteT {A B : Prop} {b : Bool} (hb : b = true) (h : A) : if b = true then A else B := by rw [if_pos hb]; exact h
theorem w_iteF {A B : Prop} {b : Bool} (hb : b = false) (h : B) : if b = true then A else B := by rw [hb, if_neg Bool.false_ne_true]; exact h
theorem w_iteD {A B : Prop} {c : Prop} [Decidable c] (h1 : c → A) (h2 : ¬ c → B) : if decide c = true then A else B := by
  by_cases h : c
  · rw [decide_eq_true h, if_pos rfl]; exact h1 h
  · rw [decide_eq_false h, if_neg Bool.false_ne_true]; exact h2 h
theorem w_iteN {A B : Prop} {c : Prop} [Decidable c] (h1 : ¬ c → A) (h2 : c → B) : if (!decide c) = true then A else B := by
  by_cases h : c
  · rw [decide_eq_true h]; exact h2 h
  · rw [decide_eq_false h]; exact h1 h
theorem w_iteB {A B : Prop} {b : Bool} (h1 : b = true → A) (h2 : b = false → B) : if b = true then A else B := by
  cases b with
  | true => rw [if_pos rfl]; exact h1 rfl
  | false => rw [if_neg Bool.false_ne_true]; exact h2 rfl
end
/-! ### loops -/
def ForB (J : It) (g : TG) (tb : TS) (D : Ends) (σ : St) (H1 : Hp) : Prop := ∃ W : Nat → Nat → St → Hp → Prop, (∃ m, W 0 m σ H1) ∧ ∀ i m σ H, W i m σ H →
  (J.stop i H ∧ D.nx σ H) ∨ (J.go i H ∧ ∃ N : St → Hp → Prop, (∀ σ' H', N σ' H' → ∃ m', m' < m ∧ W (i + 1) m' σ' H') ∧ ∀ x H', J.yld i H x H' → g x σ H' fun σ2 H2 => tb { D with nx := N, ct := N, bk := D.nx } σ2 H2)
def LcB (J : It) (g : TG) (tt : TT) (te : TE) (vs : List Nat) (σ : St) (H1 : Hp) (Q : VK) : Prop := ∀ D, H1 D = none → ∃ W : Nat → Nat → Hp → Prop, (∃ m, W 0 m (upd H1 D (.lst []))) ∧ ∀ i m H, W i m H →
  (J.stop i H ∧ Q (.ref D) H) ∨ (J.go i H ∧ ∃ Nx : Hp → Prop, (∀ H', Nx H' → ∃ m', m' < m ∧ W (i + 1) m' H') ∧ ∀ x H', J.yld i H x H' → g x (wipe σ vs) H' fun σ2 H2 => wipe σ2 vs = wipe σ vs ∧ tt σ2 H2 fun b H3 =>
    if b = true then te σ2 H3 fun y H4 => ∃ acc, H4 D = some (.lst acc) ∧ acc.length < sizeLine ∧ Nx (upd H4 D (.lst (acc ++ [y]))) else Nx H3)
def RngOk (vs : List V) (H : Hp) (R : It → Hp → Prop) : Prop := ∃ j : Int, vs = [.int j] ∧ -(2 ^ 62) ≤ j ∧ j < 2 ^ 62 ∧ R (Itr 0 j.toNat) H
def RngOk2 (vs : List V) (H : Hp) (R : It → Hp → Prop) : Prop := ∃ i j : Int, vs = [.int i, .int j] ∧ (-(2 ^ 62) ≤ i ∧ i < 2 ^ 62 ∧ -(2 ^ 62) ≤ j ∧ j < 2 ^ 62) ∧ R (Itr i (j - i).toNat) H
def LstOk (K : PySem.W.Frag) (x : V) (H : Hp) (R : It → Hp → Prop) : Prop := ∃ a, x = .ref a ∧ (∃ xs, SqL K H a xs) ∧ R (Itl K a) H
def TupOk (K : PySem.W.Frag) (x : V) (H : Hp) (R : It → Hp → Prop) : Prop := ∃ a, x = .ref a ∧ (∃ xs, SqT K H a xs) ∧ R (Itt K a) H
def StrOk (v : V) (H : Hp) (R : It → Hp → Prop) : Prop := ∃ x, v = .str x ∧ R (Its x) H
section
variable {K : PySem.W.Frag} {σ : St} {H : Hp} {Q : VK} {D : Ends} {te : TE} {ta : TA} {wi : TI} {g : TG} {tb : TS} {tt : TT} {vs : List Nat} {R : It → Hp → Prop} {j : Nat}
theorem w_for (k : wi σ H fun J H1 => ForB J g tb D σ H1) : tFor wi g tb D σ H := k
theorem w_lc (k : wi σ H fun J H1 => LcB J g tt te vs σ H1 Q) : tLc wi g tt te vs σ H Q := k
theorem w_rng (k : ta σ H fun vs H1 => RngOk vs H1 R) : iRng1 ta σ H R := k
theorem w_rng2 (k : ta σ H fun vs H1 => RngOk2 vs H1 R) : iRng2 ta σ H R := k
theorem w_ilist (k : te σ H fun x H1 => LstOk K x H1 R) : iList K te σ H R := k
theorem w_itup (k : te σ H fun x H1 => TupOk K x H1 R) : iTup K te σ H R := k
theorem w_istr (k : te σ H fun x H1 => StrOk x H1 R) : iStr te σ H R := k
theorem w_rngOk {n : Int} (h : -100000 ≤ n) (h2 : n ≤ 100000) (k : R (Itr 0 n.toNat) H) : RngOk [.int n] H R := ⟨n, rfl, by omega, by omega, k⟩
theorem w_lstOk {a : Addr} {xs : List V} (h : SqL K H a xs) (k : R (Itl K a) H) : LstOk K (.ref a) H R := ⟨a, rfl, ⟨xs, h⟩, k⟩
theorem w_tupOk {a : Addr} {xs : List V} (h : SqT K H a xs) (k : R (Itt K a) H) : TupOk K (.ref a) H R := ⟨a, rfl, ⟨xs, h⟩, k⟩
theorem w_strOk {x : Str} (k : R (Its x) H) : StrOk (.str x) H R := ⟨x, rfl, k⟩
/-- for: what a turn asks -/
theorem forG {J : It} {n : Nat} {Y : Nat → V → Prop} (Pv : Nat → St → Hp → Prop) (src : ∀ i σ H, i ≤ n → Pv i σ H → (i < n → J.go i H ∧ ∀ x H', J.yld i H x H' → H' = H ∧ Y i x) ∧ (i = n → J.stop i H)) (h0 : Pv 0 σ H)
    (hs : ∀ i x σ' H' (N : St → Hp → Prop), i < n → Y i x → Pv i σ' H' → (∀ σ2 H2, Pv (i + 1) σ2 H2 → N σ2 H2) → g x σ' H' fun σ2 H2 => tb { D with nx := N, ct := N, bk := D.nx } σ2 H2) (hd : ∀ σ' H', Pv n σ' H' → D.nx σ' H') : ForB J g tb D σ H := by
  refine ⟨fun i m σ' H' => m = n - i ∧ i ≤ n ∧ Pv i σ' H', ⟨n, by simp, Nat.zero_le _, h0⟩, ?_⟩
  rintro i m σ' H' ⟨rfl, hi, p⟩
  obtain ⟨s1, s2⟩ := src i σ' H' hi p
  by_cases hlt : i < n
  · obtain ⟨go, hy⟩ := s1 hlt
    refine .inr ⟨go, Pv (i + 1), fun σ2 H2 p2 => ⟨n - (i + 1), by omega, rfl, hlt, p2⟩, fun x H2 y => ?_⟩
    obtain ⟨e, y2⟩ := hy x H2 y
    subst e
    exact hs i x σ' _ _ hlt y2 p fun _ _ h => h
  · have e : i = n := by omega
    exact .inl ⟨s2 e, hd σ' H' (e ▸ p)⟩
theorem forR {lo : Int} {n : Nat} (Pv : Nat → St → Hp → Prop) (h0 : Pv 0 σ H)
    (hs : ∀ i σ' H' (N : St → Hp → Prop), i < n → Pv i σ' H' → (∀ σ2 H2, Pv (i + 1) σ2 H2 → N σ2 H2) → tb { D with nx := N, ct := N, bk := D.nx } (σ'.set j (some (.int (lo + (i : Int))))) H') (hd : ∀ σ' H', Pv n σ' H' → D.nx σ' H') :
    ForB (Itr lo n) (gName j) tb D σ H :=
  forG (n := n) (Y := fun i x => x = .int (lo + (i : Int))) Pv (fun i σ H hi p => ⟨fun h => ⟨h, fun x H' y => y⟩, fun e => by rw [e]; exact Nat.le_refl n⟩) h0 (fun i x σ' H' N hi y p k => by subst y; exact hs i σ' H' N hi p k) hd
theorem forLg {a : Addr} {xs : List V} (Pv : Nat → St → Hp → Prop) (hl : ∀ i σ H, Pv i σ H → SqL K H a xs) (h0 : Pv 0 σ H)
    (hs : ∀ i x σ' H' (N : St → Hp → Prop), xs[i]? = some x → Pv i σ' H' → (∀ σ2 H2, Pv (i + 1) σ2 H2 → N σ2 H2) → g x σ' H' fun σ2 H2 => tb { D with nx := N, ct := N, bk := D.nx } σ2 H2) (hd : ∀ σ' H', Pv xs.length σ' H' → D.nx σ' H') :
    ForB (Itl K a) g tb D σ H :=
  forG (n := xs.length) (Y := fun i x => xs[i]? = some x) Pv (fun i σ H hi p => ⟨fun h => ⟨⟨xs, xs[i], hl i σ H p, by simp [h]⟩, fun x H' ⟨e, y⟩ => ⟨e, y xs (hl i σ H p)⟩⟩, fun e => ⟨xs, hl i σ H p, by omega⟩⟩) h0 (fun i x σ' H' N hi y p k => hs i x σ' H' N y p k) hd
theorem forL {a : Addr} {xs : List V} (Pv : Nat → St → Hp → Prop) (hl : ∀ i σ H, Pv i σ H → SqL K H a xs) (h0 : Pv 0 σ H)
    (hs : ∀ i x σ' H' (N : St → Hp → Prop), xs[i]? = some x → Pv i σ' H' → (∀ σ2 H2, Pv (i + 1) σ2 H2 → N σ2 H2) → tb { D with nx := N, ct := N, bk := D.nx } (σ'.set j (some x)) H') (hd : ∀ σ' H', Pv xs.length σ' H' → D.nx σ' H') :
    ForB (Itl K a) (gName j) tb D σ H := forLg Pv hl h0 hs hd
theorem forS {z : Str} (Pv : Nat → St → Hp → Prop) (h0 : Pv 0 σ H)
    (hs : ∀ i c σ' H' (N : St → Hp → Prop), z.cps.toList[i]? = some c → Pv i σ' H' → (∀ σ2 H2, Pv (i + 1) σ2 H2 → N σ2 H2) → tb { D with nx := N, ct := N, bk := D.nx } (σ'.set j (some (.str ⟨#[c]⟩))) H') (hd : ∀ σ' H', Pv z.length σ' H' → D.nx σ' H') :
    ForB (Its z) (gName j) tb D σ H :=
  forG (n := z.length) (Y := fun i x => ∃ c, z.cps.toList[i]? = some c ∧ x = .str ⟨#[c]⟩) Pv (fun i σ H hi p => ⟨fun h => ⟨h, fun x H' ⟨e, c, y, ex⟩ => ⟨e, c, by simpa using y, ex⟩⟩, fun e => by rw [e]; exact Nat.le_refl _⟩) h0 (fun i x σ' H' N hi ⟨c, y, ex⟩ p k => by subst ex; exact hs i c σ' H' N y p k) hd
/-- what a comprehension walks, as long as all but rows stands -/
def Src (J : It) (n : Nat) (Y : Nat → V → Prop) (H : Hp) : Prop := ∀ H', Ext H H' → (∀ i, i < n → J.go i H' ∧ ∀ x H2, J.yld i H' x H2 → H2 = H' ∧ Y i x) ∧ J.stop n H'
theorem src_rng {lo : Int} {n : Nat} : Src (Itr lo n) n (fun i x => x = .int (lo + (i : Int))) H := fun H' _ => ⟨fun i h => ⟨h, fun x H2 y => y⟩, Nat.le_refl n⟩
theorem src_lst {a : Addr} {xs : List V} (h : SqL K H a xs) (n : ¬ RowSh (.lst xs)) : Src (Itl K a) xs.length (fun i x => xs[i]? = some x) H := fun H' e =>
  ⟨fun i h1 => ⟨⟨xs, xs[i], e.seq n h, by simp [h1]⟩, fun x H2 ⟨e2, y⟩ => ⟨e2, y xs (e.seq n h)⟩⟩, ⟨xs, e.seq n h, Nat.le_refl _⟩⟩
theorem src_tup {a : Addr} {xs : List V} (h : SqT K H a xs) : Src (Itt K a) xs.length (fun i x => xs[i]? = some x) H := fun H' e =>
  ⟨fun i h1 => ⟨⟨xs, xs[i], e.tup h, by simp [h1]⟩, fun x H2 ⟨e2, y⟩ => ⟨e2, y xs (e.tup h)⟩⟩, ⟨xs, e.tup h, Nat.le_refl _⟩⟩
theorem src_str {z : Str} : Src (Its z) z.length (fun i x => ∃ c, z.cps.toList[i]? = some c ∧ x = .str ⟨#[c]⟩) H := fun H' e =>
  ⟨fun i h1 => ⟨h1, fun x H2 ⟨e2, c, y, ex⟩ => ⟨e2, c, by simpa using y, ex⟩⟩, Nat.le_refl _⟩
/-- a comprehension with a test; r: what holds of the place and what is made so far -/
theorem lcG {J : It} {n : Nat} {Y : Nat → V → Prop} (src : Src J n Y H) (r : Nat → List V → Prop) (h0 : r 0 []) (hn : ∀ i acc, r i acc → ¬ RowSh (.lst acc)) (hz : n ≤ 100000)
    (hs : ∀ i x acc H' (NT : Bool → Hp → Prop) (NE : VK), i < n → Y i x → r i acc → Ext H H' → (∀ H2, Ext H' H2 → r (i + 1) acc → NT false H2) →
      (∀ y H2, Ext H' H2 → r (i + 1) (acc ++ [y]) → NE y H2) → g x (wipe σ vs) H' fun σ2 H2 => wipe σ2 vs = wipe σ vs ∧ tt σ2 H2 fun b H3 => if b = true then te σ2 H3 NE else NT false H3)
    (hd : ∀ p acc H', r n acc → H p = none → Ext H H' → H' p = some (.lst acc) → acc.length ≤ n → Q (.ref p) H') : LcB J g tt te vs σ H Q := by
  intro D hD
  refine ⟨fun i m H' => m = n - i ∧ i ≤ n ∧ ∃ acc, r i acc ∧ acc.length ≤ i ∧ Ext H H' ∧ H' D = some (.lst acc), ⟨n, by simp, Nat.zero_le _, [], h0, Nat.le_refl _, Ext.new hD, upd_same⟩, ?_⟩
  rintro i m H' ⟨rfl, hi, acc, ha, hl, e, hDa⟩
  obtain ⟨s1, s2⟩ := src H' e
  by_cases hlt : i < n
  · obtain ⟨go, hy⟩ := s1 i hlt
    refine .inr ⟨go, fun H2 => i + 1 ≤ n ∧ ∃ acc, r (i + 1) acc ∧ acc.length ≤ i + 1 ∧ Ext H H2 ∧ H2 D = some (.lst acc), fun H2 ⟨a, b⟩ => ⟨n - (i + 1), by omega, rfl, a, b⟩, fun x H2 y => ?_⟩
    obtain ⟨e2, y2⟩ := hy x H2 y
    subst e2
    refine hs i x acc _ (fun b H3 => i + 1 ≤ n ∧ ∃ acc, r (i + 1) acc ∧ acc.length ≤ i + 1 ∧ Ext H H3 ∧ H3 D = some (.lst acc)) _ hlt y2 ha e (fun H3 e3 h3 => ⟨hlt, acc, h3, by omega, e.trans e3, e3.st _ _ hDa (hn _ _ ha)⟩) fun v H3 e3 h3 =>
      ⟨acc, e3.st _ _ hDa (hn _ _ ha), Nat.lt_of_lt_of_le (Nat.lt_of_le_of_lt (Nat.le_trans hl (Nat.le_trans hi hz)) (by decide : 100000 < 16777216)) (by decide), hlt, _, h3, by simp; omega, (e.trans e3).mut hD, upd_same⟩
  · have e1 : i = n := by omega
    subst e1
    exact .inl ⟨s2, hd D acc H' ha hD e hDa hl⟩
/-- .. the target a name, no test -/
theorem lcN {J : It} {n : Nat} {Y : Nat → V → Prop} (src : Src J n Y H) (r : Nat → List V → Prop) (h0 : r 0 []) (hn : ∀ i acc, r i acc → ¬ RowSh (.lst acc)) (hz : n ≤ 100000) (hw : ∀ x, wipe ((wipe σ vs).set j (some x)) vs = wipe σ vs)
    (hs : ∀ i x acc H' (NE : VK), i < n → Y i x → r i acc → Ext H H' → (∀ y H2, Ext H' H2 → r (i + 1) (acc ++ [y]) → NE y H2) → te ((wipe σ vs).set j (some x)) H' NE)
    (hd : ∀ p acc H', r n acc → H p = none → Ext H H' → H' p = some (.lst acc) → acc.length ≤ n → Q (.ref p) H') : LcB J (gName j) tYes te vs σ H Q :=
  lcG src r h0 hn hz (fun i x acc H' NT NE hi y ha e _ kE => ⟨hw x, by
    show (if true = true then te ((wipe σ vs).set j (some x)) H' NE else NT false H')
    rw [if_pos rfl]
    exact hs i x acc H' NE hi y ha e kE⟩) hd
/-- .. the target a name, a test -/
theorem lcF {J : It} {n : Nat} {Y : Nat → V → Prop} (src : Src J n Y H) (r : Nat → List V → Prop) (h0 : r 0 []) (hn : ∀ i acc, r i acc → ¬ RowSh (.lst acc)) (hz : n ≤ 100000) (hw : ∀ x, wipe ((wipe σ vs).set j (some x)) vs = wipe σ vs)
    (hs : ∀ i x acc H' (NF : Hp → Prop) (NE : VK), i < n → Y i x → r i acc → Ext H H' → (∀ H2, Ext H' H2 → r (i + 1) acc → NF H2) → (∀ y H2, Ext H' H2 → r (i + 1) (acc ++ [y]) → NE y H2) →
      tt ((wipe σ vs).set j (some x)) H' fun b H3 => if b = true then te ((wipe σ vs).set j (some x)) H3 NE else NF H3)
    (hd : ∀ p acc H', r n acc → H p = none → Ext H H' → H' p = some (.lst acc) → acc.length ≤ n → Q (.ref p) H') : LcB J (gName j) tt te vs σ H Q :=
  lcG src r h0 hn hz (fun i x acc H' NT NE hi y ha e kF kE => ⟨hw x, hs i x acc H' (NT false) NE hi y ha e kF kE⟩) hd
end
end Lw
end

section
/-! texts of the signs 0 and 1 -/
namespace Lw
open PySem L2
def bc (b : Bool) : Nat := if b then 49 else 48
def B (l : List Bool) : Str := ⟨(l.map bc).toArray⟩
theorem bc_inj {a b : Bool} (h : bc a = bc b) : a = b := by cases a <;> cases b <;> first | rfl | (exact absurd h (by decide))
theorem B_list (l : List Bool) : (B l).cps.toList = l.map bc := by simp [B]
theorem B_len (l : List Bool) : (B l).length = l.length := by simp [B, Str.length]
theorem str_ext {a b : Str} (h : a.cps.toList = b.cps.toList) : a = b := by
  cases a; cases b
  simpa using h
theorem map_bc_inj : ∀ {a b : List Bool}, a.map bc = b.map bc → a = b
  | [], [], _ => rfl
  | [], _ :: _, h => by simp at h
  | _ :: _, [], h => by simp at h
  | x :: a, y :: b, h => by
    simp only [List.map_cons, List.cons.injEq] at h
    rw [bc_inj h.1, map_bc_inj h.2]
theorem B_inj {a b : List Bool} (h : B a = B b) : a = b := by
  have e := congrArg (fun s : Str => s.cps.toList) h
  simp only [B_list] at e
  exact map_bc_inj e
theorem B_app (a b : List Bool) : B a ++ B b = B (a ++ b) := by
  apply str_ext
  show ((B a).cps ++ (B b).cps).toList = _
  rw [Array.toList_append, B_list, B_list, B_list, List.map_append]
theorem B_nil : (Str.ofString "" : Str) = B [] := by decide +kernel
theorem B_0 : (Str.ofString "0" : Str) = B [false] := by decide +kernel
theorem B_1 : (Str.ofString "1" : Str) = B [true] := by decide +kernel
theorem B_01 : (Str.ofString "01" : Str) = B [false, true] := by decide +kernel
theorem B_10 : (Str.ofString "10" : Str) = B [true, false] := by decide +kernel
theorem B_one (b : Bool) : (⟨#[bc b]⟩ : Str) = B [b] := rfl
theorem B_at {l : List Bool} {i : Int} {b : Bool} (h : atI l i = some b) : atI (B l).cps.toList i = some (bc b) := by
  unfold atI at h ⊢
  rw [B_list, List.length_map]
  cases e : ixN l.length i with
  | none => rw [e] at h; cases h
  | some j =>
    rw [e] at h
    show (l.map bc)[j]? = some (bc b)
    have h' : l[j]? = some b := h
    rw [List.getElem?_map, h']
    rfl
theorem atI_k {α : Type} {l : List α} {j : Nat} {b : α} (h : l[j]? = some b) : atI l (j : Int) = some b := by
  have hj := (List.getElem?_eq_some_iff.mp h).1
  unfold atI ixN
  rw [if_pos (by omega), if_pos (by omega)]
  simpa using h
theorem atI_int {α : Type} {l : List α} {i : Int} {b : α} (h0 : 0 ≤ i) (h : l[i.toNat]? = some b) : atI l i = some b := by
  have e : i = (i.toNat : Int) := by omega
  rw [e]
  exact atI_k h
/-- a place within bounds -/
theorem atI_in {α : Type} (l : List α) {i : Int} (h0 : 0 ≤ i) (h1 : i < l.length) : ∃ b, atI l i = some b ∧ l[i.toNat]? = some b := by
  have hj : i.toNat < l.length := by omega
  exact ⟨l[i.toNat], atI_int h0 (List.getElem?_eq_getElem hj), List.getElem?_eq_getElem hj⟩
theorem cutS_B (l : List Bool) (lo hi : Option Int) : cutS (B l) lo hi = B ((l.drop (HT.sIx l.length 0 lo)).take (HT.sIx l.length l.length hi - HT.sIx l.length 0 lo)) := by
  apply str_ext
  unfold cutS
  rw [B_len, B_list, B_list]
  simp [List.map_take, List.map_drop]
/-- s[:k] -/
theorem cutS_to (l : List Bool) (k : Nat) : cutS (B l) none (some (k : Int)) = B (l.take k) := by
  rw [cutS_B, HT.sIx_none, HT.sIx_nat, List.drop_zero, Nat.sub_zero]
  congr 1
  by_cases h : k ≤ l.length
  · rw [Nat.min_eq_left h]
  · rw [Nat.min_eq_right (by omega), List.take_of_length_le (Nat.le_refl _), List.take_of_length_le (by omega)]
/-- s[k:] -/
theorem cutS_from (l : List Bool) (k : Nat) : cutS (B l) (some (k : Int)) none = B (l.drop k) := by
  rw [cutS_B, HT.sIx_none, HT.sIx_nat]
  congr 1
  by_cases h : k ≤ l.length
  · rw [Nat.min_eq_left h, List.take_of_length_le (by rw [List.length_drop]; exact Nat.le_refl _)]
  · rw [Nat.min_eq_right (by omega), Nat.sub_self, List.take_zero, List.drop_of_length_le (by omega)]
theorem starts_B (l p : List Bool) : Txt.startswith (B l) (B p) = decide (p <+: l) := by
  unfold Txt.startswith Builtin.Str.subAt
  rw [B_len, B_len]
  have e : (B l).cps.extract 0 (0 + p.length) = ((l.take p.length).map bc).toArray := by
    simp [B, List.map_take]
  rw [e]
  have e2 : (((l.take p.length).map bc).toArray == (B p).cps) = decide (l.take p.length = p) := by
    show (((l.take p.length).map bc).toArray == (p.map bc).toArray) = _
    by_cases h : l.take p.length = p
    · rw [h, decide_eq_true rfl]
      exact beq_self_eq_true _
    · rw [decide_eq_false h]
      apply beq_eq_false_iff_ne.mpr
      intro q
      apply h
      apply map_bc_inj
      simpa using q
  rw [e2]
  by_cases h : p <+: l
  · rw [decide_eq_true h, decide_eq_true (List.prefix_iff_eq_take.mp h).symm]
    have := h.length_le
    simp
    omega
  · rw [decide_eq_false h]
    by_cases h2 : l.take p.length = p
    · exact absurd (by rw [← h2]; exact List.take_prefix _ _) h
    · rw [decide_eq_false h2, Bool.and_false]
/-- the list of texts -/
def bv (l : List Bool) : V := .str (B l)
def bvs (ls : List (List Bool)) : List V := ls.map bv
theorem bvs_strs (ls : List (List Bool)) : bvs ls = (ls.map B).map V.str := by simp [bvs, bv]
theorem bvs_len (ls : List (List Bool)) : (bvs ls).length = ls.length := by simp [bvs]
theorem bvs_get {ls : List (List Bool)} {i : Nat} {v : V} (h : (bvs ls)[i]? = some v) : ∃ l, ls[i]? = some l ∧ v = .str (B l) := by
  unfold bvs at h
  rw [List.getElem?_map] at h
  cases e : ls[i]? with
  | none => rw [e] at h; cases h
  | some l => rw [e] at h; exact ⟨l, rfl, (Option.some.inj h).symm⟩
theorem bvs_at {ls : List (List Bool)} {i : Nat} {l : List Bool} (h : ls[i]? = some l) : (bvs ls)[i]? = some (.str (B l)) := by
  unfold bvs
  rw [List.getElem?_map, h]
  rfl
theorem bvs_flat (ls : List (List Bool)) : (bvs ls).all flatV = true := by
  simp [bvs, bv, flatV]
theorem inV_bvs (l : List Bool) (ls : List (List Bool)) : inV (.str (B l)) (bvs ls) = decide (l ∈ ls) := by
  unfold inV bvs
  rw [List.any_map]
  by_cases h : l ∈ ls
  · rw [decide_eq_true h]
    apply List.any_eq_true.mpr
    exact ⟨l, h, by simp [bv, eqV]⟩
  · rw [decide_eq_false h]
    apply List.any_eq_false.mpr
    intro x hx
    simp only [Function.comp, bv, eqV]
    intro q
    have := B_inj (by simpa using q)
    exact h (this ▸ hx)
theorem toList_foldl_app (ps : List Str) (a : Array Nat) : (ps.foldl (fun acc p => acc ++ (B []).cps ++ p.cps) a).toList = a.toList ++ (ps.map fun p => p.cps.toList).flatten := by
  induction ps generalizing a with
  | nil => simp
  | cons p ps ih =>
    rw [List.foldl_cons, ih]
    simp [B]
theorem join_B (ls : List (List Bool)) : Txt.join (B []) (ls.map B) = B ls.flatten := by
  apply str_ext
  cases ls with
  | nil => simp [Txt.join, Builtin.Str.glued, B, Str.empty]
  | cons l ls =>
    show ((ls.map B).foldl (fun acc p => acc ++ (B []).cps ++ p.cps) (B l).cps).toList = _
    rw [toList_foldl_app, B_list, B_list]
    simp [B, Function.comp_def, List.map_flatten]
theorem join_signs (bs : List Bool) : Txt.join (B []) ((bs.map fun b => [b]).map B) = B bs := by
  rw [join_B]
  congr 1
  induction bs with
  | nil => rfl
  | cons b bs ih => simp [ih]
/-- joined signs -/
theorem digit_int (b : Bool) : PySem.intText? (B [b]) = some (if b then 1 else 0) := by
  cases b <;> decide +kernel
/-! ### one sign many times -/
def rRepS : R2 := fun x y H Q => ∃ (c : Nat) (n : Int), x = .str ⟨#[c]⟩ ∧ y = .int n ∧ 0 ≤ n ∧ n ≤ 1000 ∧ Q (.str ⟨(List.replicate n.toNat c).toArray⟩) H
theorem rep_fold (c : Nat) : ∀ (n : Nat) (a : Array Nat), ((List.replicate n #[c]).foldl (· ++ ·) a).toList = a.toList ++ List.replicate n c
  | 0, a => by simp
  | n + 1, a => by
    rw [List.replicate_succ, List.foldl_cons, rep_fold c n, List.replicate_succ]
    simp
theorem op_repS {X : Cx} : OpR X (binaryOp .Mult) rRepS := by
  intro pins s σ H x y v u Q I rx ry h
  obtain ⟨c, n, rfl, rfl, h0, h1, q⟩ := h
  obtain ⟨t, rfl⟩ := rx
  obtain ⟨t', rfl⟩ := ry
  have hl1 : (⟨#[c]⟩ : Str).length = 1 := rfl
  refine P.mul_str (by
      have a1 : ¬ n < -(2 ^ 63 : Int) := by omega
      have a2 : ¬ n ≥ 2 ^ 63 := by omega
      rw [decide_eq_false a1, decide_eq_false a2]; rfl) (fun h2 _ => ?_) (fun h2 _ => ?_) ?_
  · rw [hl1]
    have : (1 : Int) ≤ (2 ^ 63 - 1) / n := by
      rw [Int.le_ediv_iff_mul_le (by omega)]
      omega
    omega
  · rw [hl1]
    show decide (1 * n.toNat > sizeLine) = false
    rw [decide_eq_false_iff_not, sizeLine_eq]
    omega
  · by_cases hn : n < 1
    · rw [if_pos hn]
      have e : n = 0 := by omega
      subst e
      refine ⟨by decide, .str Str.empty, H, I.tok _, ⟨_, rfl⟩, ?_⟩
      exact q
    · rw [if_neg hn]
      by_cases hn1 : n = 1
      · subst hn1
        exact ⟨.str ⟨#[c]⟩, H, I, ⟨_, rfl⟩, q⟩
      · rw [if_neg (by rw [hl1]; simp [hn1])]
        have e : (⟨(List.replicate n.toNat (⟨#[c]⟩ : Str).cps).foldl (· ++ ·) #[]⟩ : Str) = ⟨(List.replicate n.toNat c).toArray⟩ := by
          apply str_ext
          show ((List.replicate n.toNat #[c]).foldl (· ++ ·) #[]).toList = _
          rw [rep_fold]
          simp
        rw [e]
        refine ⟨?_, .str _, H, I.tok _, ⟨_, rfl⟩, q⟩
        show (List.replicate n.toNat c).toArray.size ≤ sizeLine
        rw [sizeLine_eq]
        simp
        omega
theorem B_rep (b : Bool) (n : Nat) : (⟨(List.replicate n (bc b)).toArray⟩ : Str) = B (List.replicate n b) := by simp [B]
/-! ### texts of signs 0 and 1, told -/
def bitC (c : Nat) : Bool := c == 48 || c == 49
def bitsS (x : Str) : Bool := x.cps.toList.all bitC
theorem mem_01 (c : Nat) : decide (c ∈ (Str.ofString "01" : Str).cps.toList) = bitC c := by
  rw [B_01, B_list]
  by_cases h : c = 48
  · subst h; decide
  · by_cases h1 : c = 49
    · subst h1; decide
    · simp [bc, bitC, h, h1]
theorem bits_B (l : List Bool) : bitsS (B l) = true := by
  unfold bitsS
  rw [B_list, List.all_eq_true]
  intro c hc
  obtain ⟨b, _, rfl⟩ := List.mem_map.mp hc
  cases b <;> rfl
theorem bits_is {x : Str} (h : bitsS x = true) : ∃ l, x = B l := by
  unfold bitsS at h
  rw [List.all_eq_true] at h
  refine ⟨x.cps.toList.map fun c => c == 49, ?_⟩
  apply str_ext
  rw [B_list, List.map_map]
  have : ∀ cs : List Nat, (∀ c ∈ cs, bitC c = true) → cs = cs.map (bc ∘ fun c => c == 49) := fun cs => by
    induction cs with
    | nil => intro _; rfl
    | cons c cs ih =>
      intro hc
      rw [List.map_cons, ← ih fun d hd => hc d (List.mem_cons_of_mem _ hd)]
      congr 1
      have := hc c List.mem_cons_self
      simp only [bitC, Bool.or_eq_true, beq_iff_eq] at this
      rcases this with rfl | rfl <;> rfl
  exact this _ h
theorem pre_snoc {p l : List Bool} {b : Bool} : p ++ [b] <+: l ↔ p <+: l ∧ l[p.length]? = some b := by
  constructor
  · rintro ⟨t, rfl⟩
    exact ⟨⟨[b] ++ t, by simp⟩, by simp⟩
  · rintro ⟨⟨t, rfl⟩, h⟩
    rw [List.getElem?_append_right (Nat.le_refl _), Nat.sub_self] at h
    cases t with
    | nil => simp at h
    | cons c t =>
      simp at h
      subst h
      exact ⟨t, by simp⟩
/-- what a look tells -/
def lookZ (ls : List (List Bool)) (p : List Bool) (b : Bool) : Bool := ls.any fun l => decide (p ++ [b] <+: l)
theorem lookZ_mem (ls : List (List Bool)) (p : List Bool) (b : Bool) (h : ∀ l ∈ ls, p.length < l.length) : decide ([b] ∈ (ls.filter fun l => decide (p <+: l)).map fun l => [l.getD p.length false]) = lookZ ls p b := by
  unfold lookZ
  rw [Bool.eq_iff_iff, decide_eq_true_iff, List.any_eq_true]
  simp only [List.mem_map, List.mem_filter, decide_eq_true_eq, pre_snoc]
  constructor
  · rintro ⟨l, ⟨hl, hp⟩, e⟩
    refine ⟨l, hl, hp, ?_⟩
    have hlt := h l hl
    simp only [List.cons.injEq, and_true] at e
    rw [← e, List.getD_eq_getElem?_getD, List.getElem?_eq_getElem hlt]
    rfl
  · rintro ⟨l, hl, hp, e⟩
    refine ⟨l, ⟨hl, hp⟩, ?_⟩
    rw [List.getD_eq_getElem?_getD, e]
    rfl
end Lw
end

section
/-! nested data -/
namespace Lw
open PySem L2
theorem lay_all : ∀ {xs : List PyData}, (∀ x ∈ xs, PyData.canLay0 x = true) → PyData.canLayAll0 xs = true
  | [], _ => by simp [PyData.canLayAll0]
  | x :: xs, h => by
    simp only [PyData.canLayAll0, Bool.and_eq_true]
    exact ⟨h x List.mem_cons_self, lay_all fun y hy => h y (List.mem_cons_of_mem _ hy)⟩
theorem dep_all {n : Nat} : ∀ {xs : List PyData}, (∀ x ∈ xs, PyData.depth x ≤ n) → PyData.depthAll xs ≤ n
  | [], _ => by simp [PyData.depthAll]
  | x :: xs, h => by
    simp only [PyData.depthAll]
    have h1 := h x List.mem_cons_self
    have h2 := dep_all (n := n) (xs := xs) fun y hy => h y (List.mem_cons_of_mem _ hy)
    omega
theorem dep_mem {n : Nat} : ∀ {xs : List PyData}, PyData.depthAll xs ≤ n → ∀ x ∈ xs, PyData.depth x ≤ n
  | [], _, x, hx => by cases hx
  | y :: ys, h, x, hx => by
    simp only [PyData.depthAll] at h
    rcases List.mem_cons.mp hx with rfl | hx
    · omega
    · exact dep_mem (xs := ys) (by omega) x hx
theorem lay_B (l : List Bool) : PyData.canLay0 (.str (B l)) = true := by
  simp only [PyData.canLay0, PyData.strOk]
  rw [Array.all_eq_true]
  intro i hi
  have e : (B l).cps[i] ∈ (B l).cps.toList := by simp
  rw [B_list] at e
  obtain ⟨b, _, hb⟩ := List.mem_map.mp e
  rw [← hb]
  cases b <;> decide
theorem shaped_mk {d : PyData} {n : Nat} (h : PyData.canLay0 d = true) (h2 : PyData.depth d ≤ n) (hn : n ≤ 64) : SeqAt.shaped d = true := by
  unfold SeqAt.shaped
  rw [h, decide_eq_true (Nat.le_trans h2 hn)]
  rfl
/-- values of a type as data -/
structure Nice {α : Type} [DecidableEq α] (f : α → PyData) (n : Nat) : Prop where
  lay : ∀ x, PyData.canLay0 (f x) = true
  dep : ∀ x, PyData.depth (f x) ≤ n
  eq : ∀ x y, PyData.eqv (f x) (f y) = decide (x = y)
theorem Nice.shaped {α : Type} [DecidableEq α] {f : α → PyData} {n : Nat} (h : Nice f n) (hn : n ≤ 64) (x : α) : SeqAt.shaped (f x) = true := shaped_mk (h.lay x) (h.dep x) hn
abbrev db (l : List Bool) : PyData := .str (B l)
theorem nice_bits : Nice db 0 where
  lay := lay_B
  dep := fun x => by simp [db, PyData.depth]
  eq := fun x y => by
    simp only [db, PyData.eqv]
    by_cases h : x = y
    · subst h; simp
    · rw [decide_eq_false h]
      exact beq_eq_false_iff_ne.mpr fun q => h (B_inj q)
theorem nice_all {α : Type} [DecidableEq α] {f : α → PyData} (h : ∀ x y, PyData.eqv (f x) (f y) = decide (x = y)) : ∀ xs ys : List α, PyData.eqvAll (xs.map f) (ys.map f) = decide (xs = ys)
  | [], [] => by simp [PyData.eqvAll]
  | [], _ :: _ => by simp [PyData.eqvAll]
  | _ :: _, [] => by simp [PyData.eqvAll]
  | x :: xs, y :: ys => by
    simp only [List.map_cons, PyData.eqvAll, h, nice_all h xs ys]
    by_cases e : x = y <;> by_cases e2 : xs = ys <;> simp [e, e2]
theorem nice_list {α : Type} [DecidableEq α] {f : α → PyData} {n : Nat} (h : Nice f n) : Nice (fun xs : List α => .list (xs.map f)) (n + 1) where
  lay := fun xs => by
    simp only [PyData.canLay0]
    exact lay_all fun y hy => by
      obtain ⟨x, _, rfl⟩ := List.mem_map.mp hy
      exact h.lay x
  dep := fun xs => by
    simp only [PyData.depth]
    have := dep_all (n := n) (xs := xs.map f) fun y hy => by
      obtain ⟨x, _, rfl⟩ := List.mem_map.mp hy
      exact h.dep x
    omega
  eq := fun xs ys => by
    simp only [PyData.eqv]
    exact nice_all h.eq xs ys
/-- data that stands -/
theorem dpAll_map {K : PySem.W.Frag} {H : Hp} {α : Type} {f : α → PyData} {v : α → V} (h : ∀ x, Dp K H (v x) (f x)) : ∀ xs : List α, DpAll K H (xs.map v) (xs.map f)
  | [] => .nil
  | x :: xs => .cons (h x) (dpAll_map h xs)
theorem dp_bits {K : PySem.W.Frag} {H : Hp} {p : Addr} {ls : List (List Bool)} (h : SqL K H p (bvs ls)) : Dp K H (.ref p) (.list (ls.map db)) := .lst h (dpAll_map (fun x => .str _) ls)
theorem dp_nil {K : PySem.W.Frag} {H : Hp} {p : Addr} (h : SqL K H p []) : Dp K H (.ref p) (.list []) := .lst h .nil
theorem w_eqD {K : PySem.W.Frag} {H : Hp} {Q : VK} {x y : V} {d e : PyData} (h1 : Dp K H x d) (h2 : Dp K H y e) (s1 : SeqAt.shaped d = true) (s2 : SeqAt.shaped e = true) (k : Q (.bl (PyData.eqv d e)) H) : rEqD K x y H Q := ⟨d, e, h1, h2, s1, s2, k⟩
theorem w_neD {K : PySem.W.Frag} {H : Hp} {Q : VK} {x y : V} {d e : PyData} (h1 : Dp K H x d) (h2 : Dp K H y e) (s1 : SeqAt.shaped d = true) (s2 : SeqAt.shaped e = true) (k : Q (.bl (!PyData.eqv d e)) H) : rNeD K x y H Q := ⟨d, e, h1, h2, s1, s2, k⟩
/-- two lists of texts -/
theorem w_eqLs {K : PySem.W.Frag} {H : Hp} {Q : VK} {p q : Addr} {ls ms : List (List Bool)} (h1 : SqL K H p (bvs ls)) (h2 : SqL K H q (bvs ms)) (k : Q (.bl (decide (ls = ms))) H) : rEqD K (.ref p) (.ref q) H Q :=
  w_eqD (dp_bits h1) (dp_bits h2) ((nice_list nice_bits).shaped (by decide) ls) ((nice_list nice_bits).shaped (by decide) ms) (by rw [(nice_list nice_bits).eq]; exact k)
theorem w_neLs {K : PySem.W.Frag} {H : Hp} {Q : VK} {p q : Addr} {ls ms : List (List Bool)} (h1 : SqL K H p (bvs ls)) (h2 : SqL K H q (bvs ms)) (k : Q (.bl (!decide (ls = ms))) H) : rNeD K (.ref p) (.ref q) H Q :=
  w_neD (dp_bits h1) (dp_bits h2) ((nice_list nice_bits).shaped (by decide) ls) ((nice_list nice_bits).shaped (by decide) ms) (by rw [(nice_list nice_bits).eq]; exact k)
/-! ### order of texts -/
def blt : List Bool → List Bool → Bool
  | [], [] => false
  | [], _ :: _ => true
  | _ :: _, [] => false
  | a :: x, b :: y => if a = b then blt x y else !a
theorem blt_cps : ∀ a b : List Bool, PySem.Spec.ltCps (a.map bc) (b.map bc) = blt a b
  | [], [] => rfl
  | [], _ :: _ => rfl
  | _ :: _, [] => rfl
  | a :: x, b :: y => by
    have ih := blt_cps x y
    simp only [List.map_cons, PySem.Spec.ltCps, blt, ih]
    cases a <;> cases b <;> simp [bc]
theorem blt_irr : ∀ a : List Bool, blt a a = false
  | [] => rfl
  | a :: x => by simp [blt, blt_irr x]
theorem blt_trans : ∀ {a b c : List Bool}, blt a b = true → blt b c = true → blt a c = true
  | [], _, [], _, h => by cases ‹List Bool› <;> simp [blt] at h
  | [], _, _ :: _, _, _ => rfl
  | _ :: _, [], _, h, _ => by simp [blt] at h
  | _ :: _, _ :: _, [], _, h => by simp [blt] at h
  | a :: x, b :: y, c :: z, h1, h2 => by
    simp only [blt] at h1 h2 ⊢
    have ih := @blt_trans x y z
    cases a <;> cases b <;> cases c <;> simp_all
theorem blt_asymm {a b : List Bool} (h : blt a b = true) : blt b a = false := by
  cases e : blt b a with
  | false => rfl
  | true =>
    have := blt_trans h e
    rw [blt_irr] at this
    cases this
theorem blt_tri : ∀ a b : List Bool, blt a b = true ∨ a = b ∨ blt b a = true
  | [], [] => .inr (.inl rfl)
  | [], _ :: _ => .inl rfl
  | _ :: _, [] => .inr (.inr rfl)
  | a :: x, b :: y => by
    have ih := blt_tri x y
    simp only [blt]
    cases a <;> cases b <;> simp_all
theorem blt_of_not {a b : List Bool} (h : blt b a = false) (n : a ≠ b) : blt a b = true := by
  rcases blt_tri a b with e | e | e
  · exact e
  · exact absurd e n
  · rw [h] at e; cases e
/-- a list that rises -/
abbrev Rise (ls : List (List Bool)) : Prop := ls.Pairwise fun a b => blt a b = true
theorem rise_nodup {ls : List (List Bool)} (h : Rise ls) : ls.Nodup := h.imp fun {a b} h e => by
  rw [e, blt_irr] at h
  cases h
theorem risingS_pw : ∀ (ls : List (List Bool)) (p : List Bool), PyProof.Rows.risingS (B p) (ls.map B) = true → (p :: ls).Pairwise fun a b => blt b a = false
  | [], p, _ => by simp
  | x :: r, p, h => by
    simp only [List.map_cons, PyProof.Rows.risingS, Bool.and_eq_true, Bool.not_eq_true', B_list, blt_cps] at h
    have ih := risingS_pw r x h.2
    refine List.pairwise_cons.mpr ⟨fun y hy => ?_, ih⟩
    rcases List.mem_cons.mp hy with rfl | hy
    · exact h.1
    · have h2 := (List.pairwise_cons.mp ih).1 y hy
      cases e : blt y p with
      | false => rfl
      | true =>
        rcases blt_tri p x with q | q | q
        · have := blt_trans e q
          rw [h2] at this
          cases this
        · rw [q, h2] at e
          cases e
        · rw [h.1] at q
          cases q
theorem rise_of {ls : List (List Bool)} (h : PyProof.Rows.sortedS (ls.map B) = true) (n : ls.Nodup) : Rise ls := by
  have pw : ls.Pairwise fun a b => blt b a = false := by
    cases ls with
    | nil => exact List.Pairwise.nil
    | cons x r => exact risingS_pw r x h
  exact (pw.and n).imp fun {a b} h => blt_of_not h.1 h.2
theorem rise_ext : ∀ {a b : List (List Bool)}, Rise a → Rise b → (∀ x, x ∈ a ↔ x ∈ b) → a = b
  | [], [], _, _, _ => rfl
  | [], y :: _, _, _, h => absurd ((h y).mpr List.mem_cons_self) (by simp)
  | x :: _, [], _, _, h => absurd ((h x).mp List.mem_cons_self) (by simp)
  | x :: a, y :: b, ha, hb, h => by
    obtain ⟨hx, ha'⟩ := List.pairwise_cons.mp ha
    obtain ⟨hy, hb'⟩ := List.pairwise_cons.mp hb
    have e : x = y := by
      rcases List.mem_cons.mp ((h x).mp List.mem_cons_self) with e | e
      · exact e
      · rcases List.mem_cons.mp ((h y).mpr List.mem_cons_self) with e2 | e2
        · exact e2.symm
        · have := blt_asymm (hx y e2)
          rw [hy x e] at this
          cases this
    subst e
    congr 1
    refine rise_ext ha' hb' fun z => ⟨fun hz => ?_, fun hz => ?_⟩
    · rcases List.mem_cons.mp ((h z).mp (List.mem_cons_of_mem _ hz)) with e | e
      · subst e
        have := hx z hz
        rw [blt_irr] at this
        cases this
      · exact e
    · rcases List.mem_cons.mp ((h z).mpr (List.mem_cons_of_mem _ hz)) with e | e
      · subst e
        have := hy z hz
        rw [blt_irr] at this
        cases this
      · exact e
/-- a permutation of texts of signs is one of signs -/
theorem perm_B {ys : List Str} {ls : List (List Bool)} (h : ys.Perm (ls.map B)) : ∃ ms : List (List Bool), ys = ms.map B ∧ ms.Perm ls := by
  have hm : ∀ y ∈ ys, ∃ m, B m = y := fun y hy => by
    obtain ⟨m, _, e⟩ := List.mem_map.mp (h.mem_iff.mp hy)
    exact ⟨m, e⟩
  obtain ⟨ms, e⟩ : ∃ ms : List (List Bool), ys = ms.map B := by
    clear h
    induction ys with
    | nil => exact ⟨[], rfl⟩
    | cons y ys ih =>
      obtain ⟨m, e⟩ := hm y List.mem_cons_self
      obtain ⟨ms, e2⟩ := ih fun z hz => hm z (List.mem_cons_of_mem _ hz)
      exact ⟨m :: ms, by rw [List.map_cons, e, ← e2]⟩
  subst e
  refine ⟨ms, rfl, ?_⟩
  rw [List.perm_iff_count]
  intro a
  have q := h.count_eq (B a)
  have c : ∀ l : List (List Bool), (l.map B).count (B a) = l.count a := fun l => by
    induction l with
    | nil => rfl
    | cons x l ih =>
      rw [List.map_cons, List.count_cons, List.count_cons, ih]
      by_cases e : x = a
      · subst e; simp
      · have : ¬ B x = B a := fun q => e (B_inj q)
        simp [e, this]
  rw [c, c] at q
  exact q
theorem cutV_to (xs : List V) (k : Nat) : cutV xs none (some (k : Int)) = xs.take k := by
  unfold cutV
  rw [HT.sIx_none, HT.sIx_nat, List.drop_zero, Nat.sub_zero]
  by_cases h : k ≤ xs.length
  · rw [Nat.min_eq_left h]
  · rw [Nat.min_eq_right (by omega), List.take_of_length_le (Nat.le_refl _), List.take_of_length_le (by omega)]
theorem nsh_bvs (ls : List (List Bool)) : ¬ RowSh (.lst (bvs ls)) := by
  rw [bvs_strs]
  exact nsh_strs _
theorem w_sortS {K : PySem.W.Frag} {H : Hp} {Q : VK} {p : Addr} {ls : List (List Bool)} (h : SqL K H p (bvs ls)) (hn : ls.length < 64) (nd : ls.Nodup) (k : ∀ ms l H', ms.Perm ls → Rise ms → H l = none → Ext H H' → H' l = some (.lst (bvs ms)) → Q (.ref l) H') : rSortedS K [.ref p] H Q := by
  refine ⟨p, ls.map B, rfl, by rw [← bvs_strs]; exact h, by rw [List.length_map]; exact hn, fun ys l hp hs hl => ?_⟩
  obtain ⟨ms, rfl, hm⟩ := perm_B hp
  refine k ms l _ hm (rise_of hs (hm.nodup_iff.mpr nd)) hl (Ext.new hl) ?_
  rw [upd_same, bvs_strs]
theorem bvs_append (a b : List (List Bool)) : bvs a ++ bvs b = bvs (a ++ b) := by simp [bvs]
theorem bvs_take (a : List (List Bool)) (k : Nat) : (bvs a).take k = bvs (a.take k) := by simp [bvs, List.map_take]
theorem bvs_snoc (a : List (List Bool)) (l : List Bool) : bvs a ++ [.str (B l)] = bvs (a ++ [l]) := by simp [bvs, bv]
theorem bvs_atI {ls : List (List Bool)} {i : Int} {l : List Bool} (h : atI ls i = some l) : atI (bvs ls) i = some (.str (B l)) := by
  unfold atI at h ⊢
  rw [bvs_len]
  cases e : ixN ls.length i with
  | none => rw [e] at h; cases h
  | some j =>
    rw [e] at h
    exact bvs_at h
/-- numbers that part from one at each sign -/
def Parts (base : List Bool) (ms : List (List Bool)) : Prop := ∀ (k : Nat) (m : List Bool), ms[k]? = some m → m.length = base.length ∧ m.take k = base.take k ∧ ∃ b, base[k]? = some b ∧ m[k]? = some (!b)
theorem Parts.snoc {base : List Bool} {ms : List (List Bool)} {t : List Bool} {b : Bool} (h : Parts base ms) (hb : base[ms.length]? = some b) (ht : ms.length + 1 + t.length = base.length) : Parts base (ms ++ [base.take ms.length ++ [!b] ++ t]) := by
  intro k m hk
  have hl := (List.getElem?_eq_some_iff.mp hb).1
  have tl : (base.take ms.length).length = ms.length := by simp; omega
  by_cases hlt : k < ms.length
  · rw [List.getElem?_append_left hlt] at hk
    exact h k m hk
  · rw [List.getElem?_append_right (by omega)] at hk
    have e : k = ms.length := by
      have := (List.getElem?_eq_some_iff.mp hk).1
      simp at this
      omega
    subst e
    simp at hk
    subst hk
    refine ⟨by simp; omega, ?_, b, hb, ?_⟩
    · rw [List.take_append_of_le_length (by rw [tl]; exact Nat.le_refl _), List.take_of_length_le (by rw [tl]; exact Nat.le_refl _)]
    · rw [List.getElem?_append_right (by rw [tl]; exact Nat.le_refl _), tl, Nat.sub_self]
      rfl
theorem Parts.nodup {base : List Bool} {ms : List (List Bool)} (h : Parts base ms) (k : Nat) : (ms.take k ++ [base]).Nodup := by
  have key : ∀ i j a b, ms[i]? = some a → ms[j]? = some b → i < j → a ≠ b := fun i j a b ha hb hij e => by
    subst e
    obtain ⟨_, _, c, hc, hc2⟩ := h i a ha
    obtain ⟨_, t2, _⟩ := h j a hb
    have : (a.take j)[i]? = (base.take j)[i]? := by rw [t2]
    rw [List.getElem?_take_of_lt hij, List.getElem?_take_of_lt hij, hc, hc2] at this
    cases c <;> simp at this
  have key2 : ∀ a ∈ ms, a ≠ base := fun a ha e => by
    obtain ⟨i, hi⟩ := List.mem_iff_getElem?.mp ha
    obtain ⟨_, _, c, hc, hc2⟩ := h i a hi
    rw [e, hc] at hc2
    cases c <;> simp at hc2
  refine List.nodup_append.mpr ⟨?_, by simp, fun a ha b hb e => ?_⟩
  · refine List.Pairwise.sublist (List.take_sublist k ms) ?_
    rw [List.pairwise_iff_getElem]
    intro i j hi hj hij
    exact key i j _ _ (List.getElem?_eq_getElem hi) (List.getElem?_eq_getElem hj) hij
  · simp at hb
    subst hb
    exact key2 a (List.mem_of_mem_take ha) e
end Lw
end

section
/-! data that stands whatever is drawn -/
namespace Lw
open PySem L2
mutual
inductive Dq (K : PySem.W.Frag) (H : Hp) : V → PyData → Prop
  | non : Dq K H .non .none
  | bl (b : Bool) : Dq K H (.bl b) (.bool b)
  | int (i : Int) : Dq K H (.int i) (.int i)
  | str (x : Str) : Dq K H (.str x) (.str x)
  | lst {a : Addr} {xs : List V} {ds : List PyData} (h : SqL K H a xs) (n : ¬ RowSh (.lst xs)) (hz : xs.length ≤ 100000) (hs : DqAll K H xs ds) : Dq K H (.ref a) (.list ds)
  | tup {a : Addr} {xs : List V} {ds : List PyData} (h : SqT K H a xs) (hz : xs.length ≤ 100000) (hs : DqAll K H xs ds) : Dq K H (.ref a) (.tuple ds)
inductive DqAll (K : PySem.W.Frag) (H : Hp) : List V → List PyData → Prop
  | nil : DqAll K H [] []
  | cons {v : V} {vs : List V} {d : PyData} {ds : List PyData} (h : Dq K H v d) (hs : DqAll K H vs ds) : DqAll K H (v :: vs) (d :: ds)
end
section
variable {K : PySem.W.Frag} {H H1 : Hp}
mutual
theorem Dq.dp : ∀ (d : PyData) {v : V}, Dq K H v d → Dp K H v d
  | .none, _, .non => .non
  | .bool _, _, .bl b => .bl b
  | .int _, _, .int i => .int i
  | .str _, _, .str x => .str x
  | .list ds, _, .lst h n _ hs => .lst h (DqAll.dp ds hs)
  | .tuple ds, _, .tup h _ hs => .tup h (DqAll.dp ds hs)
theorem DqAll.dp : ∀ (ds : List PyData) {vs : List V}, DqAll K H vs ds → DpAll K H vs ds
  | [], _, .nil => .nil
  | d :: ds, _, .cons h hs => .cons (Dq.dp d h) (DqAll.dp ds hs)
end
mutual
theorem Dq.ext (e : Ext H H1) : ∀ (d : PyData) {v : V}, Dq K H v d → Dq K H1 v d
  | .none, _, .non => .non
  | .bool _, _, .bl b => .bl b
  | .int _, _, .int i => .int i
  | .str _, _, .str x => .str x
  | .list ds, _, .lst h n hz hs => .lst (e.seq n h) n hz (DqAll.ext e ds hs)
  | .tuple ds, _, .tup h hz hs => .tup (e.tup h) hz (DqAll.ext e ds hs)
theorem DqAll.ext (e : Ext H H1) : ∀ (ds : List PyData) {vs : List V}, DqAll K H vs ds → DqAll K H1 vs ds
  | [], _, .nil => .nil
  | d :: ds, _, .cons h hs => .cons (Dq.ext e d h) (DqAll.ext e ds hs)
end
theorem DqAll.len {vs : List V} {ds : List PyData} (h : DqAll K H vs ds) : vs.length = ds.length := by
  induction ds generalizing vs with
  | nil => cases h; rfl
  | cons d ds ih =>
    cases h with
    | cons h hs => simp [ih hs]
theorem DqAll.get {vs : List V} {ds : List PyData} {i : Nat} {d : PyData} (h : DqAll K H vs ds) (e : ds[i]? = some d) : ∃ v, vs[i]? = some v ∧ Dq K H v d := by
  induction ds generalizing vs i with
  | nil => simp at e
  | cons d' ds ih =>
    cases h with
    | cons h hs =>
      cases i with
      | zero =>
        simp at e
        subst e
        exact ⟨_, rfl, h⟩
      | succ i =>
        obtain ⟨v, h1, h2⟩ := ih hs (i := i) (by simpa using e)
        exact ⟨v, by simpa using h1, h2⟩
theorem dqAll_map {α : Type} {f : α → PyData} {v : α → V} (xs : List α) (h : ∀ x ∈ xs, Dq K H (v x) (f x)) : DqAll K H (xs.map v) (xs.map f) := by
  induction xs with
  | nil => exact .nil
  | cons x xs ih => exact .cons (h x List.mem_cons_self) (ih fun y hy => h y (List.mem_cons_of_mem _ hy))
theorem dq_bits {p : Addr} {ls : List (List Bool)} (h : SqL K H p (bvs ls)) (hz : ls.length ≤ 100000) : Dq K H (.ref p) (.list (ls.map db)) := .lst h (nsh_bvs _) (by rw [bvs_len]; exact hz) (dqAll_map ls fun x _ => .str _)
theorem Dq.list_inv {v : V} {ds : List PyData} (h : Dq K H v (.list ds)) : ∃ a xs, v = .ref a ∧ SqL K H a xs ∧ ¬ RowSh (.lst xs) ∧ xs.length ≤ 100000 ∧ DqAll K H xs ds := by
  cases h with
  | lst h n hz hs => exact ⟨_, _, rfl, h, n, hz, hs⟩
theorem Dq.tup_inv {v : V} {ds : List PyData} (h : Dq K H v (.tuple ds)) : ∃ a xs, v = .ref a ∧ SqT K H a xs ∧ xs.length ≤ 100000 ∧ DqAll K H xs ds := by
  cases h with
  | tup h hz hs => exact ⟨_, _, rfl, h, hz, hs⟩
/-! ### isinstance of data -/
def tyNm : PyData → String
  | .none => "NoneType"
  | .bool _ => "bool"
  | .int _ => "int"
  | .str _ => "str"
  | .list _ => "list"
  | .tuple _ => "tuple"
  | .dict _ => "dict"
theorem tyx_sql {a : Addr} {xs : List V} (h : SqL K H a xs) : TyX K H (.ref a) (.type "list") := by
  rcases h with (h | ⟨o, h⟩) | ⟨o, its, n, h, hc, _⟩
  · exact .base (.lst h)
  · exact .base (.frz h)
  · exact .kList h hc
theorem tyx_sqt {a : Addr} {xs : List V} (h : SqT K H a xs) : TyX K H (.ref a) (.type "tuple") := by
  rcases h with (h | ⟨o, h⟩) | ⟨o, its, n, h, hc, _⟩
  · exact .base (.tup h)
  · exact .fTuple h
  · exact .kTuple h hc
theorem Dq.ty {v : V} {d : PyData} (h : Dq K H v d) : TyX K H v (.type (tyNm d)) := by
  cases h with
  | non => exact .base .non
  | bl b => exact .base (.bl b)
  | int i => exact .base (.int i)
  | str x => exact .base (.str x)
  | lst h n hz hs => exact tyx_sql h
  | tup h hz hs => exact tyx_sqt h
/-- an answer of isinstance for a class of these -/
def isiN (c t : String) : Bool := t == c || (t == "bool" && c == "int")
abbrev isiB (c : String) (d : PyData) : Bool := isiN c (tyNm d)
theorem isi_names {c t : String} (hc : c ∈ ["tuple", "list", "bool", "int", "str"]) (ht : t ∈ ["NoneType", "bool", "int", "str", "list", "tuple", "dict"]) : PySem.W.kitOne K (.type t) (.type c) = some (isiN c t) := by
  simp only [List.mem_cons, List.mem_nil_iff, or_false] at hc ht
  rcases hc with rfl | rfl | rfl | rfl | rfl <;> rcases ht with rfl | rfl | rfl | rfl | rfl | rfl | rfl <;> exact kit_ty (by decide +kernel)
theorem tyNm_mem (d : PyData) : tyNm d ∈ ["NoneType", "bool", "int", "str", "list", "tuple", "dict"] := by
  cases d <;> simp [tyNm]
theorem isi_kit {c : String} (hc : c ∈ ["tuple", "list", "bool", "int", "str"]) (d : PyData) : PySem.W.kitOne K (.type (tyNm d)) (.type c) = some (isiB c d) := isi_names hc (tyNm_mem d)
theorem w_isi {Q : VK} {v : V} {d : PyData} {c : String} (h : Dq K H v d) (k : Q (.bl (isiB c d)) H) (hc : c ∈ ["tuple", "list", "bool", "int", "str"] := by decide) : rIsi K [v, .ty c] H Q :=
  ⟨v, .ty c, _, _, _, rfl, .ty c, h.ty, isi_kit hc d, k⟩
theorem w_isi2 {Q : VK} {v : V} {d : PyData} {c1 c2 : String} {p : Addr} (h : Dq K H v d) (hp : H p = some (.tup [.ty c1, .ty c2])) (k : Q (.bl (isiB c1 d || isiB c2 d)) H) (hc : c1 ∈ ["tuple", "list", "bool", "int", "str"] := by decide) (hc2 : c2 ∈ ["tuple", "list", "bool", "int", "str"] := by decide) :
    rIsiT K [v, .ref p] H Q := by
  have ka : PySem.W.kitAny K (.type (tyNm d)) [.type c1, .type c2] = some (isiB c1 d || isiB c2 d) := by
    refine kitAny_cons (isi_kit hc d) (fun h => ?_) fun h => by rw [h]; rfl
    rw [h, Bool.false_or]
    exact kitAny_cons (isi_kit hc2 d) (fun h2 => by rw [h2]; exact kitAny_nil) fun h2 => h2
  exact ⟨v, p, _, _, _, _, rfl, hp, .cons (.ty c1) (.cons (.ty c2) .nil), h.ty, ka, k⟩
end
end Lw
end

section
/-! things that stand apart: each with the places it owns -/
namespace Lw
open PySem L2
/-- what may be owned: no row, nothing known -/
def Ownd (o : HO) : Prop := ¬ RowSh o ∧ (∀ ob u, o ≠ .frz ob u) ∧ (∀ ps, o ≠ .tbl ps) ∧ ∀ x, o ≠ .ext x
/-- from H to H': the places F (then F', of which some are new) may have changed -/
structure Step (F F' : List Addr) (H H' : Hp) : Prop where
  st : ∀ b o, H b = some o → b ∉ F → ¬ RowSh o → H' b = some o
  rw_ : ∀ b a i m z, H b = some (row a i m z) → b ∉ F → 0 ≤ i → ∃ i' m' z', H' b = some (row a i' m' z') ∧ 0 ≤ i'
  th : ∀ b o, H b = some o → ∃ o', H' b = some o'
  nw : ∀ b, b ∈ F' → b ∈ F ∨ H b = none
section
variable {F F1 F2 F' : List Addr} {H H1 H2 H' : Hp} {K : PySem.W.Frag} {r : Addr}
theorem Step.of (e : Ext H H') : Step F F H H' := ⟨fun b o h _ n => e.st b o h n, fun b a i m z h _ hi => e.rw_ b a i m z h hi, e.th, fun b h => .inl h⟩
theorem Step.not (s : Step F F' H H') {b : Addr} {o : HO} (h : H b = some o) (n : b ∉ F) : b ∉ F' := fun q => by
  rcases s.nw b q with z | z
  · exact n z
  · rw [h] at z
    cases z
theorem Step.free (s : Step F F' H H') {b : Addr} (h : H' b = none) : H b = none := by
  cases q : H b with
  | none => rfl
  | some o =>
    obtain ⟨o', z⟩ := s.th _ _ q
    rw [h] at z
    cases z
theorem Step.trans (s : Step F F1 H H1) (t : Step F1 F2 H1 H2) : Step F F2 H H2 where
  st := fun b o h n ns => t.st b o (s.st b o h n ns) (s.not h n) ns
  rw_ := fun b a i m z h n hi => by
    obtain ⟨i', m', z', h1, hi'⟩ := s.rw_ b a i m z h n hi
    exact t.rw_ b a i' m' z' h1 (s.not h n) hi'
  th := fun b o h => by
    obtain ⟨o', h1⟩ := s.th b o h
    exact t.th b o' h1
  nw := fun b h => by
    rcases t.nw b h with z | z
    · exact s.nw b z
    · exact .inr (s.free z)
/-- a place of F is written -/
theorem Step.wr {p : Addr} {o u : HO} (hp : H p = some u) (h : p ∈ F) : Step F F H (upd H p o) where
  st := fun b v hb n _ => by
    rw [upd_ne (fun e => n (by rw [e]; exact h))]
    exact hb
  rw_ := fun b a i m z hb n hi => by
    rw [upd_ne (fun e => n (by rw [e]; exact h))]
    exact ⟨i, m, z, hb, hi⟩
  th := fun b v hb => by
    by_cases e : b = p
    · rw [e]
      exact ⟨_, upd_same⟩
    · rw [upd_ne e]
      exact ⟨_, hb⟩
  nw := fun b h => .inl h
/-- other places are told -/
theorem Step.to (s : Step F F1 H H') (h : ∀ b, b ∈ F' → b ∈ F1 ∨ H b = none) : Step F F' H H' := ⟨s.st, s.rw_, s.th, fun b hb => (h b hb).elim (s.nw b) .inr⟩
/-- the row stands -/
theorem RowOk.step (s : Step F F' H H') (ho : ∀ b ∈ F, ∃ o, H b = some o ∧ Ownd o) (h : RowOk K H r) : RowOk K H' r := by
  obtain ⟨a, i, m, z, ns, h0, hi, hs⟩ := h
  have nr : r ∉ F := fun q => by
    obtain ⟨o, e, n, _⟩ := ho r q
    rw [h0] at e
    cases e
    exact n ⟨_, _, _, _, rfl⟩
  obtain ⟨i', m', z', h1, hi'⟩ := s.rw_ r a i m z h0 nr hi
  refine ⟨a, i', m', z', ns, h1, hi', ?_⟩
  rcases hs with ⟨o, hs⟩ | hs
  · have na : a ∉ F := fun q => by
      obtain ⟨u, e, _, n, _⟩ := ho a q
      rw [hs] at e
      cases e
      exact n _ _ rfl
    exact .inl ⟨o, s.st a _ hs na nsh_frz⟩
  · exact .inr hs
end
/-- a thing and its places -/
structure Own where
  S : Hp → Prop
  F : List Addr
  loc : ∀ {H H' : Hp}, (∀ b ∈ F, ∀ o, H b = some o → H' b = some o) → S H → S H'
  al : ∀ {H : Hp}, S H → ∀ b ∈ F, ∃ o, H b = some o ∧ Ownd o
/-- these things stand, apart from one another -/
def Sts (H : Hp) (l : List Own) : Prop := (∀ o ∈ l, o.S H) ∧ l.Pairwise fun a b => ∀ x ∈ a.F, x ∉ b.F
section
variable {H H' : Hp} {l l1 l2 : List Own} {W W' : Own} {K : PySem.W.Frag} {r : Addr}
theorem Own.ext (W : Own) (e : Ext H H') (h : W.S H) : W.S H' := W.loc (fun b hb o ho => by
  obtain ⟨o', e1, n, _⟩ := W.al h b hb
  rw [ho] at e1
  cases e1
  exact e.st b o ho n) h
theorem Sts.ext (s : Sts H l) (e : Ext H H') : Sts H' l := ⟨fun o ho => o.ext e (s.1 o ho), s.2⟩
theorem Sts.nil : Sts H [] := ⟨fun o ho => absurd ho (by simp), List.Pairwise.nil⟩
theorem Sts.get (s : Sts H (l1 ++ W :: l2)) : W.S H := s.1 W (List.mem_append_right _ List.mem_cons_self)
theorem Sts.step (s : Sts H (l1 ++ W :: l2)) (w : W'.S H') (t : Step W.F W'.F H H') : Sts H' (l1 ++ W' :: l2) := by
  obtain ⟨h1, h2⟩ := s
  obtain ⟨p1, p2, p3⟩ := List.pairwise_append.mp h2
  obtain ⟨q1, q2⟩ := List.pairwise_cons.mp p2
  have ap : ∀ V : Own, V ∈ l1 ∨ V ∈ l2 → (∀ x ∈ V.F, x ∉ W.F) ∧ V.S H := fun V hV => by
    rcases hV with hV | hV
    · exact ⟨fun x hx hw => p3 V hV W List.mem_cons_self x hx hw, h1 V (List.mem_append_left _ hV)⟩
    · exact ⟨fun x hx hw => q1 V hV x hw hx, h1 V (List.mem_append_right _ (List.mem_cons_of_mem _ hV))⟩
  have st : ∀ V : Own, V ∈ l1 ∨ V ∈ l2 → V.S H' ∧ ∀ x ∈ V.F, x ∉ W'.F := fun V hV => by
    obtain ⟨na, hS⟩ := ap V hV
    refine ⟨V.loc (fun b hb o ho => ?_) hS, fun x hx hw => ?_⟩
    · obtain ⟨o', e1, n, _⟩ := V.al hS b hb
      rw [ho] at e1
      cases e1
      exact t.st b o ho (na b hb) n
    · obtain ⟨o, e1, _⟩ := V.al hS x hx
      exact t.not e1 (na x hx) hw
  refine ⟨fun V hV => ?_, List.pairwise_append.mpr ⟨p1, List.pairwise_cons.mpr ⟨fun V hV x hx hy => (st V (.inr hV)).2 x hy hx, q2⟩, fun V hV U hU x hx hy => ?_⟩⟩
  · rcases List.mem_append.mp hV with hV | hV
    · exact (st V (.inl hV)).1
    · rcases List.mem_cons.mp hV with rfl | hV
      · exact w
      · exact (st V (.inr hV)).1
  · rcases List.mem_cons.mp hU with rfl | hU
    · exact (st V (.inl hV)).2 x hx hy
    · exact p3 V hV U (List.mem_cons_of_mem _ hU) x hx hy
theorem Sts.new (s : Sts H l) (e : Ext H H') (hn : ∀ b ∈ W.F, H b = none) (w : W.S H') : Sts H' (W :: l) := by
  refine ⟨fun V hV => ?_, List.pairwise_cons.mpr ⟨fun V hV x hx hy => ?_, s.2⟩⟩
  · rcases List.mem_cons.mp hV with rfl | hV
    · exact w
    · exact V.ext e (s.1 V hV)
  · obtain ⟨o, h, _⟩ := V.al (s.1 V hV) x hy
    rw [hn x hx] at h
    cases h
theorem Sts.drop (s : Sts H (l1 ++ W :: l2)) : Sts H (l1 ++ l2) :=
  ⟨fun V hV => s.1 V (by
    rcases List.mem_append.mp hV with h | h
    · exact List.mem_append_left _ h
    · exact List.mem_append_right _ (List.mem_cons_of_mem _ h)), s.2.sublist (List.Sublist.append (List.Sublist.refl _) (List.sublist_cons_self W l2))⟩
theorem Sts.row (s : Sts H (l1 ++ W :: l2)) (t : Step W.F W'.F H H') (h : RowOk K H r) : RowOk K H' r := RowOk.step t (W.al s.get) h
end
/-- a list of texts as a thing of its own -/
def oList (p : Addr) (ls : List (List Bool)) : Own where
  S := fun H => H p = some (.lst (bvs ls))
  F := [p]
  loc := fun h hS => h p List.mem_cons_self _ hS
  al := fun hS b hb => by
    rw [List.mem_singleton.mp hb]
    exact ⟨_, hS, nsh_bvs _, fun _ _ q => (by cases q), fun _ q => (by cases q), fun _ q => (by cases q)⟩
end Lw
end

section
/-! dicts whose keys are texts of signs 0 and 1; fields of instances; for over a dict -/
namespace Lw
open PySem L2
abbrev Bits := List Bool
def tK {α : Type} (f : α → V) (ts : List (Bits × α)) : List (Key × V) := ts.map fun p => (Sum.inr (B p.1), f p.2)
def alook {α : Type} (ts : List (Bits × α)) (l : Bits) : Option α := (ts.find? fun p => decide (p.1 = l)).map (·.2)
def aput {α : Type} (ts : List (Bits × α)) (l : Bits) (v : α) : List (Bits × α) := if l ∈ ts.map (·.1) then ts.map (fun p => if p.1 = l then (p.1, v) else p) else ts ++ [(l, v)]
def adrop {α : Type} (ts : List (Bits × α)) (l : Bits) : List (Bits × α) := ts.filter fun p => decide (p.1 ≠ l)
section
variable {α : Type} {f : α → V} {ts : List (Bits × α)} {l : Bits} {v : α}
theorem tK_len : (tK f ts).length = ts.length := by simp [tK]
theorem key_dec (a b : Bits) : decide ((Sum.inr (B a) : Key) = Sum.inr (B b)) = decide (a = b) := by
  by_cases h : a = b
  · subst h; simp
  · have : ¬ (Sum.inr (B a) : Key) = Sum.inr (B b) := fun e => h (B_inj (Sum.inr.inj e))
    simp [h, this]
theorem val_tK : valV (tK f ts) (Sum.inr (B l)) = (alook ts l).map f := by
  unfold valV alook tK
  induction ts with
  | nil => rfl
  | cons p r ih =>
    rw [List.map_cons, List.find?_cons, List.find?_cons]
    simp only [key_dec]
    by_cases h : p.1 = l
    · rw [decide_eq_true h]
      rfl
    · rw [decide_eq_false h]
      exact ih
theorem alook_mem : (alook ts l).isSome = decide (l ∈ ts.map (·.1)) := by
  unfold alook
  induction ts with
  | nil => rfl
  | cons p r ih =>
    rw [List.find?_cons]
    by_cases h : p.1 = l
    · rw [decide_eq_true h]
      simp [h]
    · rw [decide_eq_false h, ih]
      have : ¬ l = p.1 := fun e => h e.symm
      simp [this]
theorem put_tK : putK (tK f ts) (Sum.inr (B l)) (f v) = tK f (aput ts l v) := by
  have ha : ((tK f ts).any fun kv => decide (kv.1 = Sum.inr (B l))) = decide (l ∈ ts.map (·.1)) := by
    rw [valV_any, val_tK, Option.isSome_map, alook_mem]
  unfold putK
  rw [ha]
  unfold aput
  by_cases h : l ∈ ts.map (·.1)
  · rw [decide_eq_true h, if_pos rfl, if_pos h]
    unfold tK
    rw [List.map_map, List.map_map]
    apply List.map_congr_left
    intro p _
    show (if (Sum.inr (B p.1) : Key) = Sum.inr (B l) then _ else _) = _
    by_cases e : p.1 = l
    · rw [if_pos (by rw [e])]
      show _ = ((Sum.inr (B (if p.1 = l then (p.1, v) else p).1) : Key), f (if p.1 = l then (p.1, v) else p).2)
      rw [if_pos e]
    · rw [if_neg (fun q => e (B_inj (Sum.inr.inj q)))]
      show _ = ((Sum.inr (B (if p.1 = l then (p.1, v) else p).1) : Key), f (if p.1 = l then (p.1, v) else p).2)
      rw [if_neg e]
  · rw [decide_eq_false h, if_neg Bool.false_ne_true, if_neg h]
    simp [tK]
theorem drop_tK : dropK (tK f ts) (Sum.inr (B l)) = tK f (adrop ts l) := by
  unfold dropK adrop tK
  rw [List.filter_map]
  congr 1
  apply List.filter_congr
  intro p _
  simp only [Function.comp]
  by_cases e : p.1 = l
  · simp [e]
  · have : ¬ (Sum.inr (B p.1) : Key) = Sum.inr (B l) := fun q => e (B_inj (Sum.inr.inj q))
    simp [e, this]
theorem tK_keys : (tK f ts).map (·.1) = ((ts.map (·.1)).map B).map Sum.inr := by simp [tK]
end
/-! ### readings of dicts -/
def DinOk (y x : V) (H : Hp) (Q : VK) : Prop := ∃ a o, x = .ref a ∧ DGet H a y o ∧ Q (.bl o.isSome) H
def DnotOk (y x : V) (H : Hp) (Q : VK) : Prop := ∃ a o, x = .ref a ∧ DGet H a y o ∧ Q (.bl (!o.isSome)) H
def DgetOk (x y : V) (H : Hp) (Q : VK) : Prop := ∃ a v, x = .ref a ∧ DGet H a y (some v) ∧ Q v H
def DputOk (v x y : V) (H : Hp) (S : Hp → Prop) : Prop := ∃ a H4, x = .ref a ∧ DPut H a y v H4 ∧ S H4
def FldOk (K : PySem.W.Frag) (f : Str) (x : V) (H : Hp) (Q : VK) : Prop := ∃ a C dx fs v, x = .ref a ∧ H a = some (.ins C dx fs) ∧ Cls K C ∧ NoAttr K C f ∧ fs.lookup f = some v ∧ Q v H
def StoOk (K : PySem.W.Frag) (f : Str) (y x : V) (H : Hp) (S : Hp → Prop) : Prop := ∃ a C dx fs, x = .ref a ∧ H a = some (.ins C dx fs) ∧ Cls K C ∧ NoAttr K C f ∧ fs.length < 1000 ∧ S (upd H a (.ins C dx (putF f y fs)))
def MeOk (C : Addr) (m : Str) (sp : Sp) (E : XK) (t : TA) (σ : St) (x : V) (H : Hp) (Q : VK) : Prop := ∃ a dx fs, x = .ref a ∧ H a = some (.ins C dx fs) ∧ fs.lookup m = none ∧ t σ H fun vs H2 => sp (x :: (vs ++ [])) H2 Q E
section
variable {K : PySem.W.Frag} {σ : St} {H : Hp} {Q : VK} {D : Ends} {v x y : V} {te td ty tv tx : TE} {t : TA} {E : XK} {sp : Sp} {C : Addr} {m f : Str}
theorem w_din (k : ty σ H fun y H1 => td σ H1 fun x H2 => DinOk y x H2 Q) : tDIn ty td σ H Q := k
theorem w_dnot (k : ty σ H fun y H1 => td σ H1 fun x H2 => DnotOk y x H2 Q) : tDNotIn ty td σ H Q := k
theorem w_dget (k : td σ H fun x H1 => ty σ H1 fun y H2 => DgetOk x y H2 Q) : tDGet td ty σ H Q := k
theorem w_dput (k : tv σ H fun v H1 => td σ H1 fun x H2 => ty σ H2 fun y H3 => DputOk v x y H3 (D.nx σ)) : sDPut td ty tv D σ H := k
theorem w_fld (k : te σ H fun x H1 => FldOk K f x H1 Q) : tFld K te f σ H Q := k
theorem w_sto (k : tv σ H fun y H1 => te σ H1 fun x H2 => StoOk K f y x H2 (D.nx σ)) : sFld K te tv f D σ H := k
theorem w_meth (k : te σ H fun x H1 => MeOk C m sp E t σ x H1 Q) : tMeth C m sp [] E te t σ H Q := k
theorem w_dnew (k : ∀ p H', H p = none → Ext H H' → H' p = some (.dK []) → Q (.ref p) H') : tDNewK σ H Q := fun p hp => k p _ hp (Ext.new hp) upd_same
theorem w_meOk {a dx : Addr} {fs : List (Str × V)} (h : H a = some (.ins C dx fs)) (hn : fs.lookup m = none) (k : t σ H fun vs H2 => sp (.ref a :: (vs ++ [])) H2 Q E) : MeOk C m sp E t σ (.ref a) H Q := ⟨a, dx, fs, rfl, h, hn, k⟩
section
variable {α : Type} {g : α → V} {ts : List (Bits × α)} {l : Bits} {w : α} {d : Addr}
theorem w_dinB (h : Rd H d (.dK (tK g ts))) (k : Q (.bl (decide (l ∈ ts.map (·.1)))) H) : DinOk (.str (B l)) (.ref d) H Q :=
  ⟨d, _, rfl, .inl ⟨_, Sum.inr (B l), h, rfl, rfl⟩, by rw [val_tK, Option.isSome_map, alook_mem]; exact k⟩
theorem w_dnotB (h : Rd H d (.dK (tK g ts))) (k : Q (.bl (!decide (l ∈ ts.map (·.1)))) H) : DnotOk (.str (B l)) (.ref d) H Q :=
  ⟨d, _, rfl, .inl ⟨_, Sum.inr (B l), h, rfl, rfl⟩, by rw [val_tK, Option.isSome_map, alook_mem]; exact k⟩
theorem w_dgetB (h : Rd H d (.dK (tK g ts))) (hl : alook ts l = some w) (k : Q (g w) H) : DgetOk (.ref d) (.str (B l)) H Q :=
  ⟨d, g w, rfl, .inl ⟨_, Sum.inr (B l), h, rfl, by rw [val_tK, hl]; rfl⟩, k⟩
theorem w_dputB {S : Hp → Prop} (h : H d = some (.dK (tK g ts))) (hz : ts.length < 100000) (k : S (upd H d (.dK (tK g (aput ts l w))))) : DputOk (g w) (.ref d) (.str (B l)) H S :=
  ⟨d, _, rfl, .inl ⟨_, Sum.inr (B l), h, rfl, by rw [tK_len]; exact Nat.lt_of_lt_of_le hz (by decide), rfl⟩, by rw [put_tK]; exact k⟩
end
/-- d.pop(k), d.pop(k, x) -/
def PopK (a : Addr) (y : V) (H : Hp) (Q : VK) : Prop := ∃ kvs k v, H a = some (.dK kvs) ∧ y = kV k ∧ valV kvs k = some v ∧ Q v (upd H a (.dK (dropK kvs k)))
def PopK2 (a : Addr) (y z : V) (H : Hp) (Q : VK) : Prop := ∃ kvs k, H a = some (.dK kvs) ∧ y = kV k ∧ (∀ v, valV kvs k = some v → Q v (upd H a (.dK (dropK kvs k)))) ∧ (valV kvs k = none → Q z H)
def PopD (ty : TE) (σ : St) (x : V) (H : Hp) (Q : VK) : Prop := ∃ a, x = .ref a ∧ IsD H a ∧ ty σ H fun y H2 => PopK a y H2 Q
def PopD2 (ty tx : TE) (σ : St) (x : V) (H : Hp) (Q : VK) : Prop := ∃ a, x = .ref a ∧ IsD H a ∧ ty σ H fun y H2 => tx σ H2 fun z H3 => PopK2 a y z H3 Q
theorem w_pop1 (k : td σ H fun x H1 => PopD ty σ x H1 Q) : tDPop1 td ty σ H Q := k
theorem w_pop2 (k : td σ H fun x H1 => PopD2 ty tx σ x H1 Q) : tDPop2 td ty tx σ H Q := k
section
variable {α : Type} {g : α → V} {ts : List (Bits × α)} {l : Bits} {w : α} {d : Addr}
theorem w_popD (h : H d = some (.dK (tK g ts))) (k : ty σ H fun y H2 => PopK d y H2 Q) : PopD ty σ (.ref d) H Q := ⟨d, rfl, .inl ⟨_, .inl h⟩, k⟩
theorem w_popD2 (h : H d = some (.dK (tK g ts))) (k : ty σ H fun y H2 => tx σ H2 fun z H3 => PopK2 d y z H3 Q) : PopD2 ty tx σ (.ref d) H Q := ⟨d, rfl, .inl ⟨_, .inl h⟩, k⟩
theorem w_popK (h : H d = some (.dK (tK g ts))) (hl : alook ts l = some w) (k : Q (g w) (upd H d (.dK (tK g (adrop ts l))))) : PopK d (.str (B l)) H Q :=
  ⟨_, Sum.inr (B l), g w, h, rfl, by rw [val_tK, hl]; rfl, by rw [drop_tK]; exact k⟩
theorem w_popK2 (h : H d = some (.dK (tK g ts))) (k1 : ∀ w, alook ts l = some w → Q (g w) (upd H d (.dK (tK g (adrop ts l))))) (k2 : alook ts l = none → Q v H) : PopK2 d (.str (B l)) v H Q := by
  refine ⟨_, Sum.inr (B l), h, rfl, fun u hu => ?_, fun hu => ?_⟩
  · rw [val_tK] at hu
    cases e : alook ts l with
    | none => rw [e] at hu; cases hu
    | some w =>
      rw [e] at hu
      have e2 : u = g w := (Option.some.inj hu).symm
      subst e2
      rw [drop_tK]
      exact k1 w e
  · rw [val_tK] at hu
    cases e : alook ts l with
    | none => exact k2 e
    | some w => rw [e] at hu; cases hu
theorem aput_new {v : α} (h : l ∉ ts.map (·.1)) : aput ts l v = ts ++ [(l, v)] := by
  unfold aput
  rw [if_neg h]
theorem aput_keys {v : α} (h : l ∈ ts.map (·.1)) : (aput ts l v).map (·.1) = ts.map (·.1) := by
  unfold aput
  rw [if_pos h, List.map_map]
  apply List.map_congr_left
  intro p _
  simp only [Function.comp]
  split <;> rfl
theorem alook_none : alook ts l = none ↔ l ∉ ts.map (·.1) := by
  have h := alook_mem (ts := ts) (l := l)
  cases e : alook ts l with
  | none => rw [e] at h; simpa using h
  | some w =>
    rw [e] at h
    simp only [Option.isSome_some] at h
    constructor
    · intro q; cases q
    · intro q; exact absurd (of_decide_eq_true h.symm) q
theorem alook_some (h : l ∈ ts.map (·.1)) : ∃ w, alook ts l = some w := by
  cases e : alook ts l with
  | none => exact absurd h (alook_none.mp e)
  | some w => exact ⟨w, rfl⟩
theorem alook_of (nd : (ts.map (·.1)).Nodup) (h : (l, w) ∈ ts) : alook ts l = some w := by
  unfold alook
  induction ts with
  | nil => cases h
  | cons p r ih =>
    rw [List.map_cons, List.nodup_cons] at nd
    rw [List.find?_cons]
    rcases List.mem_cons.mp h with e | h
    · subst e
      simp
    · have : ¬ p.1 = l := fun e => nd.1 (by rw [e]; exact List.mem_map.mpr ⟨_, h, rfl⟩)
      rw [decide_eq_false this]
      exact ih nd.2 h
end
/-! ### for over a dict -/
theorem w_lock {ts : TS} {d : Addr} {kvs : List (Key × V)} (h : H d = some (.dK kvs))
    (k : ∀ od H1, H1 d = some (.frz od (.dK kvs)) → (∀ b, b ≠ d → H1 b = H b) →
      ts ⟨fun σ' H' => H' d = some (.frz od (.dK kvs)) ∧ D.nx σ' (upd H' d (.dK kvs)), fun v H' => H' d = some (.frz od (.dK kvs)) ∧ D.rt v (upd H' d (.dK kvs)), fun σ' H' => H' d = some (.frz od (.dK kvs)) ∧ D.bk σ' (upd H' d (.dK kvs)), fun σ' H' => H' d = some (.frz od (.dK kvs)) ∧ D.ct σ' (upd H' d (.dK kvs))⟩ σ H1) :
    tLock ts D σ H := ⟨d, _, h, True.intro, fun od => k od _ upd_same fun b hb => upd_ne hb⟩
def KeysOk (x : V) (H : Hp) (R : It → Hp → Prop) : Prop := ∃ d o, x = .ref d ∧ ((∃ kvs, H d = some (.frz o (.dK kvs)) ∧ R (Itk d o kvs) H) ∨ ∃ kvs, H d = some (.frz o (.dT kvs)) ∧ R (Itkt d o kvs) H)
theorem w_ikeys {R : It → Hp → Prop} (k : td σ H fun x H1 => KeysOk x H1 R) : iKeys td σ H R := k
theorem w_keysOk {R : It → Hp → Prop} {d : Addr} {o : Obj} {kvs : List (Key × V)} (h : H d = some (.frz o (.dK kvs))) (k : R (Itk d o kvs) H) : KeysOk (.ref d) H R := ⟨d, o, rfl, .inl ⟨kvs, h, k⟩⟩
theorem forK {j : Nat} {tb : TS} {d : Addr} {o : Obj} {α : Type} {g : α → V} {ts : List (Bits × α)} (Pv : Nat → St → Hp → Prop) (hl : ∀ i σ H, Pv i σ H → H d = some (.frz o (.dK (tK g ts)))) (h0 : Pv 0 σ H)
    (hs : ∀ i l w σ' H' (N : St → Hp → Prop), ts[i]? = some (l, w) → Pv i σ' H' → (∀ σ2 H2, Pv (i + 1) σ2 H2 → N σ2 H2) → tb { D with nx := N, ct := N, bk := D.nx } (σ'.set j (some (.str (B l)))) H') (hd : ∀ σ' H', Pv ts.length σ' H' → D.nx σ' H') :
    ForB (Itk d o (tK g ts)) (gName j) tb D σ H :=
  forG (n := ts.length) (Y := fun i x => ∃ l w, ts[i]? = some (l, w) ∧ x = .str (B l)) Pv (fun i σ H hi p => ⟨fun h => ⟨⟨hl i σ H p, by rw [tK_len]; exact h⟩, fun x H' ⟨e, k, v, y, ex⟩ => ⟨e, by
      unfold tK at y
      rw [List.getElem?_map] at y
      cases q : ts[i]? with
      | none => rw [q] at y; cases y
      | some pr =>
        rw [q] at y
        obtain ⟨l, w⟩ := pr
        have y' := Option.some.inj y
        simp only [Prod.mk.injEq] at y'
        exact ⟨l, w, rfl, by rw [ex, ← y'.1]; rfl⟩⟩⟩, fun e => ⟨hl i σ H p, by rw [tK_len]; omega⟩⟩) h0 (fun i x σ' H' N hi ⟨l, w, y, ex⟩ p k => by subst ex; exact hs i l w σ' H' N y p k) hd
/-- list(d), sorted(d) -/
theorem c_listD {X : Cx} (hc : X.calm = true) : CallR X (.type "list") rListD := call_list_dK hc
theorem w_listD {α : Type} {g : α → V} {ts : List (Bits × α)} {d : Addr} (h : H d = some (.dK (tK g ts))) (k : ∀ p H', H p = none → Ext H H' → H' p = some (.lst (bvs (ts.map (·.1)))) → Q (.ref p) H') : rListD [.ref d] H Q :=
  ⟨d, _, rfl, h, fun p hp => k p _ hp (Ext.new hp) (by rw [upd_same]; simp [tK, bvs, bv, kV])⟩
def rSortD : List V → Hp → VK → Prop := fun xs H Q => ∃ (a : Addr) (kvs : List (Key × V)) (ks : List Str), xs = [.ref a] ∧ Rd H a (.dK kvs) ∧ kvs.map (·.1) = ks.map Sum.inr ∧ ks.length < 64 ∧
  ∀ ys p, ys.Perm ks → PyProof.Rows.sortedS ys = true → H p = none → Q (.ref p) (upd H p (.lst (ys.map V.str)))
theorem c_sortD {X : Cx} (hc : X.calm = true) : CallR X (.builtin "sorted") rSortD := call_sortedD hc
theorem w_sortD {α : Type} {g : α → V} {ts : List (Bits × α)} {d : Addr} (h : Rd H d (.dK (tK g ts))) (hn : ts.length < 64) (nd : (ts.map (·.1)).Nodup)
    (k : ∀ ms p H', ms.Perm (ts.map (·.1)) → Rise ms → H p = none → Ext H H' → H' p = some (.lst (bvs ms)) → Q (.ref p) H') : rSortD [.ref d] H Q := by
  refine ⟨d, _, (ts.map (·.1)).map B, rfl, h, tK_keys, by simp; exact hn, fun ys p hp hs hn => ?_⟩
  obtain ⟨ms, rfl, hm⟩ := perm_B hp
  exact k ms p _ hm (rise_of hs (hm.nodup_iff.mpr nd)) hn (Ext.new hn) (by rw [upd_same, bvs_strs])
end
end Lw
end

section
/-! the wire: its model and its places -/
namespace Lw
open PySem L2
structure WM where
  width : Nat
  things : List (Bits × Bool)
  lis : List Bits
  told : Option Bits
  many : Nat
structure WOk (M : WM) : Prop where
  w1 : 1 ≤ M.width
  w2 : M.width ≤ 12
  nd : (M.things.map (·.1)).Nodup
  len : ∀ l, l ∈ M.things.map (·.1) → l.length = M.width
  sz : M.things.length ≤ 60
  lnd : M.lis.Nodup
  llen : ∀ l ∈ M.lis, l.length = M.width
  lsz : M.lis.length ≤ 60
  tl : ∀ b, M.told = some b → b.length ≤ M.width ∧ ∀ l ∈ M.lis, b <+: l
  tn : M.told = none → M.lis = []
def tvo : Option Bits → V
  | none => .non
  | some b => .str (B b)
def wf (w : Nat) (t l : Addr) (told : Option Bits) (many : Nat) : List (Str × V) := [("width", .int (w : Int)), ("things", .ref t), ("listening", .ref l), ("told", tvo told), ("many", .int (many : Int))]
def liK (ls : List Bits) : List (Bits × Bool) := ls.map fun l => (l, true)
theorem liK_keys (ls : List Bits) : (liK ls).map (·.1) = ls := by simp [liK, Function.comp_def]
/-- the wire at a -/
structure WAt (CW a dx t l : Addr) (M : WM) (H : Hp) : Prop where
  ob : H a = some (.ins CW dx (wf M.width t l M.told M.many))
  th : H t = some (.dK (tK V.bl M.things))
  li : H l = some (.dK (tK V.bl (liK M.lis)))
  tl : t ≠ l
theorem own_dK {kvs} : Ownd (.dK kvs) := ⟨nsh_dK, fun _ _ q => (by cases q), fun _ q => (by cases q), fun _ q => (by cases q)⟩
theorem own_ins {C dx fs} : Ownd (.ins C dx fs) := ⟨nsh_ins, fun _ _ q => (by cases q), fun _ q => (by cases q), fun _ q => (by cases q)⟩
theorem own_bvs (ls : List Bits) : Ownd (.lst (bvs ls)) := ⟨nsh_bvs _, fun _ _ q => (by cases q), fun _ q => (by cases q), fun _ q => (by cases q)⟩
theorem own_refs (ls : List Addr) : Ownd (.lst (ls.map V.ref)) := ⟨nsh_refs _, fun _ _ q => (by cases q), fun _ q => (by cases q), fun _ q => (by cases q)⟩
theorem own_tup {xs} : Ownd (.tup xs) := ⟨nsh_tup, fun _ _ q => (by cases q), fun _ q => (by cases q), fun _ q => (by cases q)⟩
def oWire (CW a dx t l : Addr) (M : WM) : Own where
  S := WAt CW a dx t l M
  F := [a, t, l]
  loc := fun h s => ⟨h _ (by simp) _ s.ob, h _ (by simp) _ s.th, h _ (by simp) _ s.li, s.tl⟩
  al := fun s b hb => by
    simp only [List.mem_cons, List.not_mem_nil, or_false] at hb
    rcases hb with rfl | rfl | rfl
    · exact ⟨_, s.ob, own_ins⟩
    · exact ⟨_, s.th, own_dK⟩
    · exact ⟨_, s.li, own_dK⟩
section
variable {CW a dx t l : Addr} {M : WM} {H : Hp}
theorem WAt.at_ (s : WAt CW a dx t l M H) : a ≠ t := ne_of s.ob s.th (fun q => by cases q)
theorem WAt.al (s : WAt CW a dx t l M H) : a ≠ l := ne_of s.ob s.li (fun q => by cases q)
end
/-- the class, as the top has made it -/
structure ClW (K : PySem.W.Frag) (CW : Addr) : Prop where
  cl : Cls K CW
  n_width : NoAttr K CW "width"
  n_things : NoAttr K CW "things"
  n_listening : NoAttr K CW "listening"
  n_told : NoAttr K CW "told"
  n_many : NoAttr K CW "many"
section
variable {K : PySem.W.Frag} {CW a dx t l : Addr} {w many : Nat} {told : Option Bits} {H : Hp} {Q : VK} {S : Hp → Prop}
theorem f_width (T : ClW K CW) (h : H a = some (.ins CW dx (wf w t l told many))) (k : Q (.int (w : Int)) H) : FldOk K "width" (.ref a) H Q := ⟨a, CW, dx, _, _, rfl, h, T.cl, T.n_width, by kernel_rfl, k⟩
theorem f_things (T : ClW K CW) (h : H a = some (.ins CW dx (wf w t l told many))) (k : Q (.ref t) H) : FldOk K "things" (.ref a) H Q := ⟨a, CW, dx, _, _, rfl, h, T.cl, T.n_things, by kernel_rfl, k⟩
theorem f_listening (T : ClW K CW) (h : H a = some (.ins CW dx (wf w t l told many))) (k : Q (.ref l) H) : FldOk K "listening" (.ref a) H Q := ⟨a, CW, dx, _, _, rfl, h, T.cl, T.n_listening, by kernel_rfl, k⟩
theorem f_told (T : ClW K CW) (h : H a = some (.ins CW dx (wf w t l told many))) (k : Q (tvo told) H) : FldOk K "told" (.ref a) H Q := ⟨a, CW, dx, _, _, rfl, h, T.cl, T.n_told, by kernel_rfl, k⟩
theorem f_tolds {b : Bits} (T : ClW K CW) (h : H a = some (.ins CW dx (wf w t l (some b) many))) (k : Q (.str (B b)) H) : FldOk K "told" (.ref a) H Q := f_told T h k
theorem f_many (T : ClW K CW) (h : H a = some (.ins CW dx (wf w t l told many))) (k : Q (.int (many : Int)) H) : FldOk K "many" (.ref a) H Q := ⟨a, CW, dx, _, _, rfl, h, T.cl, T.n_many, by kernel_rfl, k⟩
theorem p_told (b : Bits) : putF "told" (.str (B b)) (wf w t l told many) = wf w t l (some b) many := by kernel_rfl
theorem p_listening (l2 : Addr) : putF "listening" (.ref l2) (wf w t l told many) = wf w t l2 told many := by kernel_rfl
theorem p_many (m : Nat) : putF "many" (.int (m : Int)) (wf w t l told many) = wf w t l told m := by kernel_rfl
theorem s_told {b : Bits} (T : ClW K CW) (h : H a = some (.ins CW dx (wf w t l told many))) (k : S (upd H a (.ins CW dx (wf w t l (some b) many)))) : StoOk K "told" (.str (B b)) (.ref a) H S := ⟨a, CW, dx, _, rfl, h, T.cl, T.n_told, by show 5 < 1000; decide, by rw [p_told]; exact k⟩
theorem s_listening {l2 : Addr} (T : ClW K CW) (h : H a = some (.ins CW dx (wf w t l told many))) (k : S (upd H a (.ins CW dx (wf w t l2 told many)))) : StoOk K "listening" (.ref l2) (.ref a) H S := ⟨a, CW, dx, _, rfl, h, T.cl, T.n_listening, by show 5 < 1000; decide, by rw [p_listening]; exact k⟩
theorem s_many {m : Nat} (T : ClW K CW) (h : H a = some (.ins CW dx (wf w t l told many))) (k : S (upd H a (.ins CW dx (wf w t l told m)))) : StoOk K "many" (.int (m : Int)) (.ref a) H S := ⟨a, CW, dx, _, rfl, h, T.cl, T.n_many, by show 5 < 1000; decide, by rw [p_many]; exact k⟩
end
/-! ### what becomes of a wire -/
def WM.keys (M : WM) : List Bits := M.things.map (·.1)
def WM.hang (M : WM) (l : Bits) : WM := { M with things := M.things ++ [(l, false)] }
def WM.off (M : WM) (l : Bits) : WM := { M with things := adrop M.things l, lis := M.lis.filter fun x => decide (x ≠ l) }
def WM.set (M : WM) (l : Bits) (b : Bool) : WM := { M with things := aput M.things l b }
def WM.begin (M : WM) (all : Bool) : WM := { M with told := some [], lis := (M.things.filter fun p => all || p.2).map (·.1) }
def WM.look (M : WM) : WM := { M with many := M.many + 1 }
def WM.say (M : WM) (b : Bits) (c : Bool) : WM := { M with told := some (b ++ [c]), lis := M.lis.filter fun l => decide (b ++ [c] <+: l) }
section
variable {M : WM} {l b : Bits} {c : Bool}
theorem adrop_keys {α : Type} (ts : List (Bits × α)) (l : Bits) : (adrop ts l).map (·.1) = (ts.map (·.1)).filter fun x => decide (x ≠ l) := by
  unfold adrop
  rw [List.filter_map]
  rfl
theorem WOk.hang (h : WOk M) (hl : l ∉ M.keys) (hw : l.length = M.width) (hz : M.things.length < 60) : WOk (M.hang l) where
  w1 := h.w1
  w2 := h.w2
  nd := by
    show (List.map _ (M.things ++ [(l, false)])).Nodup
    rw [List.map_append]
    exact List.nodup_append.mpr ⟨h.nd, by simp, fun x hx y hy e => by
      simp at hy
      subst hy
      subst e
      exact hl hx⟩
  len := fun x hx => by
    change x ∈ List.map _ (M.things ++ [(l, false)]) at hx
    rw [List.map_append, List.mem_append] at hx
    rcases hx with hx | hx
    · exact h.len x hx
    · simp at hx
      rw [hx]
      exact hw
  sz := by
    show (M.things ++ [(l, false)]).length ≤ 60
    rw [List.length_append]
    simp
    omega
  lnd := h.lnd
  llen := h.llen
  lsz := h.lsz
  tl := h.tl
  tn := h.tn
theorem WOk.off (h : WOk M) : WOk (M.off l) where
  w1 := h.w1
  w2 := h.w2
  nd := by
    show ((adrop M.things l).map (·.1)).Nodup
    rw [adrop_keys]
    exact h.nd.filter _
  len := fun x hx => by
    change x ∈ (adrop M.things l).map (·.1) at hx
    rw [adrop_keys] at hx
    exact h.len x (List.mem_filter.mp hx).1
  sz := Nat.le_trans (List.length_filter_le _ _) h.sz
  lnd := h.lnd.filter _
  llen := fun x hx => h.llen x (List.mem_filter.mp hx).1
  lsz := Nat.le_trans (List.length_filter_le _ _) h.lsz
  tl := fun b hb => ⟨(h.tl b hb).1, fun x hx => (h.tl b hb).2 x (List.mem_filter.mp hx).1⟩
  tn := fun hn => by
    show M.lis.filter _ = []
    rw [h.tn hn]
    rfl
theorem WOk.set (h : WOk M) (hl : l ∈ M.keys) : WOk (M.set l c) where
  w1 := h.w1
  w2 := h.w2
  nd := by
    show ((aput M.things l c).map (·.1)).Nodup
    rw [aput_keys hl]
    exact h.nd
  len := fun x hx => by
    change x ∈ (aput M.things l c).map (·.1) at hx
    rw [aput_keys hl] at hx
    exact h.len x hx
  sz := by
    have : (aput M.things l c).length = M.things.length := by
      rw [← List.length_map (f := (·.1)), aput_keys hl, List.length_map]
    show (aput M.things l c).length ≤ 60
    rw [this]
    exact h.sz
  lnd := h.lnd
  llen := h.llen
  lsz := h.lsz
  tl := h.tl
  tn := h.tn
theorem begin_sub (M : WM) (c : Bool) : ((M.things.filter fun p => c || p.2).map (·.1)).Sublist (M.things.map (·.1)) := (List.filter_sublist).map _
theorem WOk.begin (h : WOk M) : WOk (M.begin c) where
  w1 := h.w1
  w2 := h.w2
  nd := h.nd
  len := h.len
  sz := h.sz
  lnd := h.nd.sublist (begin_sub M c)
  llen := fun x hx => h.len x ((begin_sub M c).subset hx)
  lsz := Nat.le_trans (begin_sub M c).length_le (by rw [List.length_map]; exact h.sz)
  tl := fun b hb => by
    cases hb
    exact ⟨Nat.zero_le _, fun x _ => List.nil_prefix⟩
  tn := fun hn => by cases hn
theorem WOk.look (h : WOk M) : WOk M.look := ⟨h.w1, h.w2, h.nd, h.len, h.sz, h.lnd, h.llen, h.lsz, h.tl, h.tn⟩
theorem WOk.say (h : WOk M) (hb : b.length < M.width) : WOk (M.say b c) where
  w1 := h.w1
  w2 := h.w2
  nd := h.nd
  len := h.len
  sz := h.sz
  lnd := h.lnd.filter _
  llen := fun x hx => h.llen x (List.mem_filter.mp hx).1
  lsz := Nat.le_trans (List.length_filter_le _ _) h.lsz
  tl := fun d hd => by
    cases hd
    exact ⟨by simp; exact hb, fun x hx => of_decide_eq_true (List.mem_filter.mp hx).2⟩
  tn := fun hn => by cases hn
end
end Lw
end

section
/-! walks: the model of a step, in plain Lean -/
namespace Lw
open PySem L2
inductive Res where
  | none | found (x : Bits) | lost
  deriving DecidableEq
structure KM where
  kind : Bool
  rest : List Bits
  said : Option Bits
  names : List Bits
  seen : List (Bits × Bool × Bool)
def KM.pend (N : KM) : List Bits := N.rest ++ N.said.toList
def KM.Sz (N : KM) : Prop := N.rest.length ≤ 9000 ∧ N.names.length ≤ 9000 ∧ N.seen.length ≤ 9000
/-- behind a bit: all bits are said, or not -/
def KM.ended (N : KM) (w : Nat) (b : Bits) : KM × Res := if b.length < w then ({ N with said := some b }, .none) else ({ N with said := Option.none, names := N.names ++ [b] }, .found b)
/-- a round begun, and the bits of a beginning said -/
def WM.tell (M : WM) (all : Bool) (g : Bits) : WM := { M with told := some g, lis := ((M.things.filter fun p => all || p.2).map (·.1)).filter fun l => decide (g <+: l) }
def stepB (M : WM) (N : KM) (g : Bits) : WM × KM × Res := (M.tell N.kind g, KM.ended { N with rest := N.rest.dropLast } M.width g)
def stepL (M : WM) (N : KM) (b : Bits) : WM × KM × Res :=
  let z := lookZ M.lis b false
  let o := lookZ M.lis b true
  let N1 : KM := { N with seen := N.seen ++ [(b, z, o)] }
  if (!z && !o) = true then (M.look, { N1 with said := Option.none }, .lost)
  else (M.look.say b (!z), KM.ended (if (z && o) = true then { N1 with rest := N1.rest ++ [b ++ [true]] } else N1) M.width (b ++ [!z]))
def kstep (M : WM) (N : KM) : WM × KM × Res := match N.said with
  | some b => stepL M N b
  | Option.none => stepB M N (N.rest.getLastD [])
def KM.over (N : KM) : Bool := decide (N.said = Option.none) && decide (N.rest = [])
/-- the walk speaks of the wire's round -/
def Link (M : WM) (N : KM) : Prop := ∀ b, N.said = some b → M.told = some b
/-- a is left of b: where they part, a has a 0 and b a 1 -/
def Lft (a b : Bits) : Prop := ∃ p s t, a = p ++ false :: s ∧ b = p ++ true :: t
theorem Lft.app {a b : Bits} (h : Lft a b) (x y : Bits) : Lft (a ++ x) (b ++ y) := by
  obtain ⟨p, s, t, rfl, rfl⟩ := h
  exact ⟨p, s ++ x, t ++ y, by simp, by simp⟩
theorem Lft.appr {a b : Bits} (h : Lft a b) (y : Bits) : Lft a (b ++ y) := by
  have := h.app [] y
  rwa [List.append_nil] at this
theorem Lft.appl {a b : Bits} (h : Lft a b) (x : Bits) : Lft (a ++ x) b := by
  have := h.app x []
  rwa [List.append_nil] at this
theorem Lft.pre {a b c : Bits} (h : Lft a b) (q : b <+: c) : Lft a c := by
  obtain ⟨t, rfl⟩ := q
  exact h.appr t
theorem Lft.two (b : Bits) : Lft (b ++ [false]) (b ++ [true]) := ⟨b, [], [], rfl, rfl⟩
theorem pre_part {p s t : Bits} : ¬ (p ++ false :: s <+: p ++ true :: t) := by
  rw [List.prefix_append_right_inj]
  rintro ⟨u, h⟩
  simp at h
theorem pre_part2 {p s t : Bits} : ¬ (p ++ true :: t <+: p ++ false :: s) := by
  rw [List.prefix_append_right_inj]
  rintro ⟨u, h⟩
  simp at h
theorem Lft.np {a b : Bits} (h : Lft a b) : ¬ a <+: b := by
  obtain ⟨p, s, t, rfl, rfl⟩ := h
  exact pre_part
theorem Lft.np2 {a b : Bits} (h : Lft a b) : ¬ b <+: a := by
  obtain ⟨p, s, t, rfl, rfl⟩ := h
  exact pre_part2
theorem blt_pre (p s t : Bits) : blt (p ++ s) (p ++ t) = blt s t := by
  induction p with
  | nil => rfl
  | cons x p ih => simp [blt, ih]
theorem Lft.blt {a b : Bits} (h : Lft a b) : blt a b = true := by
  obtain ⟨p, s, t, rfl, rfl⟩ := h
  rw [blt_pre]
  rfl
theorem snoc_pre {g b : Bits} {c : Bool} (h : b ++ [c] <+: g) : b <+: g := (List.prefix_append b [c]).trans h
/-- what stays true of a walk, whatever becomes of its wire; U: the beginnings that it may come to -/
structure KI (w : Nat) (U : Bits → Prop) (N : KM) : Prop where
  pr : ∀ g ∈ N.rest, g.length ≤ w ∧ U g
  ps : ∀ b, N.said = some b → b.length < w ∧ U b
  pe : ∀ e ∈ N.seen, e.1.length < w ∧ U e.1
  pn : ∀ x ∈ N.names, x.length = w ∧ U x
  ord : N.pend.Pairwise fun a b => Lft b a
  sn : ∀ e ∈ N.seen, ∀ g ∈ N.pend, ¬ g <+: e.1
  sd : (N.seen.map (·.1)).Nodup
  nn : ∀ x ∈ N.names, ∀ g ∈ N.pend, Lft x g
  nr : Rise N.names
  rs : N.rest.length ≤ N.seen.length + 1
theorem pend_said {N : KM} {b : Bits} (h : N.said = some b) : N.pend = N.rest ++ [b] := by simp [KM.pend, h]
theorem pend_none {N : KM} (h : N.said = none) : N.pend = N.rest := by simp [KM.pend, h]
/-- one pending beginning is taken further: b to b ++ t -/
theorem KI.ended {w : Nat} {U : Bits → Prop} {N : KM} {b : Bits} (pr : ∀ g ∈ N.rest, g.length ≤ w ∧ U g) (pe : ∀ e ∈ N.seen, e.1.length < w ∧ U e.1) (pn : ∀ x ∈ N.names, x.length = w ∧ U x)
    (ord : (N.rest ++ [b]).Pairwise fun a b => Lft b a) (sn : ∀ e ∈ N.seen, ∀ g ∈ N.rest ++ [b], ¬ g <+: e.1) (sd : (N.seen.map (·.1)).Nodup) (nn : ∀ x ∈ N.names, ∀ g ∈ N.rest ++ [b], Lft x g) (nr : Rise N.names)
    (rs : N.rest.length ≤ N.seen.length + 1) (hb : b.length ≤ w) (hU : U b) : KI w U (N.ended w b).1 := by
  unfold KM.ended
  by_cases h : b.length < w
  · rw [if_pos h]
    exact ⟨pr, fun c hc => by cases hc; exact ⟨h, hU⟩, pe, pn, by rw [pend_said rfl]; exact ord, by rw [pend_said rfl]; exact sn, sd, by rw [pend_said rfl]; exact nn, nr, rs⟩
  · rw [if_neg h]
    obtain ⟨o1, _, o3⟩ := List.pairwise_append.mp ord
    refine ⟨pr, fun c hc => (by cases hc), pe, fun x hx => ?_, by rw [pend_none rfl]; exact o1, ?_, sd, ?_, ?_, rs⟩
    · rcases List.mem_append.mp hx with hx | hx
      · exact pn x hx
      · rw [List.mem_singleton.mp hx]
        exact ⟨by omega, hU⟩
    · rw [pend_none rfl]
      exact fun e he g hg => sn e he g (List.mem_append_left _ hg)
    · rw [pend_none rfl]
      intro x hx g hg
      rcases List.mem_append.mp hx with hx | hx
      · exact nn x hx g (List.mem_append_left _ hg)
      · rw [List.mem_singleton.mp hx]
        exact o3 g hg b (by simp)
    · refine List.pairwise_append.mpr ⟨nr, by simp, fun x hx y hy => ?_⟩
      rw [List.mem_singleton.mp hy]
      exact (nn x hx b (by simp)).blt
theorem KI.stepB {w : Nat} {U : Bits → Prop} {M : WM} {N : KM} (h : KI w U N) (hw : M.width = w) (hs : N.said = none) (hr : N.rest ≠ []) : KI w U (stepB M N (N.rest.getLastD [])).2.1 := by
  have er : N.rest = N.rest.dropLast ++ [N.rest.getLastD []] := by
    have e := (List.dropLast_concat_getLast hr).symm
    have e2 : N.rest.getLastD [] = N.rest.getLast hr := by rw [List.getLastD_eq_getLast?, List.getLast?_eq_some_getLast hr]; rfl
    rw [e2]
    exact e
  have hm : N.rest.getLastD [] ∈ N.rest := by rw [er]; simp
  have ep : N.pend = N.rest.dropLast ++ [N.rest.getLastD []] := by rw [pend_none hs]; exact er
  unfold Lw.stepB
  rw [hw]
  have ord := h.ord
  have sn := h.sn
  have nn := h.nn
  rw [ep] at ord sn nn
  exact KI.ended (N := { N with rest := N.rest.dropLast }) (fun g hg => h.pr g ((List.dropLast_sublist _).subset hg)) h.pe h.pn ord sn h.sd nn h.nr (by have := h.rs; simp; omega) (h.pr _ hm).1 (h.pr _ hm).2
theorem lookZ_ex {ls : List Bits} {b : Bits} {c : Bool} : lookZ ls b c = true ↔ ∃ l ∈ ls, b ++ [c] <+: l := by
  unfold lookZ
  rw [List.any_eq_true]
  simp
theorem KI.stepL {w : Nat} {U : Bits → Prop} {M : WM} {N : KM} {b : Bits} (h : KI w U N) (hw : M.width = w) (hs : N.said = some b) (hU : ∀ c, lookZ M.lis b c = true → U (b ++ [c])) : KI w U (stepL M N b).2.1 := by
  have ep := pend_said hs
  have ord := h.ord
  have sn := h.sn
  have nn := h.nn
  rw [ep] at ord sn nn
  obtain ⟨o1, _, o3⟩ := List.pairwise_append.mp ord
  obtain ⟨hbl, hbU⟩ := h.ps b hs
  have ob : ∀ g ∈ N.rest, Lft b g := fun g hg => o3 g hg b (by simp)
  unfold Lw.stepL
  simp only
  have hpe : ∀ e ∈ N.seen ++ [(b, lookZ M.lis b false, lookZ M.lis b true)], e.1.length < w ∧ U e.1 := fun e he => by
    rcases List.mem_append.mp he with he | he
    · exact h.pe e he
    · rw [List.mem_singleton.mp he]
      exact ⟨hbl, hbU⟩
  have hsd : ((N.seen ++ [(b, lookZ M.lis b false, lookZ M.lis b true)]).map (·.1)).Nodup := by
    rw [List.map_append]
    refine List.nodup_append.mpr ⟨h.sd, by simp, fun x hx y hy e => ?_⟩
    have hy : y = b := by simpa using hy
    obtain ⟨e1, he1, rfl⟩ := List.mem_map.mp hx
    exact sn e1 he1 b (by simp) (by rw [e, hy]; exact List.prefix_refl _)
  by_cases hzo : (!lookZ M.lis b false && !lookZ M.lis b true) = true
  · rw [if_pos hzo]
    refine ⟨h.pr, fun c hc => (by cases hc), hpe, h.pn, by rw [pend_none rfl]; exact o1, ?_, hsd, ?_, h.nr, by have := h.rs; simp; omega⟩
    · rw [pend_none rfl]
      intro e he g hg
      rcases List.mem_append.mp he with he | he
      · exact sn e he g (List.mem_append_left _ hg)
      · rw [List.mem_singleton.mp he]
        exact (ob g hg).np2
    · rw [pend_none rfl]
      exact fun x hx g hg => nn x hx g (List.mem_append_left _ hg)
  · rw [if_neg hzo]
    simp only
    rw [hw]
    have hc : lookZ M.lis b (!lookZ M.lis b false) = true := by
      cases e : lookZ M.lis b false with
      | true => exact e
      | false =>
        cases e2 : lookZ M.lis b true with
        | true => exact e2
        | false => rw [e, e2] at hzo; exact absurd rfl hzo
    have hUc := hU _ hc
    generalize hcc : (!lookZ M.lis b false) = c at hc hUc ⊢
    by_cases hb2 : (lookZ M.lis b false && lookZ M.lis b true) = true
    · rw [if_pos hb2]
      have hz : lookZ M.lis b false = true := (Bool.and_eq_true_iff.mp hb2).1
      have ho : lookZ M.lis b true = true := (Bool.and_eq_true_iff.mp hb2).2
      have ec : c = false := by rw [← hcc, hz]; rfl
      subst ec
      refine KI.ended (N := { N with seen := N.seen ++ [(b, lookZ M.lis b false, lookZ M.lis b true)], rest := N.rest ++ [b ++ [true]] }) (fun g hg => ?_) hpe h.pn ?_ (fun e he g hg => ?_) hsd (fun x hx g hg => ?_) h.nr ?_ (by simp; omega) hUc
      · rcases List.mem_append.mp hg with hg | hg
        · exact h.pr g hg
        · rw [List.mem_singleton.mp hg]
          exact ⟨by simp; omega, hU true ho⟩
      · refine List.pairwise_append.mpr ⟨List.pairwise_append.mpr ⟨o1, by simp, fun g hg y hy => ?_⟩, by simp, fun g hg y hy => ?_⟩
        · rw [List.mem_singleton.mp hy]
          exact (ob g hg).appl _
        · rw [List.mem_singleton.mp hy]
          rcases List.mem_append.mp hg with hg | hg
          · exact (ob g hg).appl _
          · rw [List.mem_singleton.mp hg]
            exact Lft.two b
      · have hg' : g ∈ N.rest ∨ ∃ c, g = b ++ [c] := by
          rcases List.mem_append.mp hg with hg | hg
          · rcases List.mem_append.mp hg with hg | hg
            · exact .inl hg
            · exact .inr ⟨true, List.mem_singleton.mp hg⟩
          · exact .inr ⟨false, List.mem_singleton.mp hg⟩
        rcases List.mem_append.mp he with he | he
        · rcases hg' with hg | ⟨c, rfl⟩
          · exact sn e he g (List.mem_append_left _ hg)
          · exact fun q => sn e he b (by simp) (snoc_pre q)
        · rw [List.mem_singleton.mp he]
          rcases hg' with hg | ⟨c, rfl⟩
          · exact (ob g hg).np2
          · intro q
            have := q.length_le
            simp at this
            exact absurd this (Nat.not_succ_le_self _)
      · rcases List.mem_append.mp hg with hg | hg
        · rcases List.mem_append.mp hg with hg | hg
          · exact nn x hx g (List.mem_append_left _ hg)
          · rw [List.mem_singleton.mp hg]
            exact (nn x hx b (by simp)).appr _
        · rw [List.mem_singleton.mp hg]
          exact (nn x hx b (by simp)).appr _
      · have := h.rs
        simp
        omega
    · rw [if_neg hb2]
      refine KI.ended (N := { N with seen := N.seen ++ [(b, lookZ M.lis b false, lookZ M.lis b true)] }) h.pr hpe h.pn ?_ (fun e he g hg => ?_) hsd (fun x hx g hg => ?_) h.nr (by have := h.rs; simp; omega) (by simp; omega) hUc
      · refine List.pairwise_append.mpr ⟨o1, by simp, fun g hg y hy => ?_⟩
        rw [List.mem_singleton.mp hy]
        exact (ob g hg).appl _
      · have hg' : g ∈ N.rest ∨ g = b ++ [c] := by
          rcases List.mem_append.mp hg with hg | hg
          · exact .inl hg
          · exact .inr (List.mem_singleton.mp hg)
        rcases List.mem_append.mp he with he | he
        · rcases hg' with hg | rfl
          · exact sn e he g (List.mem_append_left _ hg)
          · exact fun q => sn e he b (by simp) (snoc_pre q)
        · rw [List.mem_singleton.mp he]
          rcases hg' with hg | rfl
          · exact (ob g hg).np2
          · intro q
            have := q.length_le
            simp at this
            exact absurd this (Nat.not_succ_le_self _)
      · rcases List.mem_append.mp hg with hg | hg
        · exact nn x hx g (List.mem_append_left _ hg)
        · rw [List.mem_singleton.mp hg]
          exact (nn x hx b (by simp)).appr _
/-! ### runs -/
/-- what a walk and its wire must be for a step -/
structure KP (M : WM) (N : KM) : Prop where
  ls : ∀ b, N.said = some b → b.length < M.width ∧ M.told = some b
  lr : ∀ g ∈ N.rest, g.length ≤ M.width
theorem KI.kp {w : Nat} {U : Bits → Prop} {M : WM} {N : KM} (h : KI w U N) (hw : M.width = w) (l : Link M N) : KP M N := ⟨fun b hb => ⟨by rw [hw]; exact (h.ps b hb).1, l b hb⟩, fun g hg => by rw [hw]; exact (h.pr g hg).1⟩
theorem ended_said {N : KM} {w : Nat} {b : Bits} : ∀ c, (N.ended w b).1.said = some c → c = b ∧ b.length < w ∧ (N.ended w b).2 = .none := fun c hc => by
  unfold KM.ended at hc ⊢
  by_cases h : b.length < w
  · rw [if_pos h] at hc ⊢
    cases hc
    exact ⟨rfl, h, rfl⟩
  · rw [if_neg h] at hc
    cases hc
theorem ended_rest {N : KM} {w : Nat} {b : Bits} : (N.ended w b).1.rest = N.rest ∧ (N.ended w b).1.seen = N.seen ∧ (N.ended w b).1.kind = N.kind := by
  unfold KM.ended
  by_cases h : b.length < w
  · rw [if_pos h]
    exact ⟨rfl, rfl, rfl⟩
  · rw [if_neg h]
    exact ⟨rfl, rfl, rfl⟩
theorem ended_names {N : KM} {w : Nat} {b : Bits} : (N.ended w b).1.names.length ≤ N.names.length + 1 := by
  unfold KM.ended
  by_cases h : b.length < w
  · rw [if_pos h]
    exact Nat.le_succ _
  · rw [if_neg h]
    simp
theorem ended_none {N : KM} {w : Nat} {b : Bits} (h : (N.ended w b).2 = .none) : (N.ended w b).1.said = some b ∧ b.length < w := by
  unfold KM.ended at h ⊢
  by_cases hb : b.length < w
  · rw [if_pos hb]
    exact ⟨rfl, hb⟩
  · rw [if_neg hb] at h
    cases h
theorem kstep_none {M : WM} {N : KM} (h : N.said = none) : kstep M N = stepB M N (N.rest.getLastD []) := by unfold kstep; rw [h]
theorem kstep_some {M : WM} {N : KM} {b : Bits} (h : N.said = some b) : kstep M N = stepL M N b := by unfold kstep; rw [h]
theorem kstep_width (M : WM) (N : KM) : (kstep M N).1.width = M.width ∧ (kstep M N).1.things = M.things := by
  cases h : N.said with
  | none =>
    rw [kstep_none h]
    exact ⟨rfl, rfl⟩
  | some b =>
    rw [kstep_some h]
    unfold stepL
    simp only
    split
    · exact ⟨rfl, rfl⟩
    · exact ⟨rfl, rfl⟩
/-- sizes behind a step -/
theorem kstep_size (M : WM) (N : KM) : (kstep M N).2.1.rest.length ≤ N.rest.length + 1 ∧ (kstep M N).2.1.names.length ≤ N.names.length + 1 ∧ (kstep M N).2.1.seen.length ≤ N.seen.length + 1 := by
  cases h : N.said with
  | none =>
    rw [kstep_none h]
    unfold stepB
    obtain ⟨e1, e2, _⟩ := ended_rest (N := { N with rest := N.rest.dropLast }) (w := M.width) (b := N.rest.getLastD [])
    refine ⟨?_, ended_names, ?_⟩
    · show (KM.ended _ _ _).1.rest.length ≤ _
      rw [e1]
      simp
      omega
    · show (KM.ended _ _ _).1.seen.length ≤ _
      rw [e2]
      exact Nat.le_succ _
  | some b =>
    rw [kstep_some h]
    unfold stepL
    simp only
    split
    · simp
    · simp only
      obtain ⟨e1, e2, _⟩ := ended_rest (N := if (lookZ M.lis b false && lookZ M.lis b true) = true then { N with seen := N.seen ++ [(b, lookZ M.lis b false, lookZ M.lis b true)], rest := N.rest ++ [b ++ [true]] } else { N with seen := N.seen ++ [(b, lookZ M.lis b false, lookZ M.lis b true)] }) (w := M.width) (b := b ++ [!lookZ M.lis b false])
      refine ⟨?_, ?_, ?_⟩
      · rw [e1]
        split <;> simp
      · refine Nat.le_trans ended_names ?_
        split <;> simp
      · rw [e2]
        split <;> simp
theorem kstep_kind (M : WM) (N : KM) : (kstep M N).2.1.kind = N.kind := by
  cases h : N.said with
  | none =>
    rw [kstep_none h]
    unfold stepB
    exact (ended_rest (N := { N with rest := N.rest.dropLast }) (w := M.width) (b := N.rest.getLastD [])).2.2
  | some b =>
    rw [kstep_some h]
    unfold stepL
    simp only
    split
    · rfl
    · refine ended_rest.2.2.trans ?_
      split <;> rfl
theorem getLastD_mem {ls : List Bits} (h : ls ≠ []) : ls.getLastD [] ∈ ls := by
  rw [List.getLastD_eq_getLast?, List.getLast?_eq_some_getLast h]
  exact List.getLast_mem h
theorem KP.step {M : WM} {N : KM} (h : KP M N) (ho : N.over = false) : KP (kstep M N).1 (kstep M N).2.1 := by
  cases hs : N.said with
  | none =>
    have hr : N.rest ≠ [] := fun e => by simp [KM.over, hs, e] at ho
    rw [kstep_none hs]
    unfold stepB
    refine ⟨fun b hb => ?_, fun g hg => ?_⟩
    · obtain ⟨rfl, hl, _⟩ := ended_said b hb
      exact ⟨hl, rfl⟩
    · change g ∈ (KM.ended _ _ _).1.rest at hg
      rw [ended_rest.1] at hg
      exact h.lr g ((List.dropLast_sublist _).subset hg)
  | some b =>
    obtain ⟨hb, _⟩ := h.ls b hs
    rw [kstep_some hs]
    unfold stepL
    simp only
    split
    · exact ⟨fun c hc => (by cases hc), h.lr⟩
    · refine ⟨fun c hc => ?_, fun g hg => ?_⟩
      · obtain ⟨rfl, hl, _⟩ := ended_said c hc
        exact ⟨hl, rfl⟩
      · change g ∈ (KM.ended _ _ _).1.rest at hg
        rw [ended_rest.1] at hg
        split at hg
        · rcases List.mem_append.mp hg with hg | hg
          · exact h.lr g hg
          · rw [List.mem_singleton.mp hg]
            show (b ++ [true]).length ≤ M.width
            simp
            omega
        · exact h.lr g hg
/-- how far a round may go yet -/
def KM.gap (w : Nat) (N : KM) : Nat := match N.said with
  | some b => w - b.length
  | none => w + 1
theorem gap_some {w : Nat} {N : KM} {b : Bits} (e : N.said = some b) : N.gap w = w - b.length := by unfold KM.gap; rw [e]
theorem gap_none {w : Nat} {N : KM} (e : N.said = none) : N.gap w = w + 1 := by unfold KM.gap; rw [e]
theorem over_some {N : KM} {b : Bits} (e : N.said = some b) : N.over = false := by unfold KM.over; rw [e]; rfl
theorem kstep_gap {M : WM} {N : KM} (h : KP M N) (hn : (kstep M N).2.2 = .none) : (kstep M N).2.1.gap M.width < N.gap M.width ∧ (kstep M N).2.1.over = false := by
  cases hs : N.said with
  | none =>
    rw [kstep_none hs] at hn ⊢
    unfold stepB at hn ⊢
    obtain ⟨e, hl⟩ := ended_none hn
    refine ⟨?_, over_some e⟩
    rw [gap_some e, gap_none hs]
    omega
  | some b =>
    obtain ⟨hb, _⟩ := h.ls b hs
    rw [kstep_some hs] at hn ⊢
    unfold stepL at hn ⊢
    simp only at hn ⊢
    split at hn
    · cases hn
    · rename_i hz
      rw [if_neg hz]
      obtain ⟨e, hl⟩ := ended_none hn
      refine ⟨?_, over_some e⟩
      rw [gap_some e, gap_some hs]
      rw [List.length_append] at hl ⊢
      simp only [List.length_cons, List.length_nil] at hl ⊢
      omega
/-- a round -/
inductive KRound : Nat → WM → KM → WM → KM → Res → Prop
  | last {M : WM} {N : KM} (h : (kstep M N).2.2 ≠ .none) : KRound 1 M N (kstep M N).1 (kstep M N).2.1 (kstep M N).2.2
  | more {n : Nat} {M M' : WM} {N N' : KM} {r : Res} (h : (kstep M N).2.2 = .none) (t : KRound n (kstep M N).1 (kstep M N).2.1 M' N' r) : KRound (n + 1) M N M' N' r
/-- a run to its end -/
inductive KRun : Nat → WM → KM → WM → KM → Prop
  | last {M : WM} {N : KM} (h : N.over = true) : KRun 0 M N M N
  | more {n : Nat} {M M' : WM} {N N' : KM} (h : N.over = false) (t : KRun n (kstep M N).1 (kstep M N).2.1 M' N') : KRun (n + 1) M N M' N'
theorem kround_ex {M : WM} {N : KM} (h : KP M N) (ho : N.over = false) : ∃ n M' N' r, KRound n M N M' N' r ∧ n ≤ N.gap M.width := by
  obtain ⟨g, hg⟩ : ∃ g, g = N.gap M.width := ⟨_, rfl⟩
  induction g using Nat.strongRecOn generalizing M N with
  | _ g ih =>
    by_cases hn : (kstep M N).2.2 = .none
    · obtain ⟨h1, h2⟩ := kstep_gap h hn
      have ew := (kstep_width M N).1
      obtain ⟨n, M', N', r, hr, hl⟩ := ih ((kstep M N).2.1.gap M.width) (by omega) (h.step ho) h2 (by rw [ew])
      rw [ew] at hl
      exact ⟨n + 1, M', N', r, .more hn hr, by omega⟩
    · refine ⟨1, _, _, _, .last hn, ?_⟩
      cases hs : N.said with
      | none => rw [gap_none hs]; omega
      | some b =>
        have := (h.ls b hs).1
        rw [gap_some hs]
        omega
/-- a round of a run -/
theorem krun_round {n j : Nat} {M M' M1 : WM} {N N' N1 : KM} {r : Res} (hp : KP M N) (h : KRun n M N M' N') (ho : N.over = false) (t : KRound j M N M1 N1 r) : j ≤ n ∧ 1 ≤ j ∧ KRun (n - j) M1 N1 M' N' := by
  induction t generalizing n with
  | last h2 =>
    cases h with
    | last h => rw [h] at ho; cases ho
    | more h t => exact ⟨by omega, by omega, t⟩
  | more h2 t ih =>
    cases h with
    | last h => rw [h] at ho; cases ho
    | more h t' =>
      obtain ⟨a, b, c⟩ := ih (hp.step ho) t' (kstep_gap hp h2).2
      exact ⟨by omega, by omega, by rw [Nat.add_sub_add_right]; exact c⟩
theorem kround_kp {j : Nat} {M M1 : WM} {N N1 : KM} {r : Res} (hp : KP M N) (ho : N.over = false) (t : KRound j M N M1 N1 r) : KP M1 N1 := by
  induction t with
  | last h2 => exact hp.step ho
  | more h2 t ih => exact ih (hp.step ho) (kstep_gap hp h2).2
theorem kround_sz {j : Nat} {M M1 : WM} {N N1 : KM} {r : Res} (t : KRound j M N M1 N1 r) : N1.rest.length ≤ N.rest.length + j ∧ N1.names.length ≤ N.names.length + j ∧ N1.seen.length ≤ N.seen.length + j ∧ M1.width = M.width ∧ M1.things = M.things ∧ r ≠ .none := by
  induction t with
  | last h2 =>
    rename_i M N
    obtain ⟨a, b, c⟩ := kstep_size M N
    exact ⟨a, b, c, (kstep_width M N).1, (kstep_width M N).2, h2⟩
  | more h2 t ih =>
    rename_i n M M' N N' r
    obtain ⟨a, b, c⟩ := kstep_size M N
    obtain ⟨a2, b2, c2, d2, e2, f2⟩ := ih
    exact ⟨by omega, by omega, by omega, d2.trans (kstep_width M N).1, e2.trans (kstep_width M N).2, f2⟩
theorem krun_sz {j : Nat} {M M1 : WM} {N N1 : KM} (t : KRun j M N M1 N1) : N1.rest.length ≤ N.rest.length + j ∧ N1.names.length ≤ N.names.length + j ∧ N1.seen.length ≤ N.seen.length + j ∧ M1.width = M.width ∧ M1.things = M.things ∧ N1.over = true := by
  induction t with
  | last h => exact ⟨Nat.le_refl _, Nat.le_refl _, Nat.le_refl _, rfl, rfl, h⟩
  | more h t ih =>
    rename_i n M M' N N'
    obtain ⟨a, b, c⟩ := kstep_size M N
    obtain ⟨a2, b2, c2, d2, e2, f2⟩ := ih
    exact ⟨by omega, by omega, by omega, d2.trans (kstep_width M N).1, e2.trans (kstep_width M N).2, f2⟩
end Lw
end

section
/-! a walk in the heap -/
namespace Lw
open PySem L2
theorem begin_tell (M : WM) (c : Bool) : M.begin c = M.tell c [] := by
  unfold WM.begin WM.tell
  congr 1
  rw [eq_comm, List.filter_eq_self]
  intro a _
  simp
theorem tell_say (M : WM) (c : Bool) (g : Bits) (b : Bool) : (M.tell c g).say g b = M.tell c (g ++ [b]) := by
  unfold WM.say WM.tell
  simp only
  congr 1
  rw [List.filter_filter]
  apply List.filter_congr
  intro l _
  rw [Bool.eq_iff_iff]
  simp only [Bool.and_eq_true, decide_eq_true_eq]
  exact ⟨fun h => h.1, fun h => ⟨h, snoc_pre h⟩⟩
theorem tell_ok {M : WM} (h : WOk M) {c : Bool} (g : Bits) : g.length ≤ M.width → WOk (M.tell c g) := by
  induction hn : g.length generalizing g with
  | zero =>
    intro _
    rw [List.length_eq_zero_iff.mp hn, ← begin_tell]
    exact h.begin
  | succ n ih =>
    intro hl
    have hne : g ≠ [] := fun e => by rw [e] at hn; cases hn
    have e := (List.dropLast_concat_getLast hne).symm
    have hd : g.dropLast.length = n := by rw [List.length_dropLast]; omega
    have := (ih g.dropLast hd (by omega)).say (b := g.dropLast) (c := g.getLast hne) (by show _ < M.width; omega)
    rw [tell_say, ← e] at this
    exact this
theorem kstep_ok {M : WM} {N : KM} (h : WOk M) (p : KP M N) (ho : N.over = false) : WOk (kstep M N).1 := by
  cases hs : N.said with
  | none =>
    have hr : N.rest ≠ [] := fun e => by simp [KM.over, hs, e] at ho
    rw [kstep_none hs]
    exact tell_ok h _ (p.lr _ (getLastD_mem hr))
  | some b =>
    rw [kstep_some hs]
    unfold stepL
    simp only
    split
    · exact h.look
    · exact h.look.say (p.ls b hs).1
theorem kround_ok {j : Nat} {M M1 : WM} {N N1 : KM} {r : Res} (h : WOk M) (hp : KP M N) (ho : N.over = false) (t : KRound j M N M1 N1 r) : WOk M1 := by
  induction t with
  | last h2 => exact kstep_ok h hp ho
  | more h2 t ih => exact ih (kstep_ok h hp ho) (hp.step ho) (kstep_gap hp h2).2
abbrev kindS (c : Bool) : Str := if c = true then "all" else "alarm"
theorem kindS_or (c : Bool) : kindS c = "all" ∨ kindS c = "alarm" := by cases c <;> simp [kindS]
theorem kindS_dec (c : Bool) : decide (kindS c = "all") = c := by cases c <;> decide
def kf (a : Addr) (c : Bool) (r : Addr) (said : Option Bits) (n s : Addr) : List (Str × V) := [("wire", .ref a), ("kind", .str (kindS c)), ("rest", .ref r), ("said", tvo said), ("names", .ref n), ("seen", .ref s)]
def sTup (e : Bits × Bool × Bool) : HO := .tup [.str (B e.1), .bl e.2.1, .bl e.2.2]
/-- the walk at k -/
structure KAt (CK k dx a r n s : Addr) (ps : List Addr) (N : KM) (H : Hp) : Prop where
  ob : H k = some (.ins CK dx (kf a N.kind r N.said n s))
  rs : H r = some (.lst (bvs N.rest))
  nm : H n = some (.lst (bvs N.names))
  sn : H s = some (.lst (ps.map V.ref))
  ts : ps.map H = N.seen.map fun e => some (sTup e)
  rn : r ≠ n
  rS : r ≠ s
  nS : n ≠ s
theorem KAt.mem {CK k dx a r n s : Addr} {ps : List Addr} {N : KM} {H : Hp} (h : KAt CK k dx a r n s ps N H) {p : Addr} (hp : p ∈ ps) : ∃ e, H p = some (sTup e) := by
  have : H p ∈ ps.map H := List.mem_map_of_mem hp
  rw [h.ts] at this
  obtain ⟨e, _, he⟩ := List.mem_map.mp this
  exact ⟨e, he.symm⟩
theorem KAt.loc {CK k dx a r n s : Addr} {ps : List Addr} {N : KM} {H H' : Hp} (h : ∀ b ∈ [k, r, n, s] ++ ps, ∀ o, H b = some o → H' b = some o) (g : KAt CK k dx a r n s ps N H) : KAt CK k dx a r n s ps N H' where
  ob := h _ (by simp) _ g.ob
  rs := h _ (by simp) _ g.rs
  nm := h _ (by simp) _ g.nm
  sn := h _ (by simp) _ g.sn
  ts := by
    rw [← g.ts]
    apply List.map_congr_left
    intro p hp
    obtain ⟨e, he⟩ := g.mem hp
    rw [he]
    exact h p (by simp [hp]) _ he
  rn := g.rn
  rS := g.rS
  nS := g.nS
theorem KAt.al {CK k dx a r n s : Addr} {ps : List Addr} {N : KM} {H : Hp} (g : KAt CK k dx a r n s ps N H) : ∀ b ∈ [k, r, n, s] ++ ps, ∃ o, H b = some o ∧ Ownd o := by
  intro b hb
  rcases List.mem_append.mp hb with hb | hb
  · simp only [List.mem_cons, List.not_mem_nil, or_false] at hb
    rcases hb with rfl | rfl | rfl | rfl
    · exact ⟨_, g.ob, own_ins⟩
    · exact ⟨_, g.rs, own_bvs _⟩
    · exact ⟨_, g.nm, own_bvs _⟩
    · exact ⟨_, g.sn, own_refs _⟩
  · obtain ⟨e, he⟩ := g.mem hb
    exact ⟨_, he, own_tup⟩
def oWalk (CK k dx a r n s : Addr) (ps : List Addr) (N : KM) : Own := ⟨KAt CK k dx a r n s ps N, [k, r, n, s] ++ ps, KAt.loc, KAt.al⟩
theorem kf_wf {CK CW dx dx2 : Addr} {a c r s n w t l many} {told told2} : HO.ins CK dx (kf a c r told n s) ≠ .ins CW dx2 (wf w t l told2 many) := by
  intro e
  injection e with _ _ e
  unfold kf wf at e
  injection e with e _
  injection e with e _
  exact absurd e (by decide +kernel)
/-- the places of a walk are none of a wire's -/
theorem KAt.apart {CK k dx a r n s CW a2 dx2 t l : Addr} {ps : List Addr} {N : KM} {M : WM} {H : Hp} (g : KAt CK k dx a r n s ps N H) (W : WAt CW a2 dx2 t l M H) : ∀ b ∈ [k, r, n, s] ++ ps, b ∉ [a2, t, l] := by
  intro b hb hw
  simp only [List.mem_cons, List.not_mem_nil, or_false] at hw
  have ho : (∃ o, H b = some o ∧ ((∃ dx w t l c d, o = .ins CW dx (wf w t l c d)) ∨ ∃ d, o = .dK d)) := by
    rcases hw with rfl | rfl | rfl
    · exact ⟨_, W.ob, .inl ⟨_, _, _, _, _, _, rfl⟩⟩
    · exact ⟨_, W.th, .inr ⟨_, rfl⟩⟩
    · exact ⟨_, W.li, .inr ⟨_, rfl⟩⟩
  obtain ⟨o, h1, h2⟩ := ho
  rcases List.mem_append.mp hb with hb | hb
  · simp only [List.mem_cons, List.not_mem_nil, or_false] at hb
    rcases hb with rfl | rfl | rfl | rfl
    · rw [g.ob] at h1
      cases h1
      rcases h2 with ⟨_, _, _, _, _, _, e⟩ | ⟨_, e⟩
      · exact kf_wf e
      · cases e
    all_goals first | rw [g.rs] at h1 | rw [g.nm] at h1 | rw [g.sn] at h1
    all_goals cases h1
    all_goals rcases h2 with ⟨_, _, _, _, _, _, e⟩ | ⟨_, e⟩
    all_goals cases e
  · obtain ⟨e, he⟩ := g.mem hb
    rw [he] at h1
    cases h1
    rcases h2 with ⟨_, _, _, _, _, _, e⟩ | ⟨_, e⟩
    all_goals cases e
theorem KAt.stepW {CK k dx a r n s CW a2 dx2 t l : Addr} {F' : List Addr} {ps : List Addr} {N : KM} {M : WM} {H H' : Hp} (g : KAt CK k dx a r n s ps N H) (W : WAt CW a2 dx2 t l M H) (z : Step [a2, t, l] F' H H') : KAt CK k dx a r n s ps N H' := by
  refine KAt.loc (fun b hb o ho => ?_) g
  obtain ⟨o2, h1, h2⟩ := g.al b hb
  rw [ho] at h1
  cases h1
  exact z.st b o ho (g.apart W b hb) h2.1
/-- a wire stands while a walk's places are written -/
theorem WAt.stepK {CK k dx a r n s CW a2 dx2 t l : Addr} {F' : List Addr} {ps : List Addr} {N : KM} {M : WM} {H H' : Hp} (W : WAt CW a2 dx2 t l M H) (g : KAt CK k dx a r n s ps N H) (z : Step ([k, r, n, s] ++ ps) F' H H') : WAt CW a2 dx2 t l M H' := by
  refine (oWire CW a2 dx2 t l M).loc (fun b hb o ho => ?_) W
  obtain ⟨o2, h1, h2⟩ := (oWire CW a2 dx2 t l M).al W b hb
  rw [ho] at h1
  cases h1
  exact z.st b o ho (fun q => g.apart W b q hb) h2.1
theorem Step.wide {F F' : List Addr} {H H' : Hp} (z : Step F F' H H') (G : List Addr) : Step (F ++ G) (F' ++ G) H H' where
  st := fun b o h n ns => z.st b o h (fun q => n (List.mem_append_left _ q)) ns
  rw_ := fun b a i m y h n hi => z.rw_ b a i m y h (fun q => n (List.mem_append_left _ q)) hi
  th := z.th
  nw := fun b h => by
    rcases List.mem_append.mp h with h | h
    · rcases z.nw b h with q | q
      · exact .inl (List.mem_append_left _ q)
      · exact .inr q
    · exact .inl (List.mem_append_right _ h)
theorem Step.wideL {F F' : List Addr} {H H' : Hp} (z : Step F F' H H') (G : List Addr) : Step (G ++ F) (G ++ F') H H' where
  st := fun b o h n ns => z.st b o h (fun q => n (List.mem_append_right _ q)) ns
  rw_ := fun b a i m y h n hi => z.rw_ b a i m y h (fun q => n (List.mem_append_right _ q)) hi
  th := z.th
  nw := fun b h => by
    rcases List.mem_append.mp h with h | h
    · exact .inl (List.mem_append_left _ h)
    · rcases z.nw b h with q | q
      · exact .inl (List.mem_append_right _ q)
      · exact .inr q
/-- the class, as the top has made it -/
structure ClK (K : PySem.W.Frag) (CK : Addr) : Prop where
  cl : Cls K CK
  n_wire : NoAttr K CK "wire"
  n_kind : NoAttr K CK "kind"
  n_rest : NoAttr K CK "rest"
  n_said : NoAttr K CK "said"
  n_names : NoAttr K CK "names"
  n_seen : NoAttr K CK "seen"
section
variable {K : PySem.W.Frag} {CK k dx a r n s : Addr} {c : Bool} {said : Option Bits} {H : Hp} {Q : VK} {S : Hp → Prop}
theorem g_wire (T : ClK K CK) (h : H k = some (.ins CK dx (kf a c r said n s))) (q : Q (.ref a) H) : FldOk K "wire" (.ref k) H Q := ⟨k, CK, dx, _, _, rfl, h, T.cl, T.n_wire, by kernel_rfl, q⟩
theorem g_kind (T : ClK K CK) (h : H k = some (.ins CK dx (kf a c r said n s))) (q : Q (.str (kindS c)) H) : FldOk K "kind" (.ref k) H Q := ⟨k, CK, dx, _, _, rfl, h, T.cl, T.n_kind, by kernel_rfl, q⟩
theorem g_rest (T : ClK K CK) (h : H k = some (.ins CK dx (kf a c r said n s))) (q : Q (.ref r) H) : FldOk K "rest" (.ref k) H Q := ⟨k, CK, dx, _, _, rfl, h, T.cl, T.n_rest, by kernel_rfl, q⟩
theorem g_said (T : ClK K CK) (h : H k = some (.ins CK dx (kf a c r said n s))) (q : Q (tvo said) H) : FldOk K "said" (.ref k) H Q := ⟨k, CK, dx, _, _, rfl, h, T.cl, T.n_said, by kernel_rfl, q⟩
theorem g_saids {b : Bits} (T : ClK K CK) (h : H k = some (.ins CK dx (kf a c r (some b) n s))) (q : Q (.str (B b)) H) : FldOk K "said" (.ref k) H Q := g_said T h q
theorem g_names (T : ClK K CK) (h : H k = some (.ins CK dx (kf a c r said n s))) (q : Q (.ref n) H) : FldOk K "names" (.ref k) H Q := ⟨k, CK, dx, _, _, rfl, h, T.cl, T.n_names, by kernel_rfl, q⟩
theorem g_seen (T : ClK K CK) (h : H k = some (.ins CK dx (kf a c r said n s))) (q : Q (.ref s) H) : FldOk K "seen" (.ref k) H Q := ⟨k, CK, dx, _, _, rfl, h, T.cl, T.n_seen, by kernel_rfl, q⟩
theorem q_said (b : Option Bits) : putF "said" (tvo b) (kf a c r said n s) = kf a c r b n s := by kernel_rfl
theorem t_said {v : V} (b : Option Bits) (T : ClK K CK) (hv : v = tvo b) (h : H k = some (.ins CK dx (kf a c r said n s))) (q : S (upd H k (.ins CK dx (kf a c r b n s)))) : StoOk K "said" v (.ref k) H S := by
  subst hv
  exact ⟨k, CK, dx, _, rfl, h, T.cl, T.n_said, by show 6 < 1000; decide, by rw [q_said]; exact q⟩
end
/-! ### what becomes of the places -/
section
variable {CK k dx a r n s : Addr} {ps : List Addr} {N : KM} {H : Hp}
theorem KAt.kr (g : KAt CK k dx a r n s ps N H) : k ≠ r := ne_of g.ob g.rs (fun q => by cases q)
theorem KAt.kn (g : KAt CK k dx a r n s ps N H) : k ≠ n := ne_of g.ob g.nm (fun q => by cases q)
theorem KAt.ks (g : KAt CK k dx a r n s ps N H) : k ≠ s := ne_of g.ob g.sn (fun q => by cases q)
theorem KAt.np {p : Addr} (g : KAt CK k dx a r n s ps N H) (hp : p ∈ ps) : p ≠ k ∧ p ≠ r ∧ p ≠ n ∧ p ≠ s := by
  obtain ⟨e, he⟩ := g.mem hp
  exact ⟨ne_of he g.ob (fun q => by cases q), ne_of he g.rs (fun q => by cases q), ne_of he g.nm (fun q => by cases q), ne_of he g.sn (fun q => by cases q)⟩
theorem KAt.put_ts {q : Addr} {o : HO} (g : KAt CK k dx a r n s ps N H) (hq : q = k ∨ q = r ∨ q = n ∨ q = s) : ps.map (upd H q o) = N.seen.map fun e => some (sTup e) := by
  rw [← g.ts]
  apply List.map_congr_left
  intro p hp
  obtain ⟨h1, h2, h3, h4⟩ := g.np hp
  rw [upd_ne]
  rcases hq with rfl | rfl | rfl | rfl <;> assumption
theorem KAt.said (g : KAt CK k dx a r n s ps N H) (b : Option Bits) : KAt CK k dx a r n s ps { N with said := b } (upd H k (.ins CK dx (kf a N.kind r b n s))) where
  ob := upd_same
  rs := by rw [upd_ne g.kr.symm]; exact g.rs
  nm := by rw [upd_ne g.kn.symm]; exact g.nm
  sn := by rw [upd_ne g.ks.symm]; exact g.sn
  ts := g.put_ts (.inl rfl)
  rn := g.rn
  rS := g.rS
  nS := g.nS
theorem KAt.rest (g : KAt CK k dx a r n s ps N H) (ls : List Bits) : KAt CK k dx a r n s ps { N with rest := ls } (upd H r (.lst (bvs ls))) where
  ob := by rw [upd_ne g.kr]; exact g.ob
  rs := upd_same
  nm := by rw [upd_ne g.rn.symm]; exact g.nm
  sn := by rw [upd_ne g.rS.symm]; exact g.sn
  ts := g.put_ts (.inr (.inl rfl))
  rn := g.rn
  rS := g.rS
  nS := g.nS
theorem KAt.names (g : KAt CK k dx a r n s ps N H) (ls : List Bits) : KAt CK k dx a r n s ps { N with names := ls } (upd H n (.lst (bvs ls))) where
  ob := by rw [upd_ne g.kn]; exact g.ob
  rs := by rw [upd_ne g.rn]; exact g.rs
  nm := upd_same
  sn := by rw [upd_ne g.nS.symm]; exact g.sn
  ts := g.put_ts (.inr (.inr (.inl rfl)))
  rn := g.rn
  rS := g.rS
  nS := g.nS
theorem KAt.seen {p : Addr} {e : Bits × Bool × Bool} (g : KAt CK k dx a r n s ps N H) (hp : H p = some (sTup e)) : KAt CK k dx a r n s (ps ++ [p]) { N with seen := N.seen ++ [e] } (upd H s (.lst ((ps ++ [p]).map V.ref))) where
  ob := by rw [upd_ne g.ks]; exact g.ob
  rs := by rw [upd_ne g.rS]; exact g.rs
  nm := by rw [upd_ne g.nS]; exact g.nm
  sn := upd_same
  ts := by
    rw [List.map_append, g.put_ts (.inr (.inr (.inr rfl)))]
    simp only [List.map_append, List.map_cons, List.map_nil]
    rw [upd_ne (ne_of hp g.sn (fun q => by cases q)), hp]
  rn := g.rn
  rS := g.rS
  nS := g.nS
theorem KAt.ext {H' : Hp} (g : KAt CK k dx a r n s ps N H) (e : Ext H H') : KAt CK k dx a r n s ps N H' := (oWalk CK k dx a r n s ps N).ext e g
theorem KAt.seen_len (g : KAt CK k dx a r n s ps N H) : ps.length = N.seen.length := by
  have := congrArg List.length g.ts
  simpa using this
end
theorem w_lpop {r : Addr} {ls : List Bits} {H : Hp} {Q : VK} (h : H r = some (.lst (bvs ls))) (hn : ls ≠ []) (k : Q (.str (B (ls.getLastD []))) (upd H r (.lst (bvs ls.dropLast)))) : rPop (.ref r) [] H Q := by
  refine ⟨r, bvs ls, .str (B (ls.getLastD [])), rfl, rfl, h, ?_, ?_⟩
  · rw [← List.getLast?_eq_getElem?]
    unfold bvs
    rw [List.getLast?_map, List.getLastD_eq_getLast?, List.getLast?_eq_some_getLast hn]
    rfl
  · have e : (bvs ls).dropLast = bvs ls.dropLast := by unfold bvs; rw [List.map_dropLast]
    rw [e]
    exact k
theorem w_gcons {g : TG} {t : TGs} {v : V} {vs : List V} {σ : St} {H : Hp} {S : St → Hp → Prop} (k : g v σ H fun σ1 H1 => t vs σ1 H1 S) : gCons g t (v :: vs) σ H S := ⟨v, vs, rfl, k⟩
theorem w_gnil {σ : St} {H : Hp} {S : St → Hp → Prop} (k : S σ H) : gNil [] σ H S := ⟨rfl, k⟩
theorem int_sign (b : Bool) : PySem.intText? (B [b]) = some (if b = true then 1 else 0) := by cases b <;> decide +kernel
/-- what a step tells -/
def dres : Res → PyData
  | .none => .none
  | .found x => .tuple [.str "found", .str (B x)]
  | .lost => .tuple [.str "lost"]
theorem dres_none {r : Res} : dres r = .none ↔ r = .none := by cases r <;> simp [dres]
def dseen (l : List (Bits × Bool × Bool)) : PyData := .list (l.map fun e => .tuple [.str (B e.1), .bool e.2.1, .bool e.2.2])
end Lw
end

section
/-! the law's own rows of a wire and of a walk: dicts with fixed texts as keys -/
namespace Lw
open PySem L2
/-! ### two things as one -/
def Own.two (A B : Own) : Own where
  S := fun H => Sts H [A, B]
  F := A.F ++ B.F
  loc := fun h s => by
    refine ⟨fun o ho => ?_, s.2⟩
    simp only [List.mem_cons, List.not_mem_nil, or_false] at ho
    rcases ho with rfl | rfl
    · exact o.loc (fun b hb => h b (List.mem_append_left _ hb)) (s.1 o List.mem_cons_self)
    · exact o.loc (fun b hb => h b (List.mem_append_right _ hb)) (s.1 o (by simp))
  al := fun s b hb => by
    rcases List.mem_append.mp hb with hb | hb
    · exact A.al (s.1 A List.mem_cons_self) b hb
    · exact B.al (s.1 B (by simp)) b hb
section
variable {H H' : Hp} {l l1 l2 : List Own} {A B A' B' : Own} {K : PySem.W.Frag} {r : Addr}
theorem Sts.two (hA : A.S H) (hB : B.S H) (d : ∀ x ∈ A.F, x ∉ B.F) : Sts H [A, B] := by
  refine ⟨fun o ho => ?_, List.pairwise_cons.mpr ⟨fun V hV => ?_, List.pairwise_cons.mpr ⟨fun V hV => absurd hV (by simp), List.Pairwise.nil⟩⟩⟩
  · simp only [List.mem_cons, List.not_mem_nil, or_false] at ho
    rcases ho with rfl | rfl
    · exact hA
    · exact hB
  · rw [List.mem_singleton.mp hV]
    exact d
theorem Sts.fst (s : Sts H [A, B]) : A.S H := s.1 A List.mem_cons_self
theorem Sts.snd (s : Sts H [A, B]) : B.S H := s.1 B (by simp)
theorem Sts.dis (s : Sts H [A, B]) : ∀ x ∈ A.F, x ∉ B.F := (List.pairwise_cons.mp s.2).1 B (by simp)
theorem Sts.join (s : Sts H (l1 ++ A :: B :: l2)) : Sts H (l1 ++ A.two B :: l2) := by
  obtain ⟨h1, h2⟩ := s
  obtain ⟨p1, p2, p3⟩ := List.pairwise_append.mp h2
  obtain ⟨q1, q2⟩ := List.pairwise_cons.mp p2
  obtain ⟨q3, q4⟩ := List.pairwise_cons.mp q2
  refine ⟨fun V hV => ?_, List.pairwise_append.mpr ⟨p1, List.pairwise_cons.mpr ⟨fun V hV x hx hy => ?_, q4⟩, fun V hV U hU x hx hy => ?_⟩⟩
  · rcases List.mem_append.mp hV with hV | hV
    · exact h1 V (List.mem_append_left _ hV)
    · rcases List.mem_cons.mp hV with rfl | hV
      · exact Sts.two (h1 A (by simp)) (h1 B (by simp)) (q1 B (by simp))
      · exact h1 V (by simp [hV])
  · rcases List.mem_append.mp hx with hx | hx
    · exact q1 V (by simp [hV]) x hx hy
    · exact q3 V hV x hx hy
  · rcases List.mem_cons.mp hU with rfl | hU
    · rcases List.mem_append.mp hy with hy | hy
      · exact p3 V hV A (by simp) x hx hy
      · exact p3 V hV B (by simp) x hx hy
    · exact p3 V hV U (by simp [hU]) x hx hy
theorem Sts.split (s : Sts H (l1 ++ A.two B :: l2)) : Sts H (l1 ++ A :: B :: l2) := by
  obtain ⟨h1, h2⟩ := s
  obtain ⟨p1, p2, p3⟩ := List.pairwise_append.mp h2
  obtain ⟨q1, q2⟩ := List.pairwise_cons.mp p2
  have ab : Sts H [A, B] := h1 (A.two B) (by simp)
  refine ⟨fun V hV => ?_, List.pairwise_append.mpr ⟨p1, List.pairwise_cons.mpr ⟨fun V hV x hx hy => ?_, List.pairwise_cons.mpr ⟨fun V hV x hx hy => q1 V hV x (List.mem_append_right _ hx) hy, q2⟩⟩, fun V hV U hU x hx hy => ?_⟩⟩
  · rcases List.mem_append.mp hV with hV | hV
    · exact h1 V (List.mem_append_left _ hV)
    · rcases List.mem_cons.mp hV with rfl | hV
      · exact ab.fst
      · rcases List.mem_cons.mp hV with rfl | hV
        · exact ab.snd
        · exact h1 V (by simp [hV])
  · rcases List.mem_cons.mp hV with rfl | hV
    · exact ab.dis x hx hy
    · exact q1 V hV x (List.mem_append_left _ hx) hy
  · rcases List.mem_cons.mp hU with rfl | hU
    · exact p3 V hV (U.two B) (by simp) x hx (List.mem_append_left _ hy)
    · rcases List.mem_cons.mp hU with rfl | hU
      · exact p3 V hV (A.two U) (by simp) x hx (List.mem_append_right _ hy)
      · exact p3 V hV U (by simp [hU]) x hx hy
/-- the first of two is written -/
theorem Sts.one (s : Sts H [A, B]) (w : A'.S H') (t : Step A.F A'.F H H') : Sts H' [A', B] := Sts.step (l1 := []) s w t
theorem Sts.other (s : Sts H [A, B]) (w : B'.S H') (t : Step B.F B'.F H H') : Sts H' [A, B'] := Sts.step (l1 := [A]) (l2 := []) s w t
end
/-! ### locks around a making -/
/-! ### the rows of a wire -/
def mf (w : Nat) (t l : Addr) (told : Option Bits) (many : Nat) : List (Key × V) := [(.inr "width", .int (w : Int)), (.inr "things", .ref t), (.inr "listening", .ref l), (.inr "said", tvo told), (.inr "looks", .int (many : Int))]
structure MAt (d t l : Addr) (M : WM) (H : Hp) : Prop where
  ob : H d = some (.dK (mf M.width t l M.told M.many))
  th : H t = some (.dK (tK V.bl M.things))
  li : H l = some (.lst (bvs M.lis))
  dt : d ≠ t
def oM (d t l : Addr) (M : WM) : Own where
  S := MAt d t l M
  F := [d, t, l]
  loc := fun h s => ⟨h _ (by simp) _ s.ob, h _ (by simp) _ s.th, h _ (by simp) _ s.li, s.dt⟩
  al := fun s b hb => by
    simp only [List.mem_cons, List.not_mem_nil, or_false] at hb
    rcases hb with rfl | rfl | rfl
    · exact ⟨_, s.ob, own_dK⟩
    · exact ⟨_, s.th, own_dK⟩
    · exact ⟨_, s.li, own_bvs _⟩
section
variable {d t l : Addr} {M : WM} {H : Hp}
theorem MAt.tl (s : MAt d t l M H) : t ≠ l := ne_of s.th s.li (fun q => by cases q)
end
/-! ### the rows of a walk -/
def jf (c : Bool) (r : Addr) (said : Option Bits) (n s : Addr) : List (Key × V) := [(.inr "kind", .str (kindS c)), (.inr "rest", .ref r), (.inr "said", tvo said), (.inr "found", .ref n), (.inr "paper", .ref s)]
structure JAt (d r n s : Addr) (ps : List Addr) (N : KM) (H : Hp) : Prop where
  ob : H d = some (.dK (jf N.kind r N.said n s))
  rs : H r = some (.lst (bvs N.rest))
  nm : H n = some (.lst (bvs N.names))
  sn : H s = some (.lst (ps.map V.ref))
  ts : ps.map H = N.seen.map fun e => some (sTup e)
  rn : r ≠ n
  rS : r ≠ s
  nS : n ≠ s
section
variable {d r n s : Addr} {ps : List Addr} {N : KM} {H H' : Hp}
theorem JAt.mem (h : JAt d r n s ps N H) {p : Addr} (hp : p ∈ ps) : ∃ e, H p = some (sTup e) := by
  have : H p ∈ ps.map H := List.mem_map_of_mem hp
  rw [h.ts] at this
  obtain ⟨e, _, he⟩ := List.mem_map.mp this
  exact ⟨e, he.symm⟩
theorem JAt.loc (h : ∀ b ∈ [d, r, n, s] ++ ps, ∀ o, H b = some o → H' b = some o) (g : JAt d r n s ps N H) : JAt d r n s ps N H' where
  ob := h _ (by simp) _ g.ob
  rs := h _ (by simp) _ g.rs
  nm := h _ (by simp) _ g.nm
  sn := h _ (by simp) _ g.sn
  ts := by
    rw [← g.ts]
    apply List.map_congr_left
    intro p hp
    obtain ⟨e, he⟩ := g.mem hp
    rw [he]
    exact h p (by simp [hp]) _ he
  rn := g.rn
  rS := g.rS
  nS := g.nS
theorem JAt.al (g : JAt d r n s ps N H) : ∀ b ∈ [d, r, n, s] ++ ps, ∃ o, H b = some o ∧ Ownd o := by
  intro b hb
  rcases List.mem_append.mp hb with hb | hb
  · simp only [List.mem_cons, List.not_mem_nil, or_false] at hb
    rcases hb with rfl | rfl | rfl | rfl
    · exact ⟨_, g.ob, own_dK⟩
    · exact ⟨_, g.rs, own_bvs _⟩
    · exact ⟨_, g.nm, own_bvs _⟩
    · exact ⟨_, g.sn, own_refs _⟩
  · obtain ⟨e, he⟩ := g.mem hb
    exact ⟨_, he, own_tup⟩
theorem JAt.kr (g : JAt d r n s ps N H) : d ≠ r := ne_of g.ob g.rs (fun q => by cases q)
theorem JAt.kn (g : JAt d r n s ps N H) : d ≠ n := ne_of g.ob g.nm (fun q => by cases q)
theorem JAt.ks (g : JAt d r n s ps N H) : d ≠ s := ne_of g.ob g.sn (fun q => by cases q)
theorem JAt.np {p : Addr} (g : JAt d r n s ps N H) (hp : p ∈ ps) : p ≠ d ∧ p ≠ r ∧ p ≠ n ∧ p ≠ s := by
  obtain ⟨e, he⟩ := g.mem hp
  exact ⟨ne_of he g.ob (fun q => by cases q), ne_of he g.rs (fun q => by cases q), ne_of he g.nm (fun q => by cases q), ne_of he g.sn (fun q => by cases q)⟩
theorem JAt.put_ts {q : Addr} {o : HO} (g : JAt d r n s ps N H) (hq : q = d ∨ q = r ∨ q = n ∨ q = s) : ps.map (upd H q o) = N.seen.map fun e => some (sTup e) := by
  rw [← g.ts]
  apply List.map_congr_left
  intro p hp
  obtain ⟨h1, h2, h3, h4⟩ := g.np hp
  rw [upd_ne]
  rcases hq with rfl | rfl | rfl | rfl <;> assumption
theorem JAt.said (g : JAt d r n s ps N H) (b : Option Bits) : JAt d r n s ps { N with said := b } (upd H d (.dK (jf N.kind r b n s))) where
  ob := upd_same
  rs := by rw [upd_ne g.kr.symm]; exact g.rs
  nm := by rw [upd_ne g.kn.symm]; exact g.nm
  sn := by rw [upd_ne g.ks.symm]; exact g.sn
  ts := g.put_ts (.inl rfl)
  rn := g.rn
  rS := g.rS
  nS := g.nS
theorem JAt.rest (g : JAt d r n s ps N H) (ls : List Bits) : JAt d r n s ps { N with rest := ls } (upd H r (.lst (bvs ls))) where
  ob := by rw [upd_ne g.kr]; exact g.ob
  rs := upd_same
  nm := by rw [upd_ne g.rn.symm]; exact g.nm
  sn := by rw [upd_ne g.rS.symm]; exact g.sn
  ts := g.put_ts (.inr (.inl rfl))
  rn := g.rn
  rS := g.rS
  nS := g.nS
theorem JAt.names (g : JAt d r n s ps N H) (ls : List Bits) : JAt d r n s ps { N with names := ls } (upd H n (.lst (bvs ls))) where
  ob := by rw [upd_ne g.kn]; exact g.ob
  rs := by rw [upd_ne g.rn]; exact g.rs
  nm := upd_same
  sn := by rw [upd_ne g.nS.symm]; exact g.sn
  ts := g.put_ts (.inr (.inr (.inl rfl)))
  rn := g.rn
  rS := g.rS
  nS := g.nS
theorem JAt.seen {p : Addr} {e : Bits × Bool × Bool} (g : JAt d r n s ps N H) (hp : H p = some (sTup e)) : JAt d r n s (ps ++ [p]) { N with seen := N.seen ++ [e] } (upd H s (.lst ((ps ++ [p]).map V.ref))) where
  ob := by rw [upd_ne g.ks]; exact g.ob
  rs := by rw [upd_ne g.rS]; exact g.rs
  nm := by rw [upd_ne g.nS]; exact g.nm
  sn := upd_same
  ts := by
    rw [List.map_append, g.put_ts (.inr (.inr (.inr rfl)))]
    simp only [List.map_append, List.map_cons, List.map_nil]
    rw [upd_ne (ne_of hp g.sn (fun q => by cases q)), hp]
  rn := g.rn
  rS := g.rS
  nS := g.nS
theorem JAt.seen_len (g : JAt d r n s ps N H) : ps.length = N.seen.length := by
  have := congrArg List.length g.ts
  simpa using this
end
def oJ (d r n s : Addr) (ps : List Addr) (N : KM) : Own := ⟨JAt d r n s ps N, [d, r, n, s] ++ ps, JAt.loc, JAt.al⟩
/-! ### readings -/
section
variable {d t l r n s : Addr} {w many : Nat} {told said : Option Bits} {c : Bool} {H : Hp} {Q : VK} {S : Hp → Prop}
theorem dgetR {d : Addr} {kvs : List (Key × V)} {k : Str} {v : V} (h : H d = some (.dK kvs)) (e : valV kvs (.inr k) = some v) (q : Q v H) : DgetOk (.ref d) (.str k) H Q := ⟨d, v, rfl, .inl ⟨_, Sum.inr k, .inl h, rfl, e.symm⟩, q⟩
theorem m_width (h : H d = some (.dK (mf w t l told many))) (q : Q (.int (w : Int)) H) : DgetOk (.ref d) (.str "width") H Q := dgetR h (by kernel_rfl) q
theorem m_things (h : H d = some (.dK (mf w t l told many))) (q : Q (.ref t) H) : DgetOk (.ref d) (.str "things") H Q := dgetR h (by kernel_rfl) q
theorem m_lis (h : H d = some (.dK (mf w t l told many))) (q : Q (.ref l) H) : DgetOk (.ref d) (.str "listening") H Q := dgetR h (by kernel_rfl) q
theorem m_saids {b : Bits} (h : H d = some (.dK (mf w t l (some b) many))) (q : Q (.str (B b)) H) : DgetOk (.ref d) (.str "said") H Q := dgetR h (by kernel_rfl) q
theorem m_said (h : H d = some (.dK (mf w t l told many))) (q : Q (tvo told) H) : DgetOk (.ref d) (.str "said") H Q := dgetR h (by kernel_rfl) q
theorem m_looks (h : H d = some (.dK (mf w t l told many))) (q : Q (.int (many : Int)) H) : DgetOk (.ref d) (.str "looks") H Q := dgetR h (by kernel_rfl) q
theorem j_kind (h : H d = some (.dK (jf c r said n s))) (q : Q (.str (kindS c)) H) : DgetOk (.ref d) (.str "kind") H Q := dgetR h (by kernel_rfl) q
theorem j_rest (h : H d = some (.dK (jf c r said n s))) (q : Q (.ref r) H) : DgetOk (.ref d) (.str "rest") H Q := dgetR h (by kernel_rfl) q
theorem j_saids {b : Bits} (h : H d = some (.dK (jf c r (some b) n s))) (q : Q (.str (B b)) H) : DgetOk (.ref d) (.str "said") H Q := dgetR h (by kernel_rfl) q
theorem j_said (h : H d = some (.dK (jf c r said n s))) (q : Q (tvo said) H) : DgetOk (.ref d) (.str "said") H Q := dgetR h (by kernel_rfl) q
theorem j_found (h : H d = some (.dK (jf c r said n s))) (q : Q (.ref n) H) : DgetOk (.ref d) (.str "found") H Q := dgetR h (by kernel_rfl) q
theorem j_paper (h : H d = some (.dK (jf c r said n s))) (q : Q (.ref s) H) : DgetOk (.ref d) (.str "paper") H Q := dgetR h (by kernel_rfl) q
end
/-- [x for x in .. if ..] over texts of signs -/
theorem lcFB {J : It} {j : Nat} {tt : TT} {te : TE} {vs : List Nat} {σ : St} {H : Hp} {Q : VK} {ls : List Bits} (p : Bits → Bool) {Y : Nat → V → Prop} (src : Src J ls.length Y H) (hY : ∀ i x, Y i x → ∃ l, ls[i]? = some l ∧ x = .str (B l)) (hz : ls.length ≤ 100000)
    (hw : ∀ x, wipe ((wipe σ vs).set j (some x)) vs = wipe σ vs)
    (hs : ∀ l H' (NF : Hp → Prop) (NE : VK), l ∈ ls → Ext H H' → (p l = false → NF H') → (p l = true → NE (.str (B l)) H') → tt ((wipe σ vs).set j (some (.str (B l)))) H' fun b H3 => if b = true then te ((wipe σ vs).set j (some (.str (B l)))) H3 NE else NF H3)
    (hd : ∀ q H', H q = none → Ext H H' → H' q = some (.lst (bvs (ls.filter p))) → Q (.ref q) H') : LcB J (gName j) tt te vs σ H Q := by
  refine lcF src (fun i acc => acc = bvs ((ls.take i).filter p)) (by simp [bvs]) (fun i acc h => by rw [h]; exact nsh_bvs _) hz hw (fun i x acc H' NF NE hi y ha e kF kE => ?_) fun q acc H' ha hq e hq2 _ => ?_
  · obtain ⟨l, hl, rfl⟩ := hY i x y
    have etk : ls.take (i + 1) = ls.take i ++ [l] := by
      rw [List.take_succ, hl]
      rfl
    refine hs l H' NF NE (List.mem_of_getElem? hl) e (fun hp => ?_) fun hp => ?_
    · refine kF H' (Ext.refl _) ?_
      rw [ha, etk, List.filter_append]
      simp [hp]
    · refine kE _ H' (Ext.refl _) ?_
      rw [ha, etk, List.filter_append, bvs_snoc]
      simp [hp]
  · rw [List.take_length] at ha
    rw [ha] at hq2
    exact hd q H' hq e hq2
theorem yb {ls : List Bits} {i : Nat} {x : V} (h : (bvs ls)[i]? = some x) : ∃ l, ls[i]? = some l ∧ x = .str (B l) := bvs_get h
theorem src_bits {K : PySem.W.Frag} {a : Addr} {ls : List Bits} {H : Hp} (h : SqL K H a (bvs ls)) : Src (Itl K a) ls.length (fun i x => (bvs ls)[i]? = some x) H := by
  have := src_lst h (nsh_bvs ls)
  rwa [bvs_len] at this
def deedM (M : WM) (wd : Str) (x : Bits) : WM × Str := if wd = "hang" then (if x ∈ M.keys then (M, "there") else (M.hang x, "")) else if x ∈ M.keys then (if wd = "off" then (M.off x, "") else (M.set x (decide (wd = "alarm")), "")) else (M, "not")
theorem w_pnil {σ : St} {H : Hp} {Q : List (V × V) → Hp → Prop} (k : Q [] H) : tPairs [] σ H Q := k
theorem w_pcons {tk tv : TE} {r : List (TE × TE)} {σ : St} {H : Hp} {Q : List (V × V) → Hp → Prop} (k : tk σ H fun x H1 => tv σ H1 fun y H2 => tPairs r σ H2 fun ps H3 => Q ((x, y) :: ps) H3) : tPairs ((tk, tv) :: r) σ H Q := k
end Lw
end

section
/-! the word of an exception; counting in flat lists -/
namespace L2
open PySem PySem.Spec PyProof.Rows
theorem countP_vals {y : V} : ∀ {ys : List V} {us : List Value}, Vals ys us → ys.all flatV = true → us.countP (eqU y) = ys.countP fun z => eqV z y
  | _, _, .nil, _ => rfl
  | z :: zs, u :: us, .cons r t, f => by
    rw [List.all_cons, Bool.and_eq_true] at f
    rw [List.countP_cons, List.countP_cons, countP_vals t f.2, eqU_of r f.1]
section
variable {X : Cx}
def rCntF (K : PySem.W.Frag) : V → List V → Hp → VK → Prop := fun x xs H Q => ∃ (p : Addr) (ys : List V) (y : V), x = .ref p ∧ xs = [y] ∧ SqL K H p ys ∧ flatV y = true ∧ ys.all flatV = true ∧ Q (.int ((ys.countP fun z => eqV z y : Nat) : Int)) H
theorem mt_lcountF : MtR X "list.count" (rCntF X.K) := by
  intro pins s σ H x xs v us Q I rx rxs h
  obtain ⟨p, ys, y, rfl, rfl, hs, fy, fys, q⟩ := h
  cases rx
  obtain ⟨u, rfl, ru⟩ := rxs.one
  obtain ⟨its, rv, ⟨⟨cls, dd, data, sl⟩, n, ho, hc, hdn, hd⟩, hlen⟩ := I.list hs
  simp only at hc hd
  subst hc hd
  refine call_meets PySem.F.slot_list_count ⟨_, ho, rfl⟩ PySem.F.entry_list_count (PySem.F.args_list_count_2 _ _)
    (SeqAt.list_countAt p its.toArray n dd sl u (eqU y)) ⟨ho, fun u' hu' => mem_eqAt ru fy rv fys u' (by simpa using hu'), ?_⟩
  have ec : its.toArray.toList.countP (eqU y) = ys.countP fun z => eqV z y := countP_vals rv fys
  refine ⟨.int ((ys.countP fun z => eqV z y : Nat) : Int), H, I.tok _, ⟨s.toks, ?_⟩, q⟩
  rw [ec]
end
end L2
namespace Lw
open PySem L2
section
variable {X : Cx} {K : PySem.W.Frag}
theorem mtCount (h : X.K = K) : MtR X "list.count" (rCntF K) := h ▸ mt_lcountF
theorem mtIndex (h : X.K = K) : MtR X "list.index" (rIndex K) := h ▸ mt_index
theorem cIsE {a D : Addr} {oe : Obj} {pn : List (Addr × Obj)} (h : X.K = K) (C : L2.ExcC K D) (hz : Zc (.ref D) none oe) (hf : ∃ vs, oe.data = .fields vs) : CallR (X.suite a ((a, oe) :: pn)) (.builtin "isinstance") (rIsE K D a) := by
  subst h
  exact call_isE C hz hf
theorem pe_nev {e : Expr} : PE X e (fun _ _ _ => False) := ⟨fun _ _ _ _ _ _ h => h.elim⟩
theorem suite_by {b : List Stmt} {T : TS} (k : ∀ D σ H, σ.length = X.N.length → T D σ H → ∃ t, PSs X b t ∧ t D σ H) : PSs X b T := ⟨fun pins s σ H D I h => by
  obtain ⟨t, h1, h2⟩ := k D σ H I.len h
  exact h1.run pins s σ H D I h2⟩
end
theorem five {σ : St} (h : σ.length = 5) : ∃ a b c d e, σ = [a, b, c, d, e] := by
  match σ, h with
  | [a, b, c, d, e], _ => exact ⟨a, b, c, d, e, rfl⟩
theorem w_lcount {K : PySem.W.Frag} {p : Addr} {ys : List V} {y : V} {H : Hp} {Q : VK} (h : SqL K H p ys) (fy : flatV y = true) (fys : ys.all flatV = true) (k : Q (.int ((ys.countP fun z => eqV z y : Nat) : Int)) H) : rCntF K (.ref p) [y] H Q := ⟨p, ys, y, rfl, rfl, h, fy, fys, k⟩
theorem w_lindex {K : PySem.W.Frag} {p : Addr} {ys : List V} {y z : V} {j : Nat} {H : Hp} {Q : VK} (h : SqL K H p ys) (fy : flatV y = true) (fys : ys.all flatV = true) (hz : ys[j]? = some z) (hj : eqV z y = true) (hn : ∀ m z, m < j → ys[m]? = some z → eqV z y = false) (k : Q (.int (j : Int)) H) : rIndex K (.ref p) [y] H Q :=
  ⟨p, ys, y, j, z, rfl, rfl, h, fy, fys, hz, hj, hn, k⟩
end Lw
namespace Lw
open PySem L2
/-- the classes of refusals, as the top has made them -/
structure Kinds (K : PySem.W.Frag) (mg : Str → Option Value) where
  c_BusError : Addr
  c_BadWidth : Addr
  c_BadNumber : Addr
  c_BadKind : Addr
  c_BadBit : Addr
  c_There : Addr
  c_NotThere : Addr
  c_NoRound : Addr
  c_Over : Addr
  c_Busy : Addr
  c_BadLooks : Addr
  c_BadRoster : Addr
  c_TooMany : Addr
  c_BadPlan : Addr
  c_BadStep : Addr
  c_BadText : Addr
  m_BusError : mg "BusError" = some (.ref c_BusError)
  m_BadWidth : mg "BadWidth" = some (.ref c_BadWidth)
  m_BadNumber : mg "BadNumber" = some (.ref c_BadNumber)
  m_BadKind : mg "BadKind" = some (.ref c_BadKind)
  m_BadBit : mg "BadBit" = some (.ref c_BadBit)
  m_There : mg "There" = some (.ref c_There)
  m_NotThere : mg "NotThere" = some (.ref c_NotThere)
  m_NoRound : mg "NoRound" = some (.ref c_NoRound)
  m_Over : mg "Over" = some (.ref c_Over)
  m_Busy : mg "Busy" = some (.ref c_Busy)
  m_BadLooks : mg "BadLooks" = some (.ref c_BadLooks)
  m_BadRoster : mg "BadRoster" = some (.ref c_BadRoster)
  m_TooMany : mg "TooMany" = some (.ref c_TooMany)
  m_BadPlan : mg "BadPlan" = some (.ref c_BadPlan)
  m_BadStep : mg "BadStep" = some (.ref c_BadStep)
  m_BadText : mg "BadText" = some (.ref c_BadText)
  kk : ∀ (i j : Nat) (c d : Addr), [c_BadWidth, c_BadNumber, c_BadKind, c_BadBit, c_There, c_NotThere, c_NoRound, c_Over, c_Busy, c_BadLooks, c_BadRoster, c_TooMany, c_BadPlan, c_BadStep, c_BadText][i]? = some c → [c_BadWidth, c_BadNumber, c_BadKind, c_BadBit, c_There, c_NotThere, c_NoRound, c_Over, c_Busy, c_BadLooks, c_BadRoster, c_TooMany, c_BadPlan, c_BadStep, c_BadText][j]? = some d → PySem.W.kitOne K (.ref c) (.ref d) = some (decide (i = j))
  kv : ∀ c, c ∈ [c_BadWidth, c_BadNumber, c_BadKind, c_BadBit, c_There, c_NotThere, c_NoRound, c_Over, c_Busy, c_BadLooks, c_BadRoster, c_TooMany, c_BadPlan, c_BadStep, c_BadText] → PySem.W.kitOne K (.ref c) (.type "ValueError") = some true ∧ L2.ExcC K c ∧ PySem.W.exmOne K (.ref c) (.ref c_BusError) = some true
def Kinds.cs {K : PySem.W.Frag} {mg : Str → Option Value} (g : Kinds K mg) : List Addr := [g.c_BadWidth, g.c_BadNumber, g.c_BadKind, g.c_BadBit, g.c_There, g.c_NotThere, g.c_NoRound, g.c_Over, g.c_Busy, g.c_BadLooks, g.c_BadRoster, g.c_TooMany, g.c_BadPlan, g.c_BadStep, g.c_BadText]
def wordsL : List Str := ["width", "number", "kind", "bit", "there", "not", "round", "over", "busy", "looks", "roster", "many", "plan", "step", "text"]
theorem w_isE {K : PySem.W.Frag} {D a c : Addr} {b : Bool} {H : Hp} {Q : VK} (hk : PySem.W.kitOne K (.ref D) (.ref c) = some b) (k : Q (.bl b) H) : rIsE K D a [.ref a, .ref c] H Q := ⟨.ref c, .ref c, b, rfl, fun _ r => r, hk, k⟩
theorem w_isET {K : PySem.W.Frag} {D a : Addr} {t : String} {b : Bool} {H : Hp} {Q : VK} (hk : PySem.W.kitOne K (.ref D) (.type t) = some b) (k : Q (.bl b) H) : rIsE K D a [.ref a, .ty t] H Q := ⟨.ty t, .type t, b, rfl, fun _ r => r, hk, k⟩
def kbs (i : Nat) : List V := (List.range 15).map fun j => .bl (decide (i = j))
theorem kbs_flat (i : Nat) : (kbs i).all flatV = true := by simp [kbs, flatV]
theorem kbs_count {i : Nat} (h : i < 15) : (kbs i).countP (fun z => eqV z (.bl true)) = 1 := by
  have : ∀ i, i < 15 → (kbs i).countP (fun z => eqV z (.bl true)) = 1 := by decide +kernel
  exact this i h
theorem kbs_at {i : Nat} (h : i < 15) : (kbs i)[i]? = some (.bl true) := by
  unfold kbs
  rw [List.getElem?_map, List.getElem?_range h]
  simp
theorem kbs_no {i m : Nat} {z : V} (hm : m < i) (h : (kbs i)[m]? = some z) : eqV z (.bl true) = false := by
  unfold kbs at h
  rw [List.getElem?_map] at h
  cases e : (List.range 15)[m]? with
  | none => rw [e] at h; cases h
  | some j =>
    rw [e] at h
    have hj : j = m := by
      obtain ⟨h1, h2⟩ := List.getElem?_eq_some_iff.mp e
      simpa using h2.symm
    have hz : z = .bl (decide (i = j)) := (Option.some.inj h).symm
    have : ¬ i = j := by omega
    rw [hz, decide_eq_false this]
    rfl
/-- what becomes of a refusal: its word -/
def WordOk {K : PySem.W.Frag} {mg : Str → Option Value} (g : Kinds K mg) (cls : Value) (d : Option Addr) (H : Hp) (Q : VK) : Prop :=
  ∃ (i : Nat) (c : Addr) (x : Str), g.cs[i]? = some c ∧ wordsL[i]? = some x ∧ i ≠ 9 ∧ i ≠ 13 ∧ i ≠ 14 ∧ cls = .ref c ∧ d = none ∧ ∀ H1, Ext H H1 → Q (.str x) H1
def TWord {K : PySem.W.Frag} {mg : Str → Option Value} (g : Kinds K mg) : (XK → Hp → VK → Prop) → Hp → VK → Prop := fun tl H Q => tl (fun cls d H' => WordOk g cls d H' Q) H fun _ H' => Q (.str "") H'
end Lw
end

section
/-! steps in which tables of code objects may grow -/
namespace Lw
open PySem L2
def NT (H : Hp) (b : Addr) : Prop := ∃ o, H b = some o ∧ (∀ ps, o ≠ .tbl ps) ∧ ∀ a i m z, o = row a i m z → 0 ≤ i
theorem tabs_by {T : List (Addr × Str)} {H H' : Hp} (h : LamX.Tabs T H) (st : ∀ b o, H b = some o → ((∃ ps, o = .tbl ps) ∨ ∃ x, o = .ext x) → H' b = some o) : LamX.Tabs T H' := fun p hp => by
  obtain ⟨ps, h1, h2, h3⟩ := h p hp
  refine ⟨ps, st _ _ h1 (.inl ⟨_, rfl⟩), h2, fun pos cv hc => ?_⟩
  obtain ⟨c, e1, e2⟩ := h3 pos cv hc
  exact ⟨c, e1, st _ _ e2 (.inr ⟨_, rfl⟩)⟩
theorem nsh_tbl {ps} : ¬ RowSh (.tbl ps) := nsh_of fun a i m z e => by cases e
theorem tabs_ext {T : List (Addr × Str)} {H H' : Hp} (h : LamX.Tabs T H) (e : Ext H H') : LamX.Tabs T H' := tabs_by h fun b o hb ho => e.st b o hb (by
  rcases ho with ⟨ps, rfl⟩ | ⟨x, rfl⟩
  · exact nsh_tbl
  · exact nsh_ext)
structure StepN (T : List (Addr × Str)) (F F' : List Addr) (H H' : Hp) : Prop where
  st : ∀ b o, H b = some o → b ∉ F → ¬ RowSh o → (∀ ps, o ≠ .tbl ps) → H' b = some o
  rw_ : ∀ b a i m z, H b = some (row a i m z) → b ∉ F → 0 ≤ i → ∃ i' m' z', H' b = some (row a i' m' z') ∧ 0 ≤ i'
  nw : ∀ b, b ∈ F' → b ∈ F ∨ ¬ NT H b
  tb : LamX.Tabs T H → LamX.Tabs T H'
section
variable {T : List (Addr × Str)} {F F1 F2 F' : List Addr} {H H1 H2 H' : Hp} {K : PySem.W.Frag} {r : Addr}
theorem StepN.of (s : Step F F' H H') (ho : ∀ b ∈ F, ∃ o, H b = some o ∧ Ownd o) : StepN T F F' H H' where
  st := fun b o h n ns _ => s.st b o h n ns
  rw_ := s.rw_
  nw := fun b h => (s.nw b h).imp id fun h ⟨o, e, _⟩ => by rw [h] at e; cases e
  tb := fun h => tabs_by h fun b o hb hx => s.st b o hb (fun q => by
    obtain ⟨u, e, _, _, n1, n2⟩ := ho b q
    rw [hb] at e
    cases e
    rcases hx with ⟨ps, rfl⟩ | ⟨x, rfl⟩
    · exact n1 _ rfl
    · exact n2 _ rfl) (by
    rcases hx with ⟨ps, rfl⟩ | ⟨x, rfl⟩
    · exact nsh_tbl
    · exact nsh_ext)
theorem StepN.ofExt (e : Ext H H') : StepN T F F H H' := ⟨fun b o h _ n _ => e.st b o h n, fun b a i m z h _ hi => e.rw_ b a i m z h hi, fun b h => .inl h, fun h => tabs_ext h e⟩
theorem StepN.lam (e : LamX.ExtN H H') (t : LamX.Tabs T H') : StepN T F F H H' := ⟨fun b o h _ _ n => e b o h n, fun b a i m z h _ hi => ⟨i, m, z, e b _ h (fun ps q => by cases q), hi⟩, fun b h => .inl h, fun _ => t⟩
theorem NT.own {b : Addr} {o : HO} (h : H b = some o) (n : Ownd o) : NT H b := ⟨o, h, n.2.2.1, fun a i m z e => absurd ⟨a, i, m, z, e⟩ n.1⟩
theorem StepN.nt (s : StepN T F F1 H H1) {b : Addr} (n : b ∉ F) (h : NT H b) : NT H1 b := by
  obtain ⟨o, e, n1, n2⟩ := h
  by_cases q : RowSh o
  · obtain ⟨a, i, m, z, rfl⟩ := q
    obtain ⟨i', m', z', h1, hi⟩ := s.rw_ b a i m z e n (n2 _ _ _ _ rfl)
    exact ⟨_, h1, (fun ps q => by cases q), fun a2 i2 m2 z2 e2 => by cases e2; exact hi⟩
  · exact ⟨o, s.st b o e n q n1, n1, n2⟩
theorem StepN.not (s : StepN T F F1 H H1) {b : Addr} (n : b ∉ F) (h : NT H b) : b ∉ F1 := fun q => (s.nw b q).elim n fun z => z h
theorem StepN.trans (s : StepN T F F1 H H1) (t : StepN T F1 F2 H1 H2) : StepN T F F2 H H2 where
  st := fun b o h n ns nt => t.st b o (s.st b o h n ns nt) (s.not n ⟨o, h, nt, fun a i m z e => absurd ⟨a, i, m, z, e⟩ ns⟩) ns nt
  rw_ := fun b a i m z h n hi => by
    obtain ⟨i', m', z', h1, hi'⟩ := s.rw_ b a i m z h n hi
    exact t.rw_ b a i' m' z' h1 (s.not n ⟨_, h, (fun ps q => by cases q), fun a2 i2 m2 z2 e2 => by cases e2; exact hi⟩) hi'
  nw := fun b h => by
    rcases t.nw b h with z | z
    · exact s.nw b z
    · by_cases q : b ∈ F
      · exact .inl q
      · exact .inr fun h => z (s.nt q h)
  tb := fun h => t.tb (s.tb h)
theorem RowOk.stepN (s : StepN T F F' H H') (ho : ∀ b ∈ F, ∃ o, H b = some o ∧ Ownd o) (h : RowOk K H r) : RowOk K H' r := by
  obtain ⟨a, i, m, z, ns, h0, hi, hs⟩ := h
  have nr : r ∉ F := fun q => by
    obtain ⟨o, e, n, _⟩ := ho r q
    rw [h0] at e
    cases e
    exact n ⟨_, _, _, _, rfl⟩
  obtain ⟨i', m', z', h1, hi'⟩ := s.rw_ r a i m z h0 nr hi
  refine ⟨a, i', m', z', ns, h1, hi', ?_⟩
  rcases hs with ⟨o, hs⟩ | hs
  · have na : a ∉ F := fun q => by
      obtain ⟨u, e, _, n, _⟩ := ho a q
      rw [hs] at e
      cases e
      exact n _ _ rfl
    exact .inl ⟨o, s.st a _ hs na nsh_frz (fun ps q => by cases q)⟩
  · exact .inr hs
end
section
variable {T : List (Addr × Str)} {H H' : Hp} {l l1 l2 : List Own} {W W' A B A' B' : Own} {K : PySem.W.Frag} {r : Addr}
theorem Sts.stepN (s : Sts H (l1 ++ W :: l2)) (w : W'.S H') (t : StepN T W.F W'.F H H') : Sts H' (l1 ++ W' :: l2) := by
  obtain ⟨h1, h2⟩ := s
  obtain ⟨p1, p2, p3⟩ := List.pairwise_append.mp h2
  obtain ⟨q1, q2⟩ := List.pairwise_cons.mp p2
  have ap : ∀ V : Own, V ∈ l1 ∨ V ∈ l2 → (∀ x ∈ V.F, x ∉ W.F) ∧ V.S H := fun V hV => by
    rcases hV with hV | hV
    · exact ⟨fun x hx hw => p3 V hV W List.mem_cons_self x hx hw, h1 V (List.mem_append_left _ hV)⟩
    · exact ⟨fun x hx hw => q1 V hV x hw hx, h1 V (List.mem_append_right _ (List.mem_cons_of_mem _ hV))⟩
  have st : ∀ V : Own, V ∈ l1 ∨ V ∈ l2 → V.S H' ∧ ∀ x ∈ V.F, x ∉ W'.F := fun V hV => by
    obtain ⟨na, hS⟩ := ap V hV
    refine ⟨V.loc (fun b hb o ho => ?_) hS, fun x hx hw => ?_⟩
    · obtain ⟨o', e1, n, _, n2, _⟩ := V.al hS b hb
      rw [ho] at e1
      cases e1
      exact t.st b o ho (na b hb) n n2
    · obtain ⟨o, e1, n⟩ := V.al hS x hx
      exact t.not (na x hx) (NT.own e1 n) hw
  refine ⟨fun V hV => ?_, List.pairwise_append.mpr ⟨p1, List.pairwise_cons.mpr ⟨fun V hV x hx hy => (st V (.inr hV)).2 x hy hx, q2⟩, fun V hV U hU x hx hy => ?_⟩⟩
  · rcases List.mem_append.mp hV with hV | hV
    · exact (st V (.inl hV)).1
    · rcases List.mem_cons.mp hV with rfl | hV
      · exact w
      · exact (st V (.inr hV)).1
  · rcases List.mem_cons.mp hU with rfl | hU
    · exact (st V (.inl hV)).2 x hx hy
    · exact p3 V hV U (List.mem_cons_of_mem _ hU) x hx hy
theorem Sts.al (s : Sts H (l1 ++ W :: l2)) : ∀ b ∈ W.F, ∃ o, H b = some o ∧ Ownd o := W.al s.get
theorem Sts.al2 (s : Sts H (l1 ++ A :: B :: l2)) : ∀ b ∈ A.F ++ B.F, ∃ o, H b = some o ∧ Ownd o := (A.two B).al s.join.get
theorem Sts.tabs (s : Sts H (l1 ++ W :: l2)) (t : Step W.F W'.F H H') (h : LamX.Tabs T H) : LamX.Tabs T H' := (StepN.of (T := T) t s.al).tb h
/-- as a lambda is made -/
theorem Sts.lam (s : Sts H l) (e : LamX.ExtN H H') : Sts H' l := ⟨fun V hV => V.loc (fun b hb o ho => by
  obtain ⟨o', e1, _, _, n2, _⟩ := V.al (s.1 V hV) b hb
  rw [ho] at e1
  cases e1
  exact e b o ho n2) (s.1 V hV), s.2⟩
theorem RowOk.lam (e : LamX.ExtN H H') (h : RowOk K H r) : RowOk K H' r := by
  obtain ⟨a, i, m, z, ns, h0, hi, hs⟩ := h
  refine ⟨a, i, m, z, ns, e _ _ h0 (fun ps q => by cases q), hi, ?_⟩
  rcases hs with ⟨o, hs⟩ | hs
  · exact .inl ⟨o, e _ _ hs (fun ps q => by cases q)⟩
  · exact .inr hs
end
end Lw
namespace Lw
open PySem L2 PyProof.Rows
/-- a def that makes lambdas: its code object is told -/
structure FunC (K : PySem.W.Frag) (x qual : Str) (st : Stmt) (f : Addr) (fd : FuncData) (c : Addr) : Prop where
  ex : ∃ (oc : Value) (od : Option Addr) (kV doc pm : Value) (an : Option Addr) (ct : Value) (osl : Array (Option Value)),
    fd = PySem.W.fnOf x qual (defArgs st) (defBody st) (defScope st) .none kV doc pm an (.ref c) ct ∧ K.lookup f = some ⟨oc, od, .func fd, osl⟩ ∧ PySem.W.codeIn K (.ref c) qual = true
  kp : PySem.W.keepIn K (.ref f) = true
theorem FunC.okX {P : Program} {w : World} {K : PySem.W.Frag} {mg : Str → Option Value} {base : Heap} {x qual : Str} {st : Stmt} {f c : Addr} {fd : FuncData} {N ps : List Str} {k : Nat} {sp : Sp} (F : FunC K x qual st f fd c) (S : FnScope N ps (defScope st)) (len : ∀ vs H Q E, sp vs H Q E → vs.length = ps.length)
    (hbody : ∀ (A : Around) (outer : List Env) (s : Shared) (H : Hp) (vs : List V) (Q : VK) (E : XK), Room k (A.deeper (envOfC qual (defScope st) s.heap.objs.size f (.ref c))) → sp vs H Q E →
      ∃ t, PSs (cxOf (L2.CX P w) P w K mg base N qual (defScope st) f (.ref c) A outer s H E) (defBody st) t ∧ t { nx := fun _ H' => Q .non H', rt := Q } (L2.start N vs) H) : FnOk P w K mg base (L2.CX P w) (k + 1) f fd ps sp := by
  obtain ⟨oc, od, kV, doc, pm, an, ct, osl, rfl, lk, hcd⟩ := F.ex
  exact fn_of lk hcd S len fun A outer s H vs Q E hr hsp => hbody A outer s H vs Q E hr hsp
end Lw
end

section
/-! walks of a pool: they end -/
namespace Lw
open PySem L2
theorem nodup_le {α : Type} [DecidableEq α] : ∀ (l m : List α), l.Nodup → (∀ x ∈ l, x ∈ m) → l.length ≤ m.length
  | [], _, _, _ => Nat.zero_le _
  | a :: l, m, h, hs => by
    obtain ⟨h1, h2⟩ := List.nodup_cons.mp h
    have hm : a ∈ m := hs a List.mem_cons_self
    have := nodup_le l (m.erase a) h2 fun x hx => (List.mem_erase_of_ne (fun e => h1 (by rw [← e]; exact hx))).mpr (hs x (List.mem_cons_of_mem _ hx))
    have e := List.length_erase_of_mem hm
    have hp : 0 < m.length := List.length_pos_of_mem hm
    rw [List.length_cons]
    omega
/-- the beginnings of these -/
def Beg (ls : List Bits) (b : Bits) : Prop := b = [] ∨ ∃ x ∈ ls, b <+: x
def begs (n : Nat) (ls : List Bits) : List Bits := [] :: ls.flatMap fun x => (List.range (n - 1)).map fun k => x.take (k + 1)
theorem begs_len (n : Nat) (ls : List Bits) : (begs n ls).length = 1 + ls.length * (n - 1) := by
  unfold begs
  rw [List.length_cons, List.length_flatMap]
  simp only [List.length_map, List.length_range]
  have : ∀ ls : List Bits, (ls.map fun _ => n - 1).sum = ls.length * (n - 1) := by
    intro ls
    induction ls with
    | nil => simp
    | cons x ls ih =>
      rw [List.map_cons, List.sum_cons, ih, List.length_cons, Nat.add_mul]
      omega
  rw [this]
  omega
theorem beg_mem {n : Nat} {ls : List Bits} {b : Bits} (h : Beg ls b) (hl : b.length < n) : b ∈ begs n ls := by
  unfold begs
  rcases h with rfl | ⟨x, hx, hp⟩
  · exact List.mem_cons_self
  · cases b with
    | nil => exact List.mem_cons_self
    | cons c b =>
      refine List.mem_cons_of_mem _ (List.mem_flatMap.mpr ⟨x, hx, List.mem_map.mpr ⟨b.length, List.mem_range.mpr ?_, ?_⟩⟩)
      · rw [List.length_cons] at hl
        omega
      · have := List.prefix_iff_eq_take.mp hp
        rw [List.length_cons] at this
        exact this.symm
/-- a walk on a wire of a pool -/
structure GInv (n : Nat) (ls : List Bits) (M : WM) (N : KM) : Prop where
  hw : M.width = n
  n12 : n ≤ 12
  l40 : ls.length ≤ 40
  hl : ∀ x ∈ ls, x.length = n
  ok : WOk M
  ki : KI n (Beg ls) N
  kp : KP M N
  kl : ∀ x ∈ M.keys, x ∈ ls
  ll : ∀ x ∈ M.lis, x ∈ ls
def KM.mu (N : KM) : Nat := 2 * (441 - N.seen.length) + N.rest.length
section
variable {n : Nat} {ls : List Bits} {M : WM} {N : KM}
theorem GInv.seen (h : GInv n ls M N) : N.seen.length ≤ 441 := by
  have h1 := nodup_le (N.seen.map (·.1)) (begs n ls) h.ki.sd fun b hb => by
    obtain ⟨e, he, rfl⟩ := List.mem_map.mp hb
    obtain ⟨a, b⟩ := h.ki.pe e he
    exact beg_mem b a
  rw [List.length_map, begs_len] at h1
  have h2 : ls.length * (n - 1) ≤ 40 * 11 := Nat.mul_le_mul h.l40 (by have := h.n12; omega)
  omega
theorem GInv.rest (h : GInv n ls M N) : N.rest.length ≤ 442 := by
  have := h.ki.rs
  have := h.seen
  omega
theorem GInv.things (h : GInv n ls M N) : M.things.length ≤ 40 := by
  have := nodup_le M.keys ls h.ok.nd h.kl
  unfold WM.keys at this
  rw [List.length_map] at this
  exact Nat.le_trans this h.l40
theorem GInv.names (h : GInv n ls M N) : N.names.length ≤ 41 := by
  have := nodup_le N.names ([] :: ls) (rise_nodup h.ki.nr) fun x hx => by
    obtain ⟨h1, h2⟩ := h.ki.pn x hx
    rcases h2 with rfl | ⟨y, hy, hp⟩
    · exact List.mem_cons_self
    · have e := List.IsPrefix.eq_of_length hp (by rw [h1, h.hl y hy])
      rw [e]
      exact List.mem_cons_of_mem _ hy
  rw [List.length_cons] at this
  have := h.l40
  omega
theorem GInv.sz (h : GInv n ls M N) (b : Nat) (hb : 442 ≤ b) : N.rest.length ≤ b ∧ N.names.length ≤ b ∧ N.seen.length ≤ b := ⟨Nat.le_trans h.rest hb, Nat.le_trans h.names (by omega), Nat.le_trans h.seen (by omega)⟩
theorem lis_sub {x : Bits} (h : x ∈ (kstep M N).1.lis) : x ∈ M.lis ∨ x ∈ M.keys := by
  cases hs : N.said with
  | none =>
    rw [kstep_none hs] at h
    unfold stepB WM.tell at h
    exact .inr ((begin_sub M N.kind).subset (List.mem_filter.mp h).1)
  | some b =>
    rw [kstep_some hs] at h
    unfold stepL at h
    simp only at h
    split at h
    · exact .inl h
    · exact .inl (List.mem_filter.mp h).1
theorem GInv.kstep (h : GInv n ls M N) (ho : N.over = false) : GInv n ls (kstep M N).1 (kstep M N).2.1 where
  hw := (kstep_width M N).1.trans h.hw
  n12 := h.n12
  l40 := h.l40
  hl := h.hl
  ok := kstep_ok h.ok h.kp ho
  ki := by
    cases hs : N.said with
    | none =>
      have hr : N.rest ≠ [] := fun e => by simp [KM.over, hs, e] at ho
      rw [kstep_none hs]
      exact h.ki.stepB h.hw hs hr
    | some b =>
      rw [kstep_some hs]
      refine h.ki.stepL h.hw hs fun c hc => ?_
      obtain ⟨l, hl, hp⟩ := lookZ_ex.mp hc
      exact .inr ⟨l, h.ll l hl, hp⟩
  kp := h.kp.step ho
  kl := fun x hx => h.kl x (by unfold WM.keys at hx ⊢; rw [(kstep_width M N).2] at hx; exact hx)
  ll := fun x hx => (lis_sub hx).elim (h.ll x) (h.kl x)
theorem GInv.mu (h : GInv n ls M N) (ho : N.over = false) : (Lw.kstep M N).2.1.mu < N.mu := by
  have h2 := (h.kstep ho).seen
  cases hs : N.said with
  | none =>
    have hr : N.rest ≠ [] := fun e => by simp [KM.over, hs, e] at ho
    rw [kstep_none hs] at h2 ⊢
    unfold stepB KM.mu at *
    rw [ended_rest.1, ended_rest.2.1]
    simp only
    have : 0 < N.rest.length := List.length_pos_iff.mpr hr
    rw [List.length_dropLast]
    omega
  | some b =>
    rw [kstep_some hs] at h2 ⊢
    unfold stepL at h2 ⊢
    simp only at h2 ⊢
    split at h2
    · rename_i c
      rw [if_pos c]
      unfold KM.mu
      simp only [List.length_append, List.length_cons, List.length_nil] at h2 ⊢
      omega
    · rename_i c
      rw [if_neg c]
      simp only at h2 ⊢
      unfold KM.mu
      rw [ended_rest.2.1] at h2
      rw [ended_rest.1, ended_rest.2.1]
      split
      · rename_i c2
        rw [if_pos c2] at h2
        simp only [List.length_append, List.length_cons, List.length_nil] at h2 ⊢
        omega
      · rename_i c2
        rw [if_neg c2] at h2
        simp only [List.length_append, List.length_cons, List.length_nil] at h2 ⊢
        omega
theorem GInv.run (h : GInv n ls M N) : ∃ j M1 N1, KRun j M N M1 N1 ∧ j + N1.mu ≤ N.mu ∧ GInv n ls M1 N1 := by
  obtain ⟨m, hm⟩ : ∃ m, m = N.mu := ⟨_, rfl⟩
  induction m using Nat.strongRecOn generalizing M N with
  | _ m ih =>
    cases ho : N.over with
    | true => exact ⟨0, M, N, .last ho, by omega, h⟩
    | false =>
      have h1 := h.mu ho
      obtain ⟨j, M1, N1, hr, hj, hg⟩ := ih _ (by omega) (h.kstep ho) rfl
      exact ⟨j + 1, M1, N1, .more ho hr, by omega, hg⟩
theorem GInv.round {j : Nat} {M1 : WM} {N1 : KM} {r : Res} (h : GInv n ls M N) (ho : N.over = false) (t : KRound j M N M1 N1 r) : GInv n ls M1 N1 ∧ N1.mu < N.mu := by
  induction t with
  | last h2 => exact ⟨h.kstep ho, h.mu ho⟩
  | more h2 t ih =>
    obtain ⟨a, b⟩ := ih (h.kstep ho) (kstep_gap h.kp h2).2
    exact ⟨a, by have := h.mu ho; omega⟩
end
/-- a new walk -/
theorem GInv.new {n : Nat} {ls : List Bits} {M : WM} (c : Bool) (hw : M.width = n) (n12 : n ≤ 12) (l40 : ls.length ≤ 40) (hl : ∀ x ∈ ls, x.length = n) (ok : WOk M) (kl : ∀ x ∈ M.keys, x ∈ ls) (ll : ∀ x ∈ M.lis, x ∈ ls) : GInv n ls M ⟨c, [[]], none, [], []⟩ where
  hw := hw
  n12 := n12
  l40 := l40
  hl := hl
  ok := ok
  ki := ⟨fun g hg => by rw [List.mem_singleton.mp hg]; exact ⟨Nat.zero_le _, .inl rfl⟩, fun b hb => (by cases hb), fun e he => absurd he (by simp), fun x hx => absurd hx (by simp), by simp [KM.pend], fun e he => absurd he (by simp), by simp, fun x hx => absurd hx (by simp), List.Pairwise.nil, by simp⟩
  kp := ⟨fun b hb => (by cases hb), fun g hg => by rw [List.mem_singleton.mp hg]; exact Nat.zero_le _⟩
  kl := kl
  ll := ll
/-! ### what a law carries along -/
structure LG (K : PySem.W.Frag) (TT : List (Addr × Str)) (z : Option (Addr × Obj × HO)) (r : Addr) (H : Hp) : Prop where
  row : RowOk K H r
  tab : LamX.Tabs TT H
  frz : ∀ a o u, z = some (a, o, u) → H a = some (.frz o u)
section
variable {K : PySem.W.Frag} {TT : List (Addr × Str)} {z : Option (Addr × Obj × HO)} {r : Addr} {H H' : Hp} {F F' : List Addr}
theorem LG.ext (g : LG K TT z r H) (e : Ext H H') : LG K TT z r H' := ⟨e.rowOk g.row, tabs_ext g.tab e, fun a o u h => e.st _ _ (g.frz a o u h) nsh_frz⟩
theorem LG.stepN (g : LG K TT z r H) (s : StepN TT F F' H H') (al : ∀ b ∈ F, ∃ o, H b = some o ∧ Ownd o) : LG K TT z r H' := ⟨RowOk.stepN s al g.row, s.tb g.tab, fun a o u h => s.st _ _ (g.frz a o u h) (fun q => by
  obtain ⟨v, e, _, n, _⟩ := al a q
  rw [g.frz a o u h] at e
  cases e
  exact n _ _ rfl) nsh_frz (fun ps q => by cases q)⟩
theorem LG.step (g : LG K TT z r H) (s : Step F F' H H') (al : ∀ b ∈ F, ∃ o, H b = some o ∧ Ownd o) : LG K TT z r H' := g.stepN (StepN.of s al) al
theorem LG.lam (g : LG K TT z r H) (e : LamX.ExtN H H') (t : LamX.Tabs TT H') : LG K TT z r H' := ⟨RowOk.lam e g.row, t, fun a o u h => e _ _ (g.frz a o u h) (fun ps q => by cases q)⟩
end
theorem Step.swap {A B A' B' : List Addr} {H H' : Hp} (z : Step (A ++ B) (A' ++ B') H H') : Step (B ++ A) (B' ++ A') H H' where
  st := fun b o h n ns => z.st b o h (fun q => n (by rw [List.mem_append] at q ⊢; exact q.symm)) ns
  rw_ := fun b a i m y h n hi => z.rw_ b a i m y h (fun q => n (by rw [List.mem_append] at q ⊢; exact q.symm)) hi
  th := z.th
  nw := fun b h => (z.nw b (by rw [List.mem_append] at h ⊢; exact h.symm)).imp (fun q => by rw [List.mem_append] at q ⊢; exact q.symm) id
theorem w_make {C : Addr} {sp : Sp} {E : XK} {t : TA} {σ : St} {H : Hp} {Q : VK} (k : t σ H fun vs H1 => ∀ x dx, H1 x = none → H1 dx = none → dx ≠ x → sp (.ref x :: (vs ++ [])) (upd (upd H1 dx (.own x)) x (.ins C dx [])) (fun v H2 => v = .non ∧ Q (.ref x) H2) E) : tMake C sp [] E t σ H Q := k
theorem ext_make {H : Hp} {x dx C : Addr} (h1 : H x = none) (h2 : H dx = none) (h3 : dx ≠ x) : Ext H (upd (upd H dx (.own x)) x (.ins C dx [])) := (Ext.new h2).mut h1
theorem make_none {H : Hp} {x dx C b : Addr} (h : upd (upd H dx (.own x)) x (.ins C dx []) b = none) : H b = none := by
  by_cases e : b = x
  · rw [e, upd_same] at h
    cases h
  · rw [upd_ne e] at h
    by_cases e2 : b = dx
    · rw [e2, upd_same] at h
      cases h
    · rw [upd_ne e2] at h
      exact h
theorem ext_fresh {H H1 H' : Hp} {a : Addr} {F' : List Addr} (h : H a = none) (e : Ext H H1) (s : Step [a] F' H1 H') : Ext H H' where
  st := fun b o hb n => s.st b o (e.st b o hb n) (fun q => by
    rw [List.mem_singleton.mp q, h] at hb
    cases hb) n
  rw_ := fun b x i m z hb hi => by
    obtain ⟨i', m', z', h1, h2⟩ := e.rw_ b x i m z hb hi
    exact s.rw_ b x i' m' z' h1 (fun q => by
      rw [List.mem_singleton.mp q, h] at hb
      cases hb) h2
  th := fun b o hb => by
    obtain ⟨o1, h1⟩ := e.th b o hb
    exact s.th b o1 h1
theorem Sts.perm {H : Hp} {l l' : List Own} (h : l.Perm l') (s : Sts H l) : Sts H l' := ⟨fun o ho => s.1 o (h.mem_iff.mpr ho), (h.pairwise_iff (fun {a b} r x hx hy => r x hy hx)).mp s.2⟩
theorem Sts.five {H : Hp} {J K M W L : Own} (s : Sts H [J, K, M, W, L]) : Sts H [K, W, M, J, L] := (s.perm ((List.perm_append_comm (l₁ := [J]) (l₂ := [K, M, W])).append_right [L])).perm ((List.Perm.swap W M [J, L]).cons K)
theorem WAt.al3 {CW a dx t l : Addr} {M : WM} {H : Hp} (W : WAt CW a dx t l M H) : ∀ b ∈ [a, t, l], ∃ o, H b = some o ∧ Ownd o := (oWire CW a dx t l M).al W
theorem scut {ts : TS} {D : Ends} {σ : St} {H : Hp} (Mid : St → Hp → Prop) (h2 : ∀ σ1 H1, Mid σ1 H1 → D.nx σ1 H1) (h1 : (∀ σ1 H1, Mid σ1 H1 → D.nx σ1 H1) → ts D σ H) : ts D σ H := h1 h2
section
variable {K : PySem.W.Frag} {i : Nat} {dj r n s : Addr} {ps : List Addr} {N : KM} {σ : St} {H : Hp} {Q : Bool → Hp → Prop}
end
end Lw
end

section
/-! what the head hands over -/
namespace Lw
open PySem L2 PyProof.Rows
theorem mg_none {K : PySem.W.Frag} {h : Heap} {mg : Str → Option Value} {n : Str} (X : K.In h) (G : h.Ns mainGlobals mg) (e : PySem.W.nsIn K mainGlobals n = some none) : mg n = none := PySem.W.mg_none_of X G e
theorem FunC.binds {K : PySem.W.Frag} {x qual : Str} {st : Stmt} {f c : Addr} {fd : FuncData} {ps : List Str} (F : FunC K x qual st f fd c)
    (h : ∀ (kV doc pm : Value) (an : Option Addr) (ct : Value) (us : List Value), us.length = ps.length → bindArgs (PySem.W.fnOf x qual (defArgs st) (defBody st) (defScope st) .none kV doc pm an (.ref c) ct) ⟨us, []⟩ = pure (ps.zip us)) : Binds K fd ps [] := by
  obtain ⟨oc, od, kV, doc, pm, an, ct, osl, rfl, lk, hcd⟩ := F.ex
  exact .all (h kV doc pm an ct)
theorem map_at {α β : Type} {l : List α} {f : α → β} {b : β} (h : l.map f = List.replicate 15 b) {c : α} (hc : c ∈ l) : f c = b := by
  have : f c ∈ l.map f := List.mem_map_of_mem hc
  rw [h] at this
  exact (List.mem_replicate.mp this).2
section
variable {K : PySem.W.Frag} {l : List Addr}
theorem kinds_kk (h : (l.map fun c => l.map fun d => PySem.W.kitOne K (.ref c) (.ref d)) = (List.range 15).map fun i => (List.range 15).map fun j => some (decide (i = j))) :
    ∀ (i j : Nat) (c d : Addr), l[i]? = some c → l[j]? = some d → PySem.W.kitOne K (.ref c) (.ref d) = some (decide (i = j)) := by
  intro i j c d hc hd
  have h1 := congrArg (fun m => m[i]?) h
  simp only [List.getElem?_map, hc, Option.map_some] at h1
  have hl : l.length = 15 := by
    have := congrArg List.length h
    simpa using this
  have hi : i < 15 := by
    have := (List.getElem?_eq_some_iff.mp hc).1
    omega
  have hj : j < 15 := by
    have := (List.getElem?_eq_some_iff.mp hd).1
    omega
  rw [List.getElem?_range hi] at h1
  simp only [Option.map_some] at h1
  have h2 := congrArg (fun m => m[j]?) (Option.some.inj h1)
  simp only [List.getElem?_map, hd, Option.map_some] at h2
  rw [List.getElem?_range hj] at h2
  simp only [Option.map_some] at h2
  exact Option.some.inj h2
theorem kinds_kv {cB : Addr} (kv : l.map (fun c => PySem.W.kitOne K (.ref c) (.type "ValueError")) = List.replicate 15 (some true))
    (kg : l.map (fun c => PySem.W.findIn K (.ref c) "__getattribute__") = List.replicate 15 (some (some (.builtin "BaseException.__getattribute__"))))
    (ka : l.map (fun c => PySem.W.findIn K (.ref c) "__getattr__") = List.replicate 15 (some none)) (ks : l.map (fun c => PySem.W.subIn K (.ref c) (.type "BaseException")) = List.replicate 15 (some true))
    (kh : l.map (fun c => PySem.W.hasDictIn K c) = List.replicate 15 true) (kl : l.map (fun c => PySem.W.findIn K (.ref c) "__class__") = List.replicate 15 (some (some (.builtin "object.__class__"))))
    (km : l.map (fun c => PySem.W.mroIn K c (.type "object")) = List.replicate 15 (some true)) (kb : l.map (fun c => PySem.W.exmOne K (.ref c) (.ref cB)) = List.replicate 15 (some true))
    (kn : PySem.W.specialIn K (.builtin "object.__class__") "__get__" = some (some (.builtin "getset_descriptor.__get__"))) (kt : PySem.W.takesIn K (.builtin "object.__class__") = some true) :
    ∀ c, c ∈ l → PySem.W.kitOne K (.ref c) (.type "ValueError") = some true ∧ L2.ExcC K c ∧ PySem.W.exmOne K (.ref c) (.ref cB) = some true := fun c hc =>
  ⟨map_at kv hc, ⟨map_at kg hc, map_at ka hc, map_at ks hc, map_at kh hc, map_at kl hc, kn, kt, map_at km hc⟩, map_at kb hc⟩
end
end Lw
end

section
open PySem L2 Lw
local macro_rules | `(tactic| tm_at "s") => `(tactic| first
  | with_reducible refine w_seq ?_ | with_reducible refine w_asg ?_ | with_reducible refine w_gname ?_ | with_reducible refine w_ret ?_ | with_reducible refine w_drop ?_ | with_reducible refine w_ifS ?_ | with_reducible refine w_next ?_ | with_reducible refine w_retN ?_
  | with_reducible refine w_c ?_ | ((with_reducible refine w_var (v := ?vv) ?hh ?kk); (case hh => exact rfl)) | with_reducible refine w_op ?_ | with_reducible refine w_un ?_ | with_reducible refine w_cons ?_ | with_reducible refine w_nil ?_ | with_reducible refine w_test ?_ | with_reducible refine w_B ?_
  | with_reducible refine w_isbl ?_ | with_reducible refine w_not ?_ | with_reducible refine w_and ?_ | with_reducible refine w_or ?_ | with_reducible refine w_andV ?_ | with_reducible refine w_orV ?_ | with_reducible refine w_notV ?_ | with_reducible refine w_if ?_ | with_reducible refine w_chain ?_
  | with_reducible refine w_isN ?_ | with_reducible refine w_notN ?_ | with_reducible refine w_yes ?_ | with_reducible refine w_call ?_ | with_reducible refine w_CB ?_ | with_reducible refine w_tup ?_ | with_reducible refine w_lst ?_ | with_reducible refine w_sl ?_ | with_reducible refine w_noPart ?_
  | with_reducible refine w_part ?_ | with_reducible refine w_isint ?_ | with_reducible refine w_gSub ?_ | with_reducible refine w_break ?_ | with_reducible refine w_cont ?_
  | with_reducible refine w_I0 ?_ | with_reducible refine w_eqI ?_ | with_reducible refine w_neI ?_ | with_reducible refine w_eqS ?_ | with_reducible refine w_neS ?_ | with_reducible refine w_eqB ?_ | with_reducible refine w_neB ?_ | ((with_reducible refine w_isi (d := ?dd) ?hh ?kk); (case hh => assumption))
  | with_reducible refine w_sg ?_ | with_reducible refine w_notSg ?_ | with_reducible refine w_starts ?_ | with_reducible refine w_max2 ?_ | with_reducible refine w_min2 ?_ | with_reducible refine w_intB ?_ | with_reducible refine w_intI ?_ | with_reducible refine w_bm ?_ | with_reducible refine w_bm0 ?_ | with_reducible refine w_m1 ?_ | with_reducible refine w_m0 ?_ | with_reducible refine w_isstr ?_
  | with_reducible refine w_for ?_ | with_reducible refine w_lc ?_ | with_reducible refine w_rng ?_ | with_reducible refine w_rng2 ?_ | with_reducible refine w_ilist ?_ | with_reducible refine w_itup ?_ | with_reducible refine w_istr ?_ | with_reducible refine w_strOk ?_
  | ((with_reducible refine w_rngOk ?hh ?h2 ?kk); (case hh => omega); (case h2 => omega)) | ((with_reducible refine w_lstOk (xs := ?xx) ?hh ?kk); (case hh => assumption))
  | ((with_reducible refine w_alL ?hh ?kk); (case hh => exact Nat.le_of_ble_eq_true rfl)) | ((with_reducible refine w_alT ?hh ?kk); (case hh => exact Nat.le_of_ble_eq_true rfl))
  | ((with_reducible refine w_lenL (xs := ?xx) ?hh ?kk); (case hh => assumption)) | ((with_reducible refine w_lenT (xs := ?xx) ?hh ?kk); (case hh => assumption))
  | ((with_reducible refine w_I ?hh ?kk); (case hh => first | (show _ ≠ (0 : Int); omega) | (show (0 : Int) < _; omega) | exact ⟨by omega, by omega⟩ | exact .inl ⟨by omega, by omega⟩ | exact .inr ⟨by omega, by omega⟩ | exact ⟨by decide, by decide, by decide⟩))
  | with_reducible refine w_din ?_ | with_reducible refine w_dnot ?_ | with_reducible refine w_dget ?_ | with_reducible refine w_dput ?_ | with_reducible refine w_fld ?_ | with_reducible refine w_sto ?_ | with_reducible refine w_meth ?_ | with_reducible refine w_pop1 ?_ | with_reducible refine w_pop2 ?_ | with_reducible refine w_ikeys ?_
  | ((with_reducible refine f_width (CW := ?v1) (dx := ?v2) (t := ?v3) (l := ?v4) (w := ?v5) (told := ?v6) (many := ?v7) ?tw ?hh ?kk); (case tw => assumption); (case hh => assumption))
  | ((with_reducible refine f_things (CW := ?v1) (dx := ?v2) (t := ?v3) (l := ?v4) (w := ?v5) (told := ?v6) (many := ?v7) ?tw ?hh ?kk); (case tw => assumption); (case hh => assumption))
  | ((with_reducible refine f_listening (CW := ?v1) (dx := ?v2) (t := ?v3) (l := ?v4) (w := ?v5) (told := ?v6) (many := ?v7) ?tw ?hh ?kk); (case tw => assumption); (case hh => assumption))
  | ((with_reducible refine f_tolds (CW := ?v1) (dx := ?v2) (t := ?v3) (l := ?v4) (w := ?v5) (b := ?v6) (many := ?v7) ?tw ?hh ?kk); (case tw => assumption); (case hh => assumption))
  | ((with_reducible refine f_told (CW := ?v1) (dx := ?v2) (t := ?v3) (l := ?v4) (w := ?v5) (told := ?v6) (many := ?v7) ?tw ?hh ?kk); (case tw => assumption); (case hh => assumption))
  | ((with_reducible refine f_many (CW := ?v1) (dx := ?v2) (t := ?v3) (l := ?v4) (w := ?v5) (told := ?v6) (many := ?v7) ?tw ?hh ?kk); (case tw => assumption); (case hh => assumption))
  | ((with_reducible refine w_ixL (v := ?vv) (xs := ?xx) ?hh ?h2 ?kk); (case hh => assumption); (case h2 => exact rfl)) | ((with_reducible refine w_ixT (v := ?vv) (xs := ?xx) ?hh ?h2 ?kk); (case hh => assumption); (case h2 => exact rfl)))
local macro_rules | `(tactic| tm_at "r") => `(tactic| repeat tm_at "s")
local macro_rules | `(tactic| tm_at "b") => `(tactic| first | refine w_iteT (by with_reducible rfl) ?_ | refine w_iteF (by with_reducible rfl) ?_ | refine w_iteT (by rfl) ?_ | refine w_iteF (by rfl) ?_)
local macro_rules | `(tactic| tm_at "e") => `(tactic| repeat (first | tm_at "s" | tm_at "b"))
namespace My
open PySem L2 Lw
def top (i : Nat) : Stmt := PySem.Challenge.pw_busfind_k01_refused.main.body.getD i (.Pass ⟨0, 0, 0, 0⟩)
structure TxB (mg : Str → Option Value) : Prop where
  n_len : mg "len" = none
  n_range : mg "range" = none
  n_int : mg "int" = none
  n_bool : mg "bool" = none
  n_str : mg "str" = none
  n_tuple : mg "tuple" = none
  n_list : mg "list" = none
  n_set : mg "set" = none
  n_sorted : mg "sorted" = none
  n_max : mg "max" = none
  n_min : mg "min" = none
  n_sum : mg "sum" = none
  n_isinstance : mg "isinstance" = none
  n_enumerate : mg "enumerate" = none
  n_ValueError : mg "ValueError" = none
abbrev s_law_taken : Stmt := top 83
theorem sc_law_taken : FnScope ["_law_row", "_law_many", "_law_found", "_law_cell"] ["_law_row", "_law_many"] (defScope s_law_taken) := ⟨rfl, rfl, rfl, by decide +kernel, rfl, by decide +kernel, by decide +kernel⟩
/-- a draw: some int from 0 up to many; the row goes on -/
def sp_taken (K : PySem.W.Frag) : Sp := fun vs H Q _ => ∃ (r : Addr) (many : Int), vs = [.ref r, .int many] ∧ RowOk K H r ∧ 0 < many ∧ many < 1073741824 ∧ ∀ (x : Int) (H' : Hp), 0 ≤ x → x < many → Ext H H' → Q (.int x) H'
section
variable {P : Program} {w : World} {K : PySem.W.Frag} {mg : Str → Option Value} {base : Heap}
theorem ok_taken {f : Addr} {fd : FuncData} (F : Fun K "_law_taken" "_law_taken" s_law_taken f fd) (T : TxB mg) : FnOk P w K mg base (L2.CX P w) 1 f fd ["_law_row", "_law_many"] (sp_taken K) := by
  refine F.okX sc_law_taken (fun vs H Q E h => ?_) (fun cdv A outer s H vs Q E hr h => ⟨_, (pss_cons (ps_if (pt_cmpR op_gt (pe_ix (ixL (K := K) rfl) (pv 0) pe_int (fun _ _ => rfl)) pe_int (nomark _))
 (pss_cons (ps_set (i := 2) sc_law_taken.nd rfl (by first | exact Or.inl rfl | exact Or.inr rfl) (pe_op op_modN (pe_ix (ixL (K := K) rfl) (pv 0) pe_int (fun _ _ => rfl)) (pv 1)))
 (pss_cons (ps_asg (pe_op op_fdivN (pe_ix (ixL (K := K) rfl) (pv 0) pe_int (fun _ _ => rfl)) (pv 1)) (pg_sub (pv 0) pe_int set_list))
 (pss_one (ps_ret (pv 2)))))
 pss_nil)
 (pss_cons (ps_asg (pe_op op_add (pe_ix (ixL (K := K) rfl) (pv 0) pe_int (fun _ _ => rfl)) pe_int) (pg_sub (pv 0) pe_int set_list))
 (pss_cons (ps_if (pt_cmpR op_gt (pe_ix (ixL (K := K) rfl) (pv 0) pe_int (fun _ _ => rfl)) (pe_callB (cLen (K := K) rfl) (by rfl) T.n_len (by decide +kernel) (pa_cons (pe_ix (ixL (K := K) rfl) (pv 0) pe_int (fun _ _ => rfl)) pa_nil)) (nomark _))
 (pss_cons (ps_asg (pe_op op_mod (pe_op op_add (pe_op op_mul (pe_ix (ixL (K := K) rfl) (pv 0) pe_int (fun _ _ => rfl)) pe_int) pe_int) pe_int) (pg_sub (pv 0) pe_int set_list))
 (pss_one (ps_ret (pe_op op_modN (pe_op op_fdiv (pe_ix (ixL (K := K) rfl) (pv 0) pe_int (fun _ _ => rfl)) pe_int) (pv 1)))))
 pss_nil)
 (pss_cons (ps_set (i := 3) sc_law_taken.nd rfl (by first | exact Or.inl rfl | exact Or.inr rfl) (pe_ix (ixL (K := K) rfl) (pe_ix (ixL (K := K) rfl) (pv 0) pe_int (fun _ _ => rfl)) (pe_op op_sub (pe_ix (ixL (K := K) rfl) (pv 0) pe_int (fun _ _ => rfl)) pe_int) (fun _ _ => rfl)))
 (pss_cons (ps_asg (pe_op op_mod (pe_op op_add (pe_op op_add (pe_op op_mul (pe_ix (ixL (K := K) rfl) (pv 0) pe_int (fun _ _ => rfl)) pe_int) (pv 3)) pe_int) pe_int) (pg_sub (pv 0) pe_int set_list))
 (pss_cons (ps_if (pt_cmpR op_ge (pv 3) (pe_op op_pow pe_int pe_int) (nomark _))
 (pss_one (ps_asg (pe_op op_fdivN (pv 3) (pv 1)) (pg_sub (pv 0) pe_int set_list)))
 pss_nil)
 (pss_one (ps_ret (pe_op op_modN (pv 3) (pv 1)))))))))), ?_⟩)
  · obtain ⟨r, many, rfl, _⟩ := h
    rfl
  · obtain ⟨r, many, rfl, ⟨a, i, m, z, ns, h0, hi, hs⟩, hm, hm2, k⟩ := h
    have hs := hs.sq
    have hR : SqL K H r [.ref a, .int i, .int m, .int z] := SqL.of h0
    have hR : SqL K H r [.ref a, .int i, .int m, .int z] := SqL.of h0
    tm_at "r"
    refine w_iteD (fun c => ?_) fun c => ?_
    · tm_at "r"
      refine w_row3 h0 hi fun H1 h1 e1 => ?_
      tm_at "r"
      exact k _ _ (Int.fmod_nonneg_of_pos _ hm) (Int.fmod_lt_of_pos _ hm) e1
    · tm_at "r"
      refine w_row1 h0 (by omega) fun H1 h1 e1 => ?_
      have hR1 : SqL K H1 r _ := SqL.of h1
      have hs1 : SqL K H1 a (ns.map V.int) := e1.seq (nsh_ints ns) hs
      tm_at "r"
      refine w_iteD (fun c2 => ?_) fun c2 => ?_
      · tm_at "r"
        refine w_row2 h1 (by omega) fun H2 h2 e2 => ?_
        have hR2 : SqL K H2 r _ := SqL.of h2
        tm_at "r"
        exact k _ _ (Int.fmod_nonneg_of_pos _ hm) (Int.fmod_lt_of_pos _ hm) (e1.trans e2)
      · tm_at "r"
        rw [List.length_map] at c2
        obtain ⟨y, hy1, hy2⟩ := atI_in ns (i := i + 1 - 1) (by omega) (by omega)
        refine w_ixL (v := .int y) hs1 (atI_int (by omega) (by rw [List.getElem?_map, hy2]; rfl)) ?_
        tm_at "r"
        refine w_row2 h1 (by omega) fun H2 h2 e2 => ?_
        have hR2 : SqL K H2 r _ := SqL.of h2
        tm_at "r"
        refine w_iteD (fun c3 => ?_) fun c3 => ?_
        · tm_at "r"
          refine w_row3 h2 (by omega) fun H3 h3 e3 => ?_
          tm_at "r"
          exact k _ _ (Int.fmod_nonneg_of_pos _ hm) (Int.fmod_lt_of_pos _ hm) ((e1.trans e2).trans e3)
        · tm_at "r"
          exact k _ _ (Int.fmod_nonneg_of_pos _ hm) (Int.fmod_lt_of_pos _ hm) (e1.trans e2)
end
end My
namespace My
abbrev s_law_number : Stmt := top 86
theorem sc_law_number : FnScope ["_law_row", "_law_width_here", "_law_k"] ["_law_row", "_law_width_here"] (defScope s_law_number) := ⟨rfl, rfl, rfl, by decide +kernel, rfl, by decide +kernel, by decide +kernel⟩
abbrev s_law_width : Stmt := top 89
theorem sc_law_width : FnScope ["_law_row"] ["_law_row"] (defScope s_law_width) := ⟨rfl, rfl, rfl, by decide +kernel, rfl, by decide +kernel, by decide +kernel⟩
abbrev s_law_near : Stmt := top 87
theorem sc_law_near : FnScope ["_law_row", "_law_width_here", "_law_some", "_law_number_here", "_law_many"] ["_law_row", "_law_width_here", "_law_some"] (defScope s_law_near) := ⟨rfl, rfl, rfl, by decide +kernel, rfl, by decide +kernel, by decide +kernel⟩
theorem u_taken {K : PySem.W.Frag} {H : Hp} {Q : VK} {E : XK} {r : Addr} {many : Int} (h : RowOk K H r) (h1 : 0 < many) (h2 : many < 1073741824) (k : ∀ (x : Int) (H' : Hp), 0 ≤ x → x < many → Ext H H' → Q (.int x) H') :
    sp_taken K ([.ref r, .int many] ++ []) H Q E := ⟨r, many, rfl, h, h1, h2, k⟩
/-- a number: some signs -/
def sp_number (K : PySem.W.Frag) : Sp := fun vs H Q _ => ∃ (r : Addr) (n : Int), vs = [.ref r, .int n] ∧ RowOk K H r ∧ 0 ≤ n ∧ n ≤ 1000 ∧ ∀ (l : List Bool) (H' : Hp), (l.length : Int) = n → Ext H H' → Q (.str (B l)) H'
theorem u_number {K : PySem.W.Frag} {H : Hp} {Q : VK} {E : XK} {r : Addr} {n : Int} (h : RowOk K H r) (h1 : 0 ≤ n) (h2 : n ≤ 1000) (k : ∀ (l : List Bool) (H' : Hp), (l.length : Int) = n → Ext H H' → Q (.str (B l)) H') :
    sp_number K ([.ref r, .int n] ++ []) H Q E := ⟨r, n, rfl, h, h1, h2, k⟩
def sp_width (K : PySem.W.Frag) : Sp := fun vs H Q _ => ∃ (r : Addr), vs = [.ref r] ∧ RowOk K H r ∧ ∀ (w : Nat) (H' : Hp), 1 ≤ w → w ≤ 12 → Ext H H' → Q (.int (w : Int)) H'
section
variable {P : Program} {w : World} {K : PySem.W.Frag} {mg : Str → Option Value} {base : Heap}
theorem ok_number {f : Addr} {fd : FuncData} (F : Fun K "_law_number" "_law_number" s_law_number f fd) (T : TxB mg) (C_law_taken : Cal P w K mg base 1 "_law_taken" ["_law_row", "_law_many"] (sp_taken K)) : FnOk P w K mg base (L2.CX P w) 2 f fd ["_law_row", "_law_width_here"] (sp_number K) := by
  refine F.okX sc_law_number (fun vs H Q E h => ?_) (fun cdv A outer s H vs Q E hr h => ⟨_, (pss_one (ps_ret (pe_m1 PySem.F.slot_str_join PySem.F.type_str_join (mJoin (K := K) rfl) pe_str (pe_lc (own := [("_law_k", 2)]) (g := gName 2) (tt := tYes) rfl sc_law_number.nd (pi_range1 rfl T.n_range (pa_cons (pv 1) pa_nil)) (blkOk_by (own := [("_law_k", 2)]) (N := ["_law_row", "_law_width_here", "_law_k"]) (sc := defScope s_law_number) (by decide +kernel)) (fun _ _ _ _ _ => pg_name (i := 2) sc_law_number.nd rfl (Or.inl rfl)) (fun _ _ _ _ _ => pts_nil) (fun _ _ _ _ _ => (pe_ix ix_str pe_str (pe_cal (E := E0) C_law_taken (hr.mono (by first | decide | omega)) passL (pa_cons (pv 0) (pa_cons pe_int pa_nil))) (fun _ _ => rfl))))))), ?_⟩)
  · obtain ⟨r, many, rfl, _⟩ := h
    rfl
  · obtain ⟨r, n, rfl, hrow, hn, hn2, k⟩ := h
    tm_at "r"
    refine lcN src_rng (fun i acc => ∃ bs : List Bool, bs.length = i ∧ acc = bvs (bs.map fun b => [b])) ⟨[], rfl, rfl⟩ (fun i acc ⟨bs, _, e⟩ => by rw [e]; exact nsh_bvs _) (by omega) (fun _ => rfl) (fun i x acc H' NE hi hx ha e kE => ?_) fun p acc H' ha hp e hpa hl => ?_
    · subst hx
      obtain ⟨bs, hb, rfl⟩ := ha
      have hrow := e.rowOk hrow
      tm_at "r"
      refine u_taken hrow (by omega) (by omega) fun x H2 h0 h1 e2 => ?_
      obtain ⟨b, hb2⟩ : ∃ b : Bool, atI [false, true] x = some b := (atI_in [false, true] h0 h1).imp fun b h => h.1
      refine w_ixS (c := bc b) (by decide) (by rw [B_01]; exact B_at hb2) ?_
      exact kE _ _ e2 ⟨bs ++ [b], by simp [hb], by simp [bvs, bv]; rfl⟩
    · obtain ⟨bs, hb, rfl⟩ := ha
      tm_at "r"
      refine ⟨_, p, (bs.map fun b => [b]).map B, rfl, rfl, .inl (by rw [← bvs_strs]; exact SqL.of hpa), ?_, ?_⟩
      · have e1 : (((bs.map fun b => [b]).map B).map (·.length)).sum = bs.length := by
          clear hb hpa hl
          induction bs with
          | nil => rfl
          | cons b bs ih => simp only [List.map_cons, List.sum_cons, ih, B_len, List.length_cons, List.length_nil]; omega
        rw [e1, B_nil, B_len]
        simp
        omega
      · rw [B_nil, join_signs]
        exact k bs H' (by omega) e
theorem ok_width {f : Addr} {fd : FuncData} (F : Fun K "_law_width" "_law_width" s_law_width f fd) (T : TxB mg) (C_law_taken : Cal P w K mg base 1 "_law_taken" ["_law_row", "_law_many"] (sp_taken K)) : FnOk P w K mg base (L2.CX P w) 2 f fd ["_law_row"] (sp_width K) := by
  refine F.okX sc_law_width (fun vs H Q E h => ?_) (fun cdv A outer s H vs Q E hr h => ⟨_, (pss_one (ps_ret (pe_op op_add pe_int (pe_cal (E := E0) C_law_taken (hr.mono (by first | decide | omega)) passL (pa_cons (pv 0) (pa_cons (pe_ix (ixL (K := K) rfl) (pe_lst (pa_cons pe_int (pa_cons pe_int (pa_cons pe_int pa_nil)))) (pe_cal (E := E0) C_law_taken (hr.mono (by first | decide | omega)) passL (pa_cons (pv 0) (pa_cons pe_int pa_nil))) (fun _ _ => rfl)) pa_nil)))))), ?_⟩)
  · obtain ⟨r, rfl, _⟩ := h
    rfl
  · obtain ⟨r, rfl, hrow, k⟩ := h
    tm_at "r"
    intro p H1 hp e1 hp1
    have hrow := e1.rowOk hrow
    tm_at "r"
    refine u_taken hrow (by omega) (by omega) fun x H2 h0 h1 e2 => ?_
    have hrow := e2.rowOk hrow
    obtain ⟨y, hy, hy2⟩ := atI_in [(4 : Int), 7, 12] h0 h1
    have hyb : 1 ≤ y ∧ y ≤ 12 := by
      have := List.mem_of_getElem? hy2
      simp at this
      omega
    refine w_ixL (v := .int y) (xs := [(4 : Int), 7, 12].map V.int) (e2.seq (nsh_ints _) (SqL.of hp1)) (atI_int h0 (by rw [List.getElem?_map, hy2]; rfl)) ?_
    tm_at "r"
    refine u_taken hrow (by omega) (by omega) fun x3 H3 h30 h31 e3 => ?_
    tm_at "r"
    have e : (1 + x3 : Int) = ((1 + x3).toNat : Int) := by omega
    rw [e]
    exact k _ _ (by omega) (by omega) ((e1.trans e2).trans e3)
end
end My
namespace My
abbrev s_law_things : Stmt := top 88
theorem sc_law_things : FnScope ["_law_row", "_law_width_here", "_law_most", "_law_found", "_law_base", "_law_k", "_law_number_here"] ["_law_row", "_law_width_here", "_law_most"] (defScope s_law_things) := ⟨rfl, rfl, rfl, by decide +kernel, rfl, by decide +kernel, by decide +kernel⟩
/-- a number near some -/
def sp_near (K : PySem.W.Frag) : Sp := fun vs H Q _ => ∃ (r p : Addr) (w : Nat) (ls : List (List Bool)), vs = [.ref r, .int (w : Int), .ref p] ∧ RowOk K H r ∧ w ≤ 1000 ∧ SqL K H p (bvs ls) ∧ (∀ l ∈ ls, l.length = w) ∧ ls.length ≤ 1000 ∧ ∀ (l : List Bool) (H' : Hp), l.length = w → Ext H H' → Q (.str (B l)) H'
theorem u_near {K : PySem.W.Frag} {H : Hp} {Q : VK} {E : XK} {r p : Addr} {w : Nat} {ls : List (List Bool)} (h : RowOk K H r) (h1 : w ≤ 1000) (h2 : SqL K H p (bvs ls)) (h3 : ∀ l ∈ ls, l.length = w) (h4 : ls.length ≤ 1000) (k : ∀ (l : List Bool) (H' : Hp), l.length = w → Ext H H' → Q (.str (B l)) H') :
    sp_near K ([.ref r, .int (w : Int), .ref p] ++ []) H Q E := ⟨r, p, w, ls, rfl, h, h1, h2, h3, h4, k⟩
/-- some unlike numbers, rising -/
def sp_things (K : PySem.W.Frag) : Sp := fun vs H Q _ => ∃ (r : Addr) (w most : Nat), vs = [.ref r, .int (w : Int), .int (most : Int)] ∧ RowOk K H r ∧ 1 ≤ w ∧ w ≤ 12 ∧ most ≤ 40 ∧
  ∀ (p : Addr) (ls : List (List Bool)) (H' : Hp), H p = none → Ext H H' → H' p = some (.lst (bvs ls)) → Rise ls → (∀ l ∈ ls, l.length = w) → ls.length ≤ 40 → (most ≤ 11 → ls.length ≤ most) → Q (.ref p) H'
theorem u_things {K : PySem.W.Frag} {H : Hp} {Q : VK} {E : XK} {r : Addr} {w most : Nat} (h : RowOk K H r) (h1 : 1 ≤ w) (h2 : w ≤ 12) (h3 : most ≤ 40)
    (k : ∀ (p : Addr) (ls : List (List Bool)) (H' : Hp), H p = none → Ext H H' → H' p = some (.lst (bvs ls)) → Rise ls → (∀ l ∈ ls, l.length = w) → ls.length ≤ 40 → (most ≤ 11 → ls.length ≤ most) → Q (.ref p) H') :
    sp_things K ([.ref r, .int (w : Int), .int (most : Int)] ++ []) H Q E := ⟨r, w, most, rfl, h, h1, h2, h3, k⟩
section
variable {P : Program} {w : World} {K : PySem.W.Frag} {mg : Str → Option Value} {base : Heap}
theorem ok_near {f : Addr} {fd : FuncData} (F : Fun K "_law_near" "_law_near" s_law_near f fd) (T : TxB mg) (C_law_taken : Cal P w K mg base 1 "_law_taken" ["_law_row", "_law_many"] (sp_taken K)) (C_law_number : Cal P w K mg base 2 "_law_number" ["_law_row", "_law_width_here"] (sp_number K)) :
    FnOk P w K mg base (L2.CX P w) 3 f fd ["_law_row", "_law_width_here", "_law_some"] (sp_near K) := by
  refine F.okX sc_law_near (fun vs H Q E h => ?_) (fun cdv A outer s H vs Q E hr h => ⟨_, (pss_cons (ps_set (i := 3) sc_law_near.nd rfl (by first | exact Or.inl rfl | exact Or.inr rfl) (pe_cal (E := E0) C_law_number (hr.mono (by first | decide | omega)) passL (pa_cons (pv 0) (pa_cons (pv 1) pa_nil))))
 (pss_cons (ps_if (PW.pt (pw_or (pt_cmpR (oEqD (K := K) rfl hr.units) (pv 2) (pe_lst pa_nil) (nomark _)) (pw_or1 (pt_cmpR op_eq (pe_cal (E := E0) C_law_taken (hr.mono (by first | decide | omega)) passL (pa_cons (pv 0) (pa_cons pe_int pa_nil))) pe_int (nomark _)))))
 (pss_one (ps_ret (pv 3)))
 pss_nil)
 (pss_cons (ps_set (i := 4) sc_law_near.nd rfl (by first | exact Or.inl rfl | exact Or.inr rfl) (pe_cal (E := E0) C_law_taken (hr.mono (by first | decide | omega)) passL (pa_cons (pv 0) (pa_cons (pe_op op_add (pv 1) pe_int) pa_nil))))
 (pss_one (ps_ret (pe_op o_addS (pe_slice sl_str (pe_ix (ixL (K := K) rfl) (pv 2) (pe_cal (E := E0) C_law_taken (hr.mono (by first | decide | omega)) passL (pa_cons (pv 0) (pa_cons (pe_callB (cLen (K := K) rfl) (by rfl) T.n_len (by decide +kernel) (pa_cons (pv 2) pa_nil)) pa_nil))) (fun _ _ => rfl)) po_none (po_some (pv 4))) (pe_slice sl_str (pv 3) (po_some (pv 4)) po_none))))))), ?_⟩)
  · obtain ⟨r, p, w, ls, rfl, _⟩ := h
    rfl
  · obtain ⟨r, p, w, ls, rfl, hrow, hw, hp, hl, hl2, k⟩ := h
    tm_at "r"
    refine u_number hrow (by omega) (by omega) fun num H1 hnum e1 => ?_
    have hrow := e1.rowOk hrow
    have hp := e1.seq (nsh_bvs _) hp
    tm_at "r"
    intro q H2 hq e2 hq2
    have hp := e2.seq (nsh_bvs _) hp
    have hrow := e2.rowOk hrow
    refine w_eqLs (ms := []) hp (SqL.of hq2) ?_
    tm_at "r"
    refine w_iteD (fun c => ?_) fun c => ?_
    · refine w_iteT rfl ?_
      tm_at "r"
      exact k num _ (by omega) (e1.trans e2)
    · tm_at "r"
      refine u_taken hrow (by omega) (by omega) fun x H3 hx0 hx1 e3 => ?_
      have hp := e3.seq (nsh_bvs _) hp
      have hrow := e3.rowOk hrow
      tm_at "r"
      refine w_iteD (fun c2 => ?_) fun c2 => ?_
      · tm_at "r"
        exact k num _ (by omega) ((e1.trans e2).trans e3)
      · tm_at "r"
        refine u_taken hrow (by omega) (by omega) fun many H4 hm0 hm1 e4 => ?_
        have hp := e4.seq (nsh_bvs _) hp
        have hrow := e4.rowOk hrow
        tm_at "r"
        have hpos : 0 < ls.length := List.length_pos_iff.mpr c
        refine u_taken hrow (by rw [bvs_len]; omega) (by rw [bvs_len]; omega) fun y H5 hy0 hy1 e5 => ?_
        have hp := e5.seq (nsh_bvs _) hp
        rw [bvs_len] at hy1
        obtain ⟨l, hl0, hl1⟩ := atI_in ls hy0 hy1
        have hlw := hl l (List.mem_of_getElem? hl1)
        refine w_ixL hp (bvs_atI hl0) ?_
        tm_at "r"
        obtain ⟨m, rfl⟩ : ∃ m : Nat, many = (m : Int) := ⟨many.toNat, by omega⟩
        refine w_slS (by rw [B_len]; omega) ?_
        tm_at "r"
        refine w_slS (by rw [B_len]; omega) ?_
        rw [cutS_to, cutS_from]
        refine w_addS (by rw [B_len, B_len, List.length_take, List.length_drop]; omega) ?_
        rw [B_app]
        exact k _ _ (by rw [List.length_append, List.length_take, List.length_drop]; omega) ((((e1.trans e2).trans e3).trans e4).trans e5)
theorem ok_things {f : Addr} {fd : FuncData} (F : Fun K "_law_things" "_law_things" s_law_things f fd) (T : TxB mg) (C_law_taken : Cal P w K mg base 1 "_law_taken" ["_law_row", "_law_many"] (sp_taken K)) (C_law_number : Cal P w K mg base 2 "_law_number" ["_law_row", "_law_width_here"] (sp_number K))
    (C_law_near : Cal P w K mg base 3 "_law_near" ["_law_row", "_law_width_here", "_law_some"] (sp_near K)) : FnOk P w K mg base (L2.CX P w) 4 f fd ["_law_row", "_law_width_here", "_law_most"] (sp_things K) := by
  refine F.okX sc_law_things (fun vs H Q E h => ?_) (fun cdv A outer s H vs Q E hr h => ⟨_, (pss_cons (ps_set (i := 3) sc_law_things.nd rfl (by first | exact Or.inl rfl | exact Or.inr rfl) (pe_lst pa_nil))
 (C8.pss_cut (ps_if (PW.pt (pw_and (pt_cmpR op_gt (pv 2) pe_int (nomark _)) (pw_and1 (pt_cmpR op_eq (pe_cal (E := E0) C_law_taken (hr.mono (by first | decide | omega)) passL (pa_cons (pv 0) (pa_cons pe_int pa_nil))) pe_int (nomark _)))))
 (pss_cons (ps_set (i := 4) sc_law_things.nd rfl (by first | exact Or.inl rfl | exact Or.inr rfl) (pe_ix (ixL (K := K) rfl) (pe_lst (pa_cons (pe_cal (E := E0) C_law_number (hr.mono (by first | decide | omega)) passL (pa_cons (pv 0) (pa_cons (pv 1) pa_nil))) (pa_cons (pe_op op_repS pe_str (pv 1)) pa_nil))) (pe_cal (E := E0) C_law_taken (hr.mono (by first | decide | omega)) passL (pa_cons (pv 0) (pa_cons pe_int pa_nil))) (fun _ _ => rfl)))
 (pss_cons (ps_for (passes_of rfl) rfl (pi_range1 rfl T.n_range (pa_cons (pv 1) pa_nil)) (pg_name (i := 5) sc_law_things.nd rfl (by first | exact Or.inl rfl | exact Or.inr rfl))
 (pss_one (ps_expr (pBm (K := K) rfl PySem.F.plainAttrs_list PySem.F.slot_list_append PySem.F.type_list_append mt_append (pv 3) (pa_cons (pe_op o_addS (pe_op o_addS (pe_slice sl_str (pv 4) po_none (po_some (pv 5))) (pe_ix ix_str pe_str (pe_callTy c_intS (by rfl) T.n_int (by decide +kernel) (pa_cons (pe_ix ix_str (pv 4) (pv 5) (fun _ _ => rfl)) pa_nil)) (fun _ _ => rfl))) (pe_slice sl_str (pe_cal (E := E0) C_law_number (hr.mono (by first | decide | omega)) passL (pa_cons (pv 0) (pa_cons (pv 1) pa_nil))) (po_some (pe_op op_add (pv 5) pe_int)) po_none)) pa_nil)))))
 (pss_one (ps_ret (pe_callB (cSortS (K := K) rfl) (by rfl) T.n_sorted (by decide +kernel) (pa_cons (pe_op op_cat (pe_slice (slL (K := K) rfl) (pv 3) po_none (po_some (pe_callB (c_max2 rfl) (by rfl) T.n_max (by decide +kernel) (pa_cons (pe_op op_sub (pv 1) (pe_cal (E := E0) C_law_taken (hr.mono (by first | decide | omega)) passL (pa_cons (pv 0) (pa_cons pe_int pa_nil)))) (pa_cons (pe_cal (E := E0) C_law_taken (hr.mono (by first | decide | omega)) passL (pa_cons (pv 0) (pa_cons (pe_op op_add (pv 1) pe_int) pa_nil))) pa_nil))))) (pe_lst (pa_cons (pv 4) pa_nil))) pa_nil))))))
 pss_nil)
 (pss_cons (ps_for (passes_of rfl) rfl (pi_range1 rfl T.n_range (pa_cons (pe_cal (E := E0) C_law_taken (hr.mono (by first | decide | omega)) passL (pa_cons (pv 0) (pa_cons (pe_op op_add (pv 2) pe_int) pa_nil))) pa_nil)) (pg_name (i := 5) sc_law_things.nd rfl (by first | exact Or.inl rfl | exact Or.inr rfl))
 (pss_cons (ps_set (i := 6) sc_law_things.nd rfl (by first | exact Or.inl rfl | exact Or.inr rfl) (pe_cal (E := E0) C_law_near (hr.mono (by first | decide | omega)) passL (pa_cons (pv 0) (pa_cons (pv 1) (pa_cons (pv 3) pa_nil)))))
 (pss_one (ps_if (pt_cmpR (oNotIn (K := K) rfl) (pv 6) (pv 3) (by rfl))
 (pss_one (ps_expr (pBm (K := K) rfl PySem.F.plainAttrs_list PySem.F.slot_list_append PySem.F.type_list_append mt_append (pv 3) (pa_cons (pv 6) pa_nil))))
 pss_nil))))
 (pss_one (ps_ret (pe_callB (cSortS (K := K) rfl) (by rfl) T.n_sorted (by decide +kernel) (pa_cons (pv 3) pa_nil))))))), ?_⟩)
  · obtain ⟨r, w, most, rfl, _⟩ := h
    rfl
  · obtain ⟨r, w, most, rfl, hrow0, hw1, hw2, hmost, k⟩ := h
    tm_at "r"
    intro p H1 hp e1 hp1
    have hrow := e1.rowOk hrow0
    tm_at "r"
    refine ⟨fun σ2 H2 => ∃ v4 : Option V, σ2 = [some (.ref r), some (.int (w : Int)), some (.int (most : Int)), some (.ref p), v4, none, none] ∧ Ext H H2 ∧ H2 p = some (.lst []), ?_, ?_⟩
    · tm_at "r"
      refine w_iteD (fun c => ?_) fun c => ?_
      · tm_at "r"
        refine u_taken hrow (by omega) (by omega) fun x H2 hx0 hx1 e2 => ?_
        have hrow := e2.rowOk hrow
        have hp1 := e2.lst hp1 nsh_nil
        tm_at "r"
        refine w_iteD (fun c2 => ?_) fun c2 => ?_
        · tm_at "r"
          refine u_number hrow (by omega) (by omega) fun num H3 hnum e3 => ?_
          have hrow := e3.rowOk hrow
          have hp1 := e3.lst hp1 nsh_nil
          tm_at "r"
          refine ⟨48, (w : Int), by decide +kernel, rfl, by omega, by omega, ?_⟩
          have erep : (⟨(List.replicate ((w : Int)).toNat 48).toArray⟩ : Str) = B (List.replicate w false) := B_rep false w
          rw [erep]
          tm_at "r"
          intro q H4 hq e4 hq4
          have hp1 := e4.lst hp1 nsh_nil
          have hrow := e4.rowOk hrow
          tm_at "r"
          refine u_taken hrow (by omega) (by omega) fun x H5 hx0 hx1 e5 => ?_
          have hq4 : SqL K H4 q (bvs [num, List.replicate w false]) := SqL.of hq4
          have hq4 := e5.seq (nsh_bvs _) hq4
          have hp1 := e5.lst hp1 nsh_nil
          have hrow := e5.rowOk hrow
          obtain ⟨bs, hb0, hb1⟩ := atI_in [num, List.replicate w false] hx0 hx1
          have hbw : bs.length = w := by
            have := List.mem_of_getElem? hb1
            simp at this
            rcases this with rfl | rfl
            · omega
            · simp
          refine w_ixL hq4 (bvs_atI hb0) ?_
          tm_at "r"
          have eH : Ext H H5 := (((e1.trans e2).trans e3).trans e4).trans e5
          refine forR (fun i σ2 H2 => ∃ (ms : List (List Bool)) (v : Option V), σ2 = [some (.ref r), some (.int (w : Int)), some (.int (most : Int)), some (.ref p), some (.str (B bs)), v, none] ∧ Ext H H2 ∧ H2 p = some (.lst (bvs ms)) ∧ ms.length = i ∧ Parts bs ms)
            ⟨[], none, rfl, eH, hp1, rfl, fun k m hk => by simp at hk⟩ ?_ ?_
          · rintro i σ2 H6 N hi ⟨ms, v, rfl, eH, hp6, hms, hP⟩ kN
            have hrow := eH.rowOk hrow0
            have hiw : i < w := by omega
            tm_at "r"
            refine w_tyL (SqL.of hp6) ?_
            tm_at "r"
            refine w_slS (by rw [B_len]; omega) ?_
            have e0 : (0 : Int) + (i : Int) = (i : Int) := by omega
            rw [e0, cutS_to]
            tm_at "r"
            obtain ⟨b, hb⟩ : ∃ b, bs[i]? = some b := ⟨bs[i], List.getElem?_eq_getElem (by omega)⟩
            refine w_ixS (by rw [B_len]; omega) (B_at (atI_k hb)) ?_
            tm_at "r"
            rw [B_one]
            refine w_intS (digit_int b) (by rw [B_len]; exact Nat.le_of_ble_eq_true rfl) ?_
            have hx : atI [true, false] (if b then (1 : Int) else 0) = some (!b) := by cases b <;> rfl
            refine w_ixS (c := bc (!b)) (by decide) (by rw [B_10]; exact B_at hx) ?_
            rw [B_one]
            refine w_addS (by rw [B_len, B_len, List.length_take]; simp; omega) ?_
            rw [B_app]
            tm_at "r"
            refine u_number hrow (by omega) (by omega) fun num2 H7 hnum2 e7 => ?_
            tm_at "r"
            refine w_slS (by rw [B_len]; omega) ?_
            have e2 : (i : Int) + 1 = ((i + 1 : Nat) : Int) := by omega
            rw [e2, cutS_from]
            refine w_addS (by rw [B_len, B_len, List.length_append, List.length_take, List.length_drop]; simp; omega) ?_
            rw [B_app]
            tm_at "r"
            have hp7 := e7.lst hp6 (nsh_bvs _)
            refine w_append hp7 (by rw [bvs_len]; omega) ?_
            refine kN _ _ ⟨ms ++ [bs.take i ++ [!b] ++ num2.drop (i + 1)], _, rfl, (eH.trans e7).mut hp, ?_, by simp [hms], ?_⟩
            · rw [upd_same, bvs_snoc]
            · subst hms
              exact hP.snoc hb (by rw [List.length_drop]; omega)
          · rintro σ2 H6 ⟨ms, v, rfl, eH, hp6, hms, hP⟩
            have hrow := eH.rowOk hrow0
            tm_at "r"
            refine u_taken hrow (by omega) (by omega) fun x H7 hx0 hx1 e7 => ?_
            have hrow := e7.rowOk hrow
            tm_at "r"
            refine u_taken hrow (by omega) (by omega) fun y H8 hy0 hy1 e8 => ?_
            have hp8 := e8.lst (e7.lst hp6 (nsh_bvs _)) (nsh_bvs _)
            tm_at "r"
            obtain ⟨m, hm⟩ : ∃ m : Nat, (if y > (w : Int) - x then y else (w : Int) - x) = (m : Int) := ⟨(if y > (w : Int) - x then y else (w : Int) - x).toNat, by split <;> omega⟩
            rw [hm]
            refine w_slL (SqL.of hp8) fun c1 H9 hc1 e9 hc9 => ?_
            rw [cutV_to, bvs_take] at hc9
            tm_at "r"
            intro c2 H10 hc2 e10 hc10
            have hc9 := e10.lst hc9 (nsh_bvs _)
            refine w_cat (ys := bvs [bs]) hc9 hc10 (by rw [bvs_len, List.length_take, bvs_len]; simp; omega) fun c3 H11 hc3 e11 hc11 => ?_
            rw [bvs_append] at hc11
            tm_at "r"
            have hw : ∀ l ∈ ms.take m ++ [bs], l.length = w := fun l hl => by
              rcases List.mem_append.mp hl with hl | hl
              · obtain ⟨i, hi⟩ := List.mem_iff_getElem?.mp (List.mem_of_mem_take hl)
                rw [(hP i l hi).1, hbw]
              · simp at hl
                rw [hl, hbw]
            refine w_sortS (SqL.of hc11) (by rw [List.length_append, List.length_take]; simp; omega) (hP.nodup m) fun zs l H12 hz rz hl e12 hl12 => ?_
            have eA : Ext H H12 := (((((eH.trans e7).trans e8).trans e9).trans e10).trans e11).trans e12
            refine k l zs H12 ?_ eA hl12 rz (fun z hz2 => hw z (hz.mem_iff.mp hz2)) ?_ (fun h => by omega)
            · exact (((((eH.trans e7).trans e8).trans e9).trans e10).trans e11).free hl
            · rw [hz.length_eq, List.length_append, List.length_take]; simp; omega
        · tm_at "r"
          exact ⟨none, rfl, e1.trans e2, hp1⟩
      · tm_at "r"
        exact ⟨none, rfl, e1, hp1⟩
    · rintro σ2 H2 ⟨v4, rfl, e2, hp2⟩
      have hrow := e2.rowOk hrow0
      tm_at "r"
      refine u_taken hrow (by omega) (by omega) fun x H3 hx0 hx1 e3 => ?_
      tm_at "r"
      refine forR (fun i σ2 H2 => ∃ (ms : List (List Bool)) (v v2 : Option V), σ2 = [some (.ref r), some (.int (w : Int)), some (.int (most : Int)), some (.ref p), v4, v, v2] ∧ Ext H H2 ∧ H2 p = some (.lst (bvs ms)) ∧ ms.length ≤ i ∧ ms.Nodup ∧ (∀ l ∈ ms, l.length = w))
        ⟨[], none, none, rfl, e2.trans e3, e3.lst hp2 nsh_nil, Nat.le_refl _, List.nodup_nil, fun l hl => by simp at hl⟩ ?_ ?_
      · rintro i σ2 H6 N hi ⟨ms, v, v2, rfl, eH, hp6, hms, nd, hw⟩ kN
        have hrow := eH.rowOk hrow0
        tm_at "r"
        refine u_near hrow (by omega) (SqL.of hp6) hw (by omega) fun l H7 hl e7 => ?_
        have hp7 := e7.lst hp6 (nsh_bvs _)
        tm_at "r"
        refine w_in (SqL.of hp7) rfl (bvs_flat _) ?_
        rw [inV_bvs]
        tm_at "r"
        refine w_iteN (fun c => ?_) fun c => ?_
        · tm_at "r"
          refine w_tyL (SqL.of hp7) ?_
          tm_at "r"
          refine w_append hp7 (by rw [bvs_len]; omega) ?_
          refine kN _ _ ⟨ms ++ [l], _, _, rfl, (eH.trans e7).mut hp, by rw [upd_same, bvs_snoc], by simp; omega, ?_, fun z hz => ?_⟩
          · exact List.nodup_append.mpr ⟨nd, by simp, fun a ha b hb e => by simp at hb; subst hb; subst e; exact c ha⟩
          · rcases List.mem_append.mp hz with hz | hz
            · exact hw z hz
            · simp at hz
              rw [hz, hl]
        · tm_at "r"
          exact kN _ _ ⟨ms, _, _, rfl, eH.trans e7, hp7, by omega, nd, hw⟩
      · rintro σ2 H6 ⟨ms, v, v2, rfl, eH, hp6, hms, nd, hw⟩
        tm_at "r"
        refine w_sortS (SqL.of hp6) (by omega) nd fun zs l H7 hz rz hl e7 hl7 => ?_
        exact k l zs H7 (eH.free hl) (eH.trans e7) hl7 rz (fun z hz2 => hw z (hz.mem_iff.mp hz2)) (by rw [hz.length_eq]; omega) (fun h => by rw [hz.length_eq]; omega)
end
end My
end

section
open PySem L2 Lw
local macro_rules | `(tactic| tm_at "s") => `(tactic| first
  | with_reducible refine w_seq ?_ | with_reducible refine w_asg ?_ | with_reducible refine w_gname ?_ | with_reducible refine w_ret ?_ | with_reducible refine w_drop ?_ | with_reducible refine w_ifS ?_ | with_reducible refine w_next ?_ | with_reducible refine w_retN ?_
  | with_reducible refine w_c ?_ | ((with_reducible refine w_var (v := ?vv) ?hh ?kk); (case hh => exact rfl)) | with_reducible refine w_op ?_ | with_reducible refine w_un ?_ | with_reducible refine w_cons ?_ | with_reducible refine w_nil ?_ | with_reducible refine w_test ?_ | with_reducible refine w_B ?_
  | with_reducible refine w_isbl ?_ | with_reducible refine w_not ?_ | with_reducible refine w_and ?_ | with_reducible refine w_or ?_ | with_reducible refine w_andV ?_ | with_reducible refine w_orV ?_ | with_reducible refine w_notV ?_ | with_reducible refine w_if ?_ | with_reducible refine w_chain ?_
  | with_reducible refine w_isN ?_ | with_reducible refine w_notN ?_ | with_reducible refine w_yes ?_ | with_reducible refine w_call ?_ | with_reducible refine w_CB ?_ | with_reducible refine w_tup ?_ | with_reducible refine w_lst ?_ | with_reducible refine w_sl ?_ | with_reducible refine w_noPart ?_
  | with_reducible refine w_part ?_ | with_reducible refine w_isint ?_ | with_reducible refine w_gSub ?_ | with_reducible refine w_break ?_ | with_reducible refine w_cont ?_
  | with_reducible refine w_I0 ?_ | with_reducible refine w_eqI ?_ | with_reducible refine w_neI ?_ | with_reducible refine w_eqS ?_ | with_reducible refine w_neS ?_ | with_reducible refine w_eqB ?_ | with_reducible refine w_neB ?_ | ((with_reducible refine w_isi (d := ?dd) ?hh ?kk); (case hh => assumption))
  | with_reducible refine w_sg ?_ | with_reducible refine w_notSg ?_ | with_reducible refine w_starts ?_ | with_reducible refine w_max2 ?_ | with_reducible refine w_min2 ?_ | with_reducible refine w_intB ?_ | with_reducible refine w_intI ?_ | with_reducible refine w_bm ?_ | with_reducible refine w_bm0 ?_ | with_reducible refine w_m1 ?_ | with_reducible refine w_m0 ?_ | with_reducible refine w_isstr ?_
  | with_reducible refine w_for ?_ | with_reducible refine w_lc ?_ | with_reducible refine w_rng ?_ | with_reducible refine w_rng2 ?_ | with_reducible refine w_ilist ?_ | with_reducible refine w_itup ?_ | with_reducible refine w_istr ?_ | with_reducible refine w_strOk ?_
  | ((with_reducible refine w_rngOk ?hh ?h2 ?kk); (case hh => omega); (case h2 => omega)) | ((with_reducible refine w_lstOk (xs := ?xx) ?hh ?kk); (case hh => assumption))
  | ((with_reducible refine w_alL ?hh ?kk); (case hh => exact Nat.le_of_ble_eq_true rfl)) | ((with_reducible refine w_alT ?hh ?kk); (case hh => exact Nat.le_of_ble_eq_true rfl))
  | ((with_reducible refine w_lenL (xs := ?xx) ?hh ?kk); (case hh => assumption)) | ((with_reducible refine w_lenT (xs := ?xx) ?hh ?kk); (case hh => assumption))
  | ((with_reducible refine w_I ?hh ?kk); (case hh => first | (show _ ≠ (0 : Int); omega) | (show (0 : Int) < _; omega) | exact ⟨by omega, by omega⟩ | exact .inl ⟨by omega, by omega⟩ | exact .inr ⟨by omega, by omega⟩ | exact ⟨by decide, by decide, by decide⟩))
  | with_reducible refine w_din ?_ | with_reducible refine w_dnot ?_ | with_reducible refine w_dget ?_ | with_reducible refine w_dput ?_ | with_reducible refine w_fld ?_ | with_reducible refine w_sto ?_ | with_reducible refine w_meth ?_ | with_reducible refine w_pop1 ?_ | with_reducible refine w_pop2 ?_ | with_reducible refine w_ikeys ?_
  | ((with_reducible refine f_width (CW := ?v1) (dx := ?v2) (t := ?v3) (l := ?v4) (w := ?v5) (told := ?v6) (many := ?v7) ?tw ?hh ?kk); (case tw => assumption); (case hh => assumption))
  | ((with_reducible refine f_things (CW := ?v1) (dx := ?v2) (t := ?v3) (l := ?v4) (w := ?v5) (told := ?v6) (many := ?v7) ?tw ?hh ?kk); (case tw => assumption); (case hh => assumption))
  | ((with_reducible refine f_listening (CW := ?v1) (dx := ?v2) (t := ?v3) (l := ?v4) (w := ?v5) (told := ?v6) (many := ?v7) ?tw ?hh ?kk); (case tw => assumption); (case hh => assumption))
  | ((with_reducible refine f_tolds (CW := ?v1) (dx := ?v2) (t := ?v3) (l := ?v4) (w := ?v5) (b := ?v6) (many := ?v7) ?tw ?hh ?kk); (case tw => assumption); (case hh => assumption))
  | ((with_reducible refine f_told (CW := ?v1) (dx := ?v2) (t := ?v3) (l := ?v4) (w := ?v5) (told := ?v6) (many := ?v7) ?tw ?hh ?kk); (case tw => assumption); (case hh => assumption))
  | ((with_reducible refine f_many (CW := ?v1) (dx := ?v2) (t := ?v3) (l := ?v4) (w := ?v5) (told := ?v6) (many := ?v7) ?tw ?hh ?kk); (case tw => assumption); (case hh => assumption))
  | ((with_reducible refine w_ixL (v := ?vv) (xs := ?xx) ?hh ?h2 ?kk); (case hh => assumption); (case h2 => exact rfl)) | ((with_reducible refine w_ixT (v := ?vv) (xs := ?xx) ?hh ?h2 ?kk); (case hh => assumption); (case h2 => exact rfl)))
local macro_rules | `(tactic| tm_at "r") => `(tactic| repeat tm_at "s")
local macro_rules | `(tactic| tm_at "b") => `(tactic| first | refine w_iteT (by with_reducible rfl) ?_ | refine w_iteF (by with_reducible rfl) ?_ | refine w_iteT (by rfl) ?_ | refine w_iteF (by rfl) ?_)
local macro_rules | `(tactic| tm_at "e") => `(tactic| repeat (first | tm_at "s" | tm_at "b"))
namespace My
abbrev s_law_alike : Stmt := top 84
theorem sc_law_alike : FnScope ["_law_found", "_law_due", "_law_k"] ["_law_found", "_law_due"] (defScope s_law_alike) := ⟨rfl, rfl, rfl, by decide +kernel, rfl, by decide +kernel, by decide +kernel⟩
/-- equal data are alike -/
def sp_alike (K : PySem.W.Frag) (n : Nat) : Sp := fun vs H Q _ => ∃ (x y : V) (d : PyData), vs = [x, y] ∧ Dq K H x d ∧ Dq K H y d ∧ PyData.depth d < n ∧ ∀ H', Ext H H' → Q (.bl true) H'
theorem u_alike {K : PySem.W.Frag} {n : Nat} {H : Hp} {Q : VK} {E : XK} {x y : V} {d : PyData} (h1 : Dq K H x d) (h2 : Dq K H y d) (h3 : PyData.depth d < n) (k : ∀ H', Ext H H' → Q (.bl true) H') : sp_alike K n ([x, y] ++ []) H Q E := ⟨x, y, d, rfl, h1, h2, h3, k⟩
section
variable {P : Program} {w : World} {K : PySem.W.Frag} {mg : Str → Option Value} {base : Heap}
theorem ok_alike {f : Addr} {fd : FuncData} (F : Fun K "_law_alike" "_law_alike" s_law_alike f fd) (T : TxB mg) (hm : mg "_law_alike" = some (.ref f)) (hb : Binds K fd ["_law_found", "_law_due"] []) : ∀ n : Nat, FnOk P w K mg base (L2.CX P w) n f fd ["_law_found", "_law_due"] (sp_alike K n)
  | 0 => by
    have no : ∀ vs H Q E, ¬ sp_alike K 0 vs H Q E := fun vs H Q E h => by
      obtain ⟨_, _, _, _, _, _, h, _⟩ := h
      omega
    exact ⟨fun vs H Q E h => absurd h (no vs H Q E), fun A outer s H args us vs Q E _ _ _ _ h => absurd h (no vs H Q E)⟩
  | n + 1 => by
    have C_law_alike : Cal P w K mg base n "_law_alike" ["_law_found", "_law_due"] (sp_alike K n) := ⟨f, fd, ok_alike F T hm hb n, hm, F.kp, hb⟩
    refine F.okX sc_law_alike (fun vs H Q E h => ?_) (fun cdv A outer s H vs Q E hr h => ⟨_, (pss_cons (ps_if (PW.pt (pw_or (pt_val (pe_callB (cIsi (K := K) rfl) (by rfl) T.n_isinstance (by decide +kernel) (pa_cons (pv 1) (pa_cons (pe_bltn (v := .ty "tuple") rfl T.n_tuple (by decide +kernel) rfl) pa_nil)))) (pw_or1 (pt_val (pe_callB (cIsi (K := K) rfl) (by rfl) T.n_isinstance (by decide +kernel) (pa_cons (pv 1) (pa_cons (pe_bltn (v := .ty "list") rfl T.n_list (by decide +kernel) rfl) pa_nil)))))))
 (pss_cons (ps_if (PW.pt (pw_or (pt_cmpR op_ne (pe_callB (cIsi (K := K) rfl) (by rfl) T.n_isinstance (by decide +kernel) (pa_cons (pv 0) (pa_cons (pe_bltn (v := .ty "tuple") rfl T.n_tuple (by decide +kernel) rfl) pa_nil))) (pe_callB (cIsi (K := K) rfl) (by rfl) T.n_isinstance (by decide +kernel) (pa_cons (pv 1) (pa_cons (pe_bltn (v := .ty "tuple") rfl T.n_tuple (by decide +kernel) rfl) pa_nil))) (nomark _)) (pw_or1 (pt_not (pt_val (pe_callB (cIsiT (K := K) rfl) (by rfl) T.n_isinstance (by decide +kernel) (pa_cons (pv 0) (pa_cons (pe_tup (pa_cons (pe_bltn (v := .ty "tuple") rfl T.n_tuple (by decide +kernel) rfl) (pa_cons (pe_bltn (v := .ty "list") rfl T.n_list (by decide +kernel) rfl) pa_nil))) pa_nil))))))))
 (pss_one (ps_ret pe_bl))
 pss_nil)
 (pss_cons (ps_if (pt_cmpR op_ne (pe_callB (cLen (K := K) rfl) (by rfl) T.n_len (by decide +kernel) (pa_cons (pv 0) pa_nil)) (pe_callB (cLen (K := K) rfl) (by rfl) T.n_len (by decide +kernel) (pa_cons (pv 1) pa_nil)) (nomark _))
 (pss_one (ps_ret pe_bl))
 pss_nil)
 (pss_one (ps_ret (pe_cmpR (oEqD (K := K) rfl hr.units) (pe_lc (own := [("_law_k", 2)]) (g := gName 2) rfl sc_law_alike.nd (pi_range1 rfl T.n_range (pa_cons (pe_callB (cLen (K := K) rfl) (by rfl) T.n_len (by decide +kernel) (pa_cons (pv 1) pa_nil)) pa_nil)) (blkOk_by (own := [("_law_k", 2)]) (N := ["_law_found", "_law_due", "_law_k"]) (sc := defScope s_law_alike) (by decide +kernel)) (fun _ _ _ _ _ => pg_name (i := 2) sc_law_alike.nd rfl (Or.inl rfl)) (fun _ _ _ _ _ => pts_one (pt_not (pt_val (pe_cal (E := E0) C_law_alike (hr.mono (by first | decide | omega)) passL (pa_cons (pe_ix (ixA (K := K) rfl) (pv 0) (pv 2) (fun _ _ => rfl)) (pa_cons (pe_ix (ixA (K := K) rfl) (pv 1) (pv 2) (fun _ _ => rfl)) pa_nil)))))) (fun _ _ _ _ _ => (pv 2))) (pe_lst pa_nil) (nomark _))))))
 pss_nil)
 (pss_cons (ps_if (PW.pt (pw_or (pt_cmp (pc_isN (pv 1))) (pw_or1 (pt_cmp (pc_isN (pv 0))))))
 (pss_one (ps_ret (pe_and (pe_cmp (pc_isN (pv 1))) (pe_one (pe_cmp (pc_isN (pv 0)))))))
 pss_nil)
 (pss_cons (ps_if (PW.pt (pw_or (pt_val (pe_callB (cIsi (K := K) rfl) (by rfl) T.n_isinstance (by decide +kernel) (pa_cons (pv 1) (pa_cons (pe_bltn (v := .ty "bool") rfl T.n_bool (by decide +kernel) rfl) pa_nil)))) (pw_or1 (pt_val (pe_callB (cIsi (K := K) rfl) (by rfl) T.n_isinstance (by decide +kernel) (pa_cons (pv 0) (pa_cons (pe_bltn (v := .ty "bool") rfl T.n_bool (by decide +kernel) rfl) pa_nil)))))))
 (pss_one (ps_ret (pe_and (pe_callB (cIsi (K := K) rfl) (by rfl) T.n_isinstance (by decide +kernel) (pa_cons (pv 1) (pa_cons (pe_bltn (v := .ty "bool") rfl T.n_bool (by decide +kernel) rfl) pa_nil))) (pe_and (pe_callB (cIsi (K := K) rfl) (by rfl) T.n_isinstance (by decide +kernel) (pa_cons (pv 0) (pa_cons (pe_bltn (v := .ty "bool") rfl T.n_bool (by decide +kernel) rfl) pa_nil))) (pe_one (pe_cmpR op_eq (pv 0) (pv 1) (nomark _)))))))
 pss_nil)
 (pss_cons (ps_if (pt_val (pe_callB (cIsi (K := K) rfl) (by rfl) T.n_isinstance (by decide +kernel) (pa_cons (pv 1) (pa_cons (pe_bltn (v := .ty "str") rfl T.n_str (by decide +kernel) rfl) pa_nil))))
 (pss_one (ps_ret (pe_and (pe_callB (cIsi (K := K) rfl) (by rfl) T.n_isinstance (by decide +kernel) (pa_cons (pv 0) (pa_cons (pe_bltn (v := .ty "str") rfl T.n_str (by decide +kernel) rfl) pa_nil))) (pe_one (pe_cmpR op_eq (pv 0) (pv 1) (nomark _))))))
 pss_nil)
 (pss_one (ps_ret (pe_and (pe_callB (cIsi (K := K) rfl) (by rfl) T.n_isinstance (by decide +kernel) (pa_cons (pv 0) (pa_cons (pe_bltn (v := .ty "int") rfl T.n_int (by decide +kernel) rfl) pa_nil))) (pe_one (pe_cmpR op_eq (pv 0) (pv 1) (nomark _)))))))))), ?_⟩)
    · obtain ⟨x, y, d, rfl, _⟩ := h
      rfl
    · obtain ⟨x, y, d, rfl, hx, hy, hd, k⟩ := h
      -- the part for lists and tuples
      cases d with
      | none =>
        cases hx
        cases hy
        have hx : Dq K H .non .none := .non
        tm_at "e"
        exact k _ (Ext.refl _)
      | bool b =>
        cases hx
        cases hy
        have hx : Dq K H (.bl b) (.bool b) := .bl b
        tm_at "e"
        rw [decide_eq_true rfl]
        exact k _ (Ext.refl _)
      | int b =>
        cases hx
        cases hy
        have hx : Dq K H (.int b) (.int b) := .int b
        tm_at "e"
        rw [decide_eq_true rfl]
        exact k _ (Ext.refl _)
      | str b =>
        cases hx
        cases hy
        have hx : Dq K H (.str b) (.str b) := .str b
        tm_at "e"
        rw [decide_eq_true rfl]
        exact k _ (Ext.refl _)
      | list ds =>
        obtain ⟨p, xs, rfl, hp, np, hz, hs⟩ := hx.list_inv
        obtain ⟨q, ys, rfl, hq, nq, hz2, hs2⟩ := hy.list_inv
        have lx := hs.len
        have ly := hs2.len
        tm_at "e"
        intro t H1 ht e1 ht1
        tm_at "e"
        refine w_isi2 (hx.ext e1) ht1 ?_
        have hp := e1.seq np hp
        have hq := e1.seq nq hq
        tm_at "e"
        rw [show xs.length = ys.length by omega]
        rw [decide_eq_true rfl]
        tm_at "e"
        have hss := DqAll.ext e1 ds hs
        have hss2 := DqAll.ext e1 ds hs2
        refine lcF src_rng (fun i acc => acc = []) rfl (fun i acc e => by rw [e]; exact nsh_nil) (by omega) (fun _ => rfl) (fun i z acc H2 NF NE hi hzz ha e2 kF kE => ?_) fun D acc H2 ha hD e2 hDa hl => ?_
        · subst hzz
          obtain ⟨dd, hdd⟩ : ∃ dd, ds[i]? = some dd := ⟨ds[i]'(by omega), List.getElem?_eq_getElem (by omega)⟩
          obtain ⟨v1, hv1, dq1⟩ := hss.get hdd
          obtain ⟨v2, hv2, dq2⟩ := hss2.get hdd
          have e0 : (0 : Int) + (i : Int) = (i : Int) := by omega
          rw [e0]
          tm_at "r"
          refine w_ixAL (e2.seq np hp) (atI_k hv1) ?_
          tm_at "r"
          refine w_ixAL (e2.seq nq hq) (atI_k hv2) ?_
          tm_at "r"
          have hdep : PyData.depth dd < n := by
            have := dep_mem (n := n - 1) (xs := ds) (by simp only [PyData.depth] at hd; omega) dd (List.mem_of_getElem? hdd)
            simp only [PyData.depth] at hd
            omega
          refine u_alike (dq1.ext e2) (dq2.ext e2) hdep fun H3 e3 => ?_
          tm_at "e"
          exact kF _ e3 ha
        · subst ha
          tm_at "r"
          intro t2 H3 ht2 e3 ht3
          refine w_eqLs (ls := []) (ms := []) (e3.seq nsh_nil (SqL.of hDa)) (SqL.of ht3) ?_
          exact k _ ((e1.trans e2).trans e3)
      | tuple ds =>
        obtain ⟨p, xs, rfl, hp, hz, hs⟩ := hx.tup_inv
        obtain ⟨q, ys, rfl, hq, hz2, hs2⟩ := hy.tup_inv
        have lx := hs.len
        have ly := hs2.len
        tm_at "e"
        intro t H1 ht e1 ht1
        tm_at "e"
        refine w_isi2 (hx.ext e1) ht1 ?_
        have hp := e1.tup hp
        have hq := e1.tup hq
        tm_at "e"
        rw [show xs.length = ys.length by omega]
        rw [decide_eq_true rfl]
        tm_at "e"
        have hss := DqAll.ext e1 ds hs
        have hss2 := DqAll.ext e1 ds hs2
        refine lcF src_rng (fun i acc => acc = []) rfl (fun i acc e => by rw [e]; exact nsh_nil) (by omega) (fun _ => rfl) (fun i z acc H2 NF NE hi hzz ha e2 kF kE => ?_) fun D acc H2 ha hD e2 hDa hl => ?_
        · subst hzz
          obtain ⟨dd, hdd⟩ : ∃ dd, ds[i]? = some dd := ⟨ds[i]'(by omega), List.getElem?_eq_getElem (by omega)⟩
          obtain ⟨v1, hv1, dq1⟩ := hss.get hdd
          obtain ⟨v2, hv2, dq2⟩ := hss2.get hdd
          have e0 : (0 : Int) + (i : Int) = (i : Int) := by omega
          rw [e0]
          tm_at "r"
          refine w_ixAT (e2.tup hp) (atI_k hv1) ?_
          tm_at "r"
          refine w_ixAT (e2.tup hq) (atI_k hv2) ?_
          tm_at "r"
          have hdep : PyData.depth dd < n := by
            have := dep_mem (n := n - 1) (xs := ds) (by simp only [PyData.depth] at hd; omega) dd (List.mem_of_getElem? hdd)
            simp only [PyData.depth] at hd
            omega
          refine u_alike (dq1.ext e2) (dq2.ext e2) hdep fun H3 e3 => ?_
          tm_at "e"
          exact kF _ e3 ha
        · subst ha
          tm_at "r"
          intro t2 H3 ht2 e3 ht3
          refine w_eqLs (ls := []) (ms := []) (e3.seq nsh_nil (SqL.of hDa)) (SqL.of ht3) ?_
          exact k _ ((e1.trans e2).trans e3)
      | dict kvs => cases hx
end
end My
end

section
/-! refusals with a number; dicts of the module; texts cut and joined -/
namespace Lw
open PySem PySem.Spec PyProof.Rows L2
/-! ### C.__init__(self, ..), C an own class over ValueError without an __init__ -/
structure BInit (K : PySem.W.Frag) (mg : Str → Option Value) (x : Str) (C : Addr) : Prop where
  m : mg x = some (.ref C)
  rd : PySem.W.readsIn K C (.type "type") = true
  ga : PySem.W.specialIn K (.ref C) "__getattribute__" = some (some (.builtin "type.__getattribute__"))
  at_ : PySem.W.findCls K (.ref C) (.type "type") "__init__" = some (.val (.builtin "ValueError.__init__"))
section
variable {X : Cx} {x : Str} {C : Addr} {e : Expr} {es : List Expr} {ta : TA} {p1 p2 pos : Pos}
end
/-! ### refusals with a number -/
def sp_xinit (K : PySem.W.Frag) (C : Addr) (fld : Str) : Sp := fun vs H Q _ => ∃ (a : Addr) (n : Int), vs = [.ref a, .int n] ∧ n.natAbs.log2 < 1920 ∧ H a = some (exo a C none) ∧ ∀ d, H d = none → d ≠ a → Q .non (upd (upd H d (exd d [(fld, .int n)])) a (exo a C (some d)))
structure ExcN (P : Program) (w : World) (K : PySem.W.Frag) (mg : Str → Option Value) (base : Heap) (k : Nat) (x : Str) (C : Addr) (fld : Str) : Prop where
  T : OexC K C
  gC : mg x = some (.ref C)
  i : ∃ fI fd ps, PySem.W.findIn K (.ref C) "__init__" = some (some (.ref fI)) ∧ PySem.W.typeIn K (.ref fI) = some (.type "function") ∧ FnOk P w K mg base (L2.CX P w) k fI fd ps (sp_xinit K C fld) ∧ Binds K fd ps []
/-- what the making of one asks -/
def AMk (K : PySem.W.Frag) (C : Addr) (fld : Str) (vs : List V) (H1 : Hp) (Q : XK) : Prop := vs.length ≤ 1000 ∧ ∀ a, H1 a = none → sp_xinit K C fld (.ref a :: (vs ++ [])) (upd H1 a (exo a C none))
  (fun v H2 => v = .non ∧ ∃ (d : Addr) (fs : List (Str × V)), H2 a = some (exo a C (some d)) ∧ H2 d = some (exd d fs) ∧ H1 d = none ∧ Q (.ref C) (some d) (upd (del H2 a) d (.xd fs))) (fun _ _ _ => False)
/-- raise X(e) -/
def tRaiseN (K : PySem.W.Frag) (C : Addr) (fld : Str) (W : WX) (ta : TA) : TS := fun _ σ H => ta σ H fun vs H1 => AMk K C fld vs H1 fun cls d H' => W cls d σ H'
/-! ### the __init__ of such a class -/
/-! ### e.f in the handler -/
/-! ### a dict of the module, texts to texts -/
def KDm (K : PySem.W.Frag) (w : World) (d : Addr) (kvs : List (Str × Str)) : Prop := ∃ es n, KDict K w d es n ∧ ∀ z, ∃ r, PySem.W.nsIn K d z = some r ∧ match kvs.lookup z with
  | none => r = none
  | some x => ∃ t, r = some (.str x t)
def rKin (kvs : List (Str × Str)) (d : Addr) (neg : Bool) : R2 := fun x y H Q => ∃ z : Str, x = .str z ∧ y = .ref d ∧ Q (.bl (if neg then !(kvs.lookup z).isSome else (kvs.lookup z).isSome)) H
section
variable {X : Cx} {K : PySem.W.Frag} {w : World} {kvs : List (Str × Str)} {d : Addr}
def rKix (kvs : List (Str × Str)) (d : Addr) : R2 := fun x y H Q => ∃ (z v : Str), x = .ref d ∧ y = .str z ∧ kvs.lookup z = some v ∧ Q (.str v) H
end
/-! ### texts cut at a sign, joined again -/
def rSplit : V → List V → Hp → VK → Prop := fun x xs H Q => ∃ a b : Str, x = .str a ∧ xs = [.str b] ∧ (b.length == 0) = false ∧ a.length + 2 ≤ sizeLine ∧ rNewStrs (Txt.split a b) H Q
def cutL (c : Nat) : List (List Nat) → List Nat
  | [] => []
  | [y] => y
  | y :: z :: r => y ++ c :: cutL c (z :: r)
/-! ### the word of a refusal, with its number if it has one -/
def fldN (i : Nat) : Str := if i = 14 then "row" else "number"
def WordOkN {K : PySem.W.Frag} {mg : Str → Option Value} (g : Kinds K mg) (cls : Value) (d : Option Addr) (H : Hp) (Q : VK) : Prop :=
  ∃ (i : Nat) (c : Addr) (x : Str), g.cs[i]? = some c ∧ wordsL[i]? = some x ∧ cls = .ref c ∧
    ((i ≠ 9 ∧ i ≠ 13 ∧ i ≠ 14 ∧ d = none ∧ ∀ H1, Ext H H1 → Q (.str x) H1) ∨
    ((i = 9 ∨ i = 13 ∨ i = 14) ∧ ∃ (dd : Addr) (n : Int), d = some dd ∧ H dd = some (.xd [(fldN i, .int n)]) ∧ ∀ t H1, H t = none → Ext H H1 → H1 t = some (.tup [.str x, .int n]) → Q (.ref t) H1))
def TWordN {K : PySem.W.Frag} {mg : Str → Option Value} (g : Kinds K mg) : (XK → Hp → VK → Prop) → Hp → VK → Prop := fun tl H Q => tl (fun cls d H' => WordOkN g cls d H' Q) H fun _ H' => Q (.str "") H'
structure KindsN {K : PySem.W.Frag} {mg : Str → Option Value} (g : Kinds K mg) : Prop where
  n9 : PySem.W.findIn K (.ref g.c_BadLooks) "number" = some none
  n13 : PySem.W.findIn K (.ref g.c_BadStep) "number" = some none
  n14 : PySem.W.findIn K (.ref g.c_BadText) "row" = some none
end Lw
namespace Lw
open PySem PySem.Spec PySem.Calls PyProof.Rows PySem.W L2
section
variable {prog : Program} {w : World} {A : Around} {E : Value → Shared → Prop} {s : Shared} {K : Frag} {x D : Addr} {ox : Obj} {od : Option Obj}
end
end Lw
namespace Lw
open PySem PySem.Spec PyProof.Rows L2
/-- isinstance(e, c), e a held error with a dict -/
def rIsEx (K : PySem.W.Frag) (D a dd : Addr) : List V → Hp → VK → Prop := fun xs H Q => ∃ (c : V) (cv : Value) (b : Bool) (fs : List (Str × V)), xs = [.ref a, c] ∧ H dd = some (.xd fs) ∧ (∀ u, RelV c u → u = cv) ∧ PySem.W.kitOne K (.ref D) cv = some b ∧ Q (.bl b) H
end Lw
end

section
/-! steps of a day, as data; walks with their places -/
namespace Lw
open PySem PySem.Spec PyProof.Rows L2
/-! ### for k, x in enumerate(xs) -/
def EnmOk (K : PySem.W.Frag) (vs : List V) (H : Hp) (R : It → Hp → Prop) : Prop := ∃ a xs, vs = [.ref a] ∧ SqL K H a xs ∧ R (Ite K a) H
section
variable {X : Cx} {K : PySem.W.Frag} {elts : List Expr} {kk : Nat} {tpos p pos : Pos} {e : Expr} {ta : TA}
end
section
variable {K : PySem.W.Frag} {σ : L2.St} {H : Hp} {Q : VK} {D : Ends} {ta : TA} {tb : TS} {R : It → Hp → Prop} {j k : Nat}
end
theorem at0 {v : V} {r : List V} : atI (v :: r) 0 = some v := atI_k (j := 0) rfl
/-! ### tuple(xs), sep.join(xs) -/
def rTupS (K : PySem.W.Frag) : List V → Hp → VK → Prop := fun xs H Q => ∃ p ys, xs = [.ref p] ∧ ((SqL K H p ys ∧ ∀ l, H l = none → Q (.ref l) (upd H l (.tup ys))) ∨ (SqT K H p ys ∧ Q (.ref p) H))
/-! ### plain texts -/
def Asc (x : Str) : Prop := ∀ c ∈ x.cps.toList, c < 128
theorem Asc.lay {x : Str} (h : Asc x) : PyData.canLay0 (.str x) = true := by
  simp only [PyData.canLay0, PyData.strOk]
  rw [Array.all_eq_true]
  intro i hi
  have e := h x.cps[i] (by simp)
  exact decide_eq_true (by omega)
theorem Asc.sub {x y : Str} (h : Asc x) (k : ∀ c ∈ y.cps.toList, c ∈ x.cps.toList) : Asc y := fun c hc => h c (k c hc)
/-! ### steps -/
def forms : List (Str × Str) := [("hang", "number"), ("off", "number"), ("alarm", "number"), ("calm", "number"), ("walk", "kind"), ("step", ""), ("round", ""), ("turn", ""), ("refresh", "")]
/-- a text or a number -/
def FlatV (v : V) : Prop := (∃ x : Str, v = .str x ∧ PyData.canLay0 (.str x) = true ∧ x.length ≤ 100000) ∨ ∃ i : Int, v = .int i
def toD : V → PyData
  | .str x => .str x
  | .int i => .int i
  | _ => .none
theorem FlatV.lay {v : V} (h : FlatV v) : PyData.canLay0 (toD v) = true := by
  rcases h with ⟨x, rfl, h, _⟩ | ⟨i, rfl⟩
  · exact h
  · rfl
theorem FlatV.flat {v : V} (h : FlatV v) : flatV v = true := by
  rcases h with ⟨x, rfl, h, _⟩ | ⟨i, rfl⟩ <;> rfl
theorem FlatV.ok {v : V} (h : FlatV v) : PyData.canLay0 (toD v) = true ∧ ∀ x, toD v = .str x → x.length ≤ 100000 := ⟨h.lay, fun x e => by
  rcases h with ⟨z, rfl, _, h⟩ | ⟨i, rfl⟩
  · cases e
    exact h
  · cases e⟩
theorem flat_str {x : Str} (h : Asc x) (hl : x.length ≤ 100000) : FlatV (.str x) := .inl ⟨x, rfl, h.lay, hl⟩
def stepD (xs : List V) : PyData := .tuple (xs.map toD)
/-- a part, by its form -/
def partV (f : Str) (v : V) : Bool := match v with
  | .str x => if f = "kind" then decide (x = "all" ∨ x = "alarm") else bitsS x && (decide (1 ≤ x.length) && decide (x.length ≤ 12))
  | _ => false
def oneV (f : Str) : List V → Bool
  | [v] => partV f v
  | _ => false
def stepV (xs : List V) : Bool := match xs with
  | .str x :: r => match forms.lookup x with
    | none => false
    | some f => if f = "" then r.isEmpty else oneV f r
  | _ => false
/-- the first that is no step -/
def badAt (n : Nat) : List (List V) → Option Nat
  | [] => none
  | xs :: r => if 200 ≤ n ∨ stepV xs = false then some n else badAt (n + 1) r
/-- a list of steps in the heap -/
def StepsAt (K : PySem.W.Frag) (H : Hp) (a : Addr) (sts : List (List V)) : Prop := ∃ ts : List Addr, SqL K H a (ts.map V.ref) ∧ Paired (fun t xs => SqT K H t xs) ts sts
theorem paired_len {α β : Type} {r : α → β → Prop} : ∀ {l : List α} {m : List β}, Paired r l m → l.length = m.length
  | _, _, .nil => rfl
  | _, _, .cons _ h => congrArg (· + 1) (paired_len h)
theorem paired_at {α β : Type} {r : α → β → Prop} : ∀ {l : List α} {m : List β}, Paired r l m → ∀ {i : Nat} {x : α}, l[i]? = some x → ∃ y, m[i]? = some y ∧ r x y
  | _, _, .nil, _, _, e => by cases e
  | _, _, .cons h _, 0, _, e => ⟨_, rfl, by cases e; exact h⟩
  | _, _, .cons _ t, i + 1, _, e => paired_at t (i := i) e
theorem paired_mono {α β : Type} {r r' : α → β → Prop} (k : ∀ x y, r x y → r' x y) : ∀ {l : List α} {m : List β}, Paired r l m → Paired r' l m
  | _, _, .nil => .nil
  | _, _, .cons h t => .cons (k _ _ h) (paired_mono k t)
theorem StepsAt.ext {K : PySem.W.Frag} {H H1 : Hp} {a : Addr} {sts : List (List V)} (h : StepsAt K H a sts) (e : Ext H H1) : StepsAt K H1 a sts := by
  obtain ⟨ts, h1, h2⟩ := h
  exact ⟨ts, e.seq (nsh_refs _) h1, paired_mono (fun t xs h => e.tup h) h2⟩
/-- its text -/
def rowT (s : List Str) : Str := Str.join " " s
def wrT (sts : List (List Str)) : Str := Str.join "\n" (sts.map rowT)
/-! ### good steps -/
def numW : List Str := ["hang", "off", "alarm", "calm"]
def barW : List Str := ["step", "round", "turn", "refresh"]
def allW : List Str := ["step", "round", "turn", "refresh", "hang", "off", "alarm", "calm", "walk", "all", "alarm"]
def GoodS (s : List Str) : Prop := (∃ w, s = [w] ∧ w ∈ barW) ∨ (∃ k : Str, s = [("walk" : Str), k] ∧ (k = "all" ∨ k = "alarm")) ∨ ∃ w b, s = [w, B b] ∧ w ∈ numW ∧ 1 ≤ b.length ∧ b.length ≤ 12
def strV (s : List Str) : List V := s.map V.str
def TxtOk (s : List Str) : Prop := (∀ x ∈ s, Asc x ∧ x.length ≤ 100000) ∧ s.length ≤ 100
theorem TxtOk.flat {s : List Str} (h : TxtOk s) : (∀ v ∈ strV s, FlatV v) ∧ (strV s).length ≤ 100 := ⟨fun v hv => by
  obtain ⟨x, hx, rfl⟩ := List.mem_map.mp hv
  exact flat_str (h.1 x hx).1 (h.1 x hx).2, by rw [strV, List.length_map]; exact h.2⟩
def wordB (w : Str) : Bool := w.cps.toList.all fun c => decide (c < 128) && (!decide (c = 32) && !decide (c = 10))
def wdsOf (x : Str) : List Str := Txt.split x " "
def rwsOf (x : Str) : List Str := if x = "" then [] else Txt.split x "\n"
/-! ### a text laid out step by step -/
def tlT (a : Str) (l : List Str) : Str := l.foldl (fun a x => a ++ " " ++ x) a
end Lw
end

section
/-! rosters: <= of texts, max of a tuple, what is walked a list or a tuple -/
namespace Lw
open PySem PySem.Spec PyProof.Rows L2
def iOr (a b : L2.TI) : L2.TI := fun σ H R => a σ H R ∨ b σ H R
theorem pi_or {X : Cx} {tg l : Expr} {a b : L2.TI} (h1 : PI X tg l a) (h2 : PI X tg l b) : PI X tg l (iOr a b) := ⟨fun pins s σ H R I h => h.elim (fun q => h1.run pins s σ H R I q) fun q => h2.run pins s σ H R I q⟩
def rLeS : R2 := fun x y H Q => ∃ i j, x = .str i ∧ y = .str j ∧ Q (.bl (!decide (j.cps.toList < i.cps.toList))) H
def rMaxT (K : PySem.W.Frag) : List V → Hp → VK → Prop := fun vs H Q => ∃ (a : Addr) (ns : List Int), vs = [V.ref a] ∧ SqT K H a (ns.map V.int) ∧ 0 < ns.length ∧ ∀ m, m ∈ ns → (∀ y, y ∈ ns → y ≤ m) → Q (.int m) H
theorem w_iorL {a b : L2.TI} {σ : L2.St} {H : Hp} {R : It → Hp → Prop} (h : a σ H R) : iOr a b σ H R := .inl h
theorem w_iorT {a b : L2.TI} {σ : L2.St} {H : Hp} {R : It → Hp → Prop} (h : b σ H R) : iOr a b σ H R := .inr h
/-- a rising list of numbers -/
def IsRise (w : Nat) (xs : List Str) : Prop := ∃ ls : List Bits, xs = ls.map B ∧ (∀ l ∈ ls, l.length = w) ∧ Rise ls
/-- what is never reached -/
theorem pss_nev {X : Cx} {sts : List Stmt} : PSs X sts (fun _ _ _ => False) := ⟨fun _ _ _ _ _ _ h => h.elim⟩
end Lw
end

section
open PySem L2 Lw
local macro_rules | `(tactic| tm_at "s") => `(tactic| first
  | with_reducible refine w_seq ?_ | with_reducible refine w_asg ?_ | with_reducible refine w_gname ?_ | with_reducible refine w_ret ?_ | with_reducible refine w_drop ?_ | with_reducible refine w_ifS ?_ | with_reducible refine w_next ?_ | with_reducible refine w_retN ?_
  | with_reducible refine w_c ?_ | ((with_reducible refine w_var (v := ?vv) ?hh ?kk); (case hh => exact rfl)) | with_reducible refine w_op ?_ | with_reducible refine w_un ?_ | with_reducible refine w_cons ?_ | with_reducible refine w_nil ?_ | with_reducible refine w_test ?_ | with_reducible refine w_B ?_
  | with_reducible refine w_isbl ?_ | with_reducible refine w_not ?_ | with_reducible refine w_and ?_ | with_reducible refine w_or ?_ | with_reducible refine w_andV ?_ | with_reducible refine w_orV ?_ | with_reducible refine w_notV ?_ | with_reducible refine w_if ?_ | with_reducible refine w_chain ?_
  | with_reducible refine w_isN ?_ | with_reducible refine w_notN ?_ | with_reducible refine w_yes ?_ | with_reducible refine w_call ?_ | with_reducible refine w_CB ?_ | with_reducible refine w_tup ?_ | with_reducible refine w_lst ?_ | with_reducible refine w_sl ?_ | with_reducible refine w_noPart ?_
  | with_reducible refine w_part ?_ | with_reducible refine w_isint ?_ | with_reducible refine w_gSub ?_ | with_reducible refine w_break ?_ | with_reducible refine w_cont ?_
  | with_reducible refine w_I0 ?_ | with_reducible refine w_eqI ?_ | with_reducible refine w_neI ?_ | with_reducible refine w_eqS ?_ | with_reducible refine w_neS ?_ | with_reducible refine w_eqB ?_ | with_reducible refine w_neB ?_ | ((with_reducible refine w_isi (d := ?dd) ?hh ?kk); (case hh => assumption))
  | with_reducible refine w_sg ?_ | with_reducible refine w_notSg ?_ | with_reducible refine w_starts ?_ | with_reducible refine w_max2 ?_ | with_reducible refine w_min2 ?_ | with_reducible refine w_intB ?_ | with_reducible refine w_intI ?_ | with_reducible refine w_bm ?_ | with_reducible refine w_bm0 ?_ | with_reducible refine w_m1 ?_ | with_reducible refine w_m0 ?_ | with_reducible refine w_isstr ?_
  | with_reducible refine w_for ?_ | with_reducible refine w_lc ?_ | with_reducible refine w_rng ?_ | with_reducible refine w_rng2 ?_ | with_reducible refine w_ilist ?_ | with_reducible refine w_itup ?_ | with_reducible refine w_istr ?_ | with_reducible refine w_strOk ?_
  | ((with_reducible refine w_rngOk ?hh ?h2 ?kk); (case hh => omega); (case h2 => omega)) | ((with_reducible refine w_lstOk (xs := ?xx) ?hh ?kk); (case hh => assumption))
  | ((with_reducible refine w_alL ?hh ?kk); (case hh => exact Nat.le_of_ble_eq_true rfl)) | ((with_reducible refine w_alT ?hh ?kk); (case hh => exact Nat.le_of_ble_eq_true rfl))
  | ((with_reducible refine w_lenL (xs := ?xx) ?hh ?kk); (case hh => assumption)) | ((with_reducible refine w_lenT (xs := ?xx) ?hh ?kk); (case hh => assumption))
  | ((with_reducible refine w_I ?hh ?kk); (case hh => first | (show _ ≠ (0 : Int); omega) | (show (0 : Int) < _; omega) | exact ⟨by omega, by omega⟩ | exact .inl ⟨by omega, by omega⟩ | exact .inr ⟨by omega, by omega⟩ | exact ⟨by decide, by decide, by decide⟩))
  | with_reducible refine w_din ?_ | with_reducible refine w_dnot ?_ | with_reducible refine w_dget ?_ | with_reducible refine w_dput ?_ | with_reducible refine w_fld ?_ | with_reducible refine w_sto ?_ | with_reducible refine w_meth ?_ | with_reducible refine w_pop1 ?_ | with_reducible refine w_pop2 ?_ | with_reducible refine w_ikeys ?_
  | ((with_reducible refine f_width (CW := ?v1) (dx := ?v2) (t := ?v3) (l := ?v4) (w := ?v5) (told := ?v6) (many := ?v7) ?tw ?hh ?kk); (case tw => assumption); (case hh => assumption))
  | ((with_reducible refine f_things (CW := ?v1) (dx := ?v2) (t := ?v3) (l := ?v4) (w := ?v5) (told := ?v6) (many := ?v7) ?tw ?hh ?kk); (case tw => assumption); (case hh => assumption))
  | ((with_reducible refine f_listening (CW := ?v1) (dx := ?v2) (t := ?v3) (l := ?v4) (w := ?v5) (told := ?v6) (many := ?v7) ?tw ?hh ?kk); (case tw => assumption); (case hh => assumption))
  | ((with_reducible refine f_tolds (CW := ?v1) (dx := ?v2) (t := ?v3) (l := ?v4) (w := ?v5) (b := ?v6) (many := ?v7) ?tw ?hh ?kk); (case tw => assumption); (case hh => assumption))
  | ((with_reducible refine f_told (CW := ?v1) (dx := ?v2) (t := ?v3) (l := ?v4) (w := ?v5) (told := ?v6) (many := ?v7) ?tw ?hh ?kk); (case tw => assumption); (case hh => assumption))
  | ((with_reducible refine f_many (CW := ?v1) (dx := ?v2) (t := ?v3) (l := ?v4) (w := ?v5) (told := ?v6) (many := ?v7) ?tw ?hh ?kk); (case tw => assumption); (case hh => assumption))
  | ((with_reducible refine w_ixL (v := ?vv) (xs := ?xx) ?hh ?h2 ?kk); (case hh => assumption); (case h2 => exact rfl)) | ((with_reducible refine w_ixT (v := ?vv) (xs := ?xx) ?hh ?h2 ?kk); (case hh => assumption); (case h2 => exact rfl)))
local macro_rules | `(tactic| tm_at "r") => `(tactic| repeat tm_at "s")
local macro_rules | `(tactic| tm_at "b") => `(tactic| first | refine w_iteT (by with_reducible rfl) ?_ | refine w_iteF (by with_reducible rfl) ?_ | refine w_iteT (by rfl) ?_ | refine w_iteF (by rfl) ?_)
local macro_rules | `(tactic| tm_at "e") => `(tactic| repeat (first | tm_at "s" | tm_at "b"))
namespace My
abbrev s_are_bits : Stmt := top 20
theorem sc_are_bits : FnScope ["part", "sign"] ["part"] (defScope s_are_bits) := ⟨rfl, rfl, rfl, by decide +kernel, rfl, by decide +kernel, by decide +kernel⟩
abbrev s_is_number : Stmt := top 21
theorem sc_is_number : FnScope ["width", "part"] ["width", "part"] (defScope s_is_number) := ⟨rfl, rfl, rfl, by decide +kernel, rfl, by decide +kernel, by decide +kernel⟩
abbrev s_need_number : Stmt := top 23
theorem sc_need_number : FnScope ["width", "part"] ["width", "part"] (defScope s_need_number) := ⟨rfl, rfl, rfl, by decide +kernel, rfl, by decide +kernel, by decide +kernel⟩
abbrev s_need_width : Stmt := top 19
theorem sc_need_width : FnScope ["width"] ["width"] (defScope s_need_width) := ⟨rfl, rfl, rfl, by decide +kernel, rfl, by decide +kernel, by decide +kernel⟩
abbrev s_look_at : Stmt := top 26
theorem sc_look_at : FnScope ["numbers", "beginning", "some", "number"] ["numbers", "beginning"] (defScope s_look_at) := ⟨rfl, rfl, rfl, by decide +kernel, rfl, by decide +kernel, by decide +kernel⟩
abbrev s_need_kind : Stmt := top 29
theorem sc_need_kind : FnScope ["kind"] ["kind"] (defScope s_need_kind) := ⟨rfl, rfl, rfl, by decide +kernel, rfl, by decide +kernel, by decide +kernel⟩
def bitsD : PyData → Bool
  | .str x => bitsS x
  | _ => false
def numD (w : Int) : PyData → Bool
  | .str x => bitsS x && decide ((x.length : Int) = w)
  | _ => false
def OkD (d : PyData) : Prop := PyData.canLay0 d = true ∧ ∀ x, d = .str x → x.length ≤ 100000
theorem okD_bits {l : List Bool} (h : l.length ≤ 100000) : OkD (.str (B l)) := ⟨lay_B l, fun x e => by cases e; rw [B_len]; exact h⟩
theorem numD_bits (l : List Bool) (w : Nat) : numD (w : Int) (.str (B l)) = decide (l.length = w) := by
  simp only [numD, bits_B, Bool.true_and, B_len]
  by_cases h : l.length = w
  · simp [h]
  · rw [decide_eq_false h]
    exact decide_eq_false (by omega)
def sp_are_bits (K : PySem.W.Frag) : Sp := fun vs H Q _ => ∃ (v : V) (d : PyData), vs = [v] ∧ Dq K H v d ∧ OkD d ∧ ∀ H', Ext H H' → Q (.bl (bitsD d)) H'
def sp_is_number (K : PySem.W.Frag) : Sp := fun vs H Q _ => ∃ (w : Int) (v : V) (d : PyData), vs = [.int w, v] ∧ Dq K H v d ∧ OkD d ∧ ∀ H', Ext H H' → Q (.bl (numD w d)) H'
def sp_need_number (K : PySem.W.Frag) (c : Addr) : Sp := fun vs H Q E => ∃ (w : Int) (v : V) (d : PyData), vs = [.int w, v] ∧ Dq K H v d ∧ OkD d ∧ (numD w d = true → ∀ H', Ext H H' → Q .non H') ∧ (numD w d = false → ∀ H', Ext H H' → E (.ref c) none H')
def sp_need_width (c : Addr) : Sp := fun vs H Q E => ∃ (w : Int), vs = [.int w] ∧ (1 ≤ w ∧ w ≤ 12 → Q .non H) ∧ (¬ (1 ≤ w ∧ w ≤ 12) → E (.ref c) none H)
theorem u_are_bits {K : PySem.W.Frag} {H : Hp} {Q : VK} {E : XK} {v : V} {d : PyData} (h : Dq K H v d) (h2 : OkD d) (k : ∀ H', Ext H H' → Q (.bl (bitsD d)) H') : sp_are_bits K ([v] ++ []) H Q E := ⟨v, d, rfl, h, h2, k⟩
theorem u_is_number {K : PySem.W.Frag} {H : Hp} {Q : VK} {E : XK} {w : Int} {v : V} {d : PyData} (h : Dq K H v d) (h2 : OkD d) (k : ∀ H', Ext H H' → Q (.bl (numD w d)) H') : sp_is_number K ([.int w, v] ++ []) H Q E := ⟨w, v, d, rfl, h, h2, k⟩
/-- a number of the width -/
theorem u_need_number {K : PySem.W.Frag} {H : Hp} {Q : VK} {E : XK} {c : Addr} {w : Int} {v : V} {d : PyData} (h : Dq K H v d) (h2 : OkD d) (k : numD w d = true → ∀ H', Ext H H' → Q .non H') (k2 : numD w d = false → ∀ H', Ext H H' → E (.ref c) none H') :
    sp_need_number K c ([.int w, v] ++ []) H Q E := ⟨w, v, d, rfl, h, h2, k, k2⟩
def sp_look_at (K : PySem.W.Frag) : Sp := fun vs H Q _ => ∃ (a : Addr) (ls : List (List Bool)) (p : List Bool), vs = [.ref a, .str (B p)] ∧ (SqL K H a (bvs ls) ∨ SqT K H a (bvs ls)) ∧ ls.length ≤ 1000 ∧ (∀ l ∈ ls, p.length < l.length ∧ l.length ≤ 1000) ∧
  ∀ (t : Addr) (H' : Hp), H t = none → Ext H H' → H' t = some (.tup [.bl (lookZ ls p false), .bl (lookZ ls p true)]) → Q (.ref t) H'
theorem u_look_at {K : PySem.W.Frag} {H : Hp} {Q : VK} {E : XK} {a : Addr} {ls : List (List Bool)} {p : List Bool} (h1 : SqL K H a (bvs ls)) (h2 : ls.length ≤ 1000) (h3 : ∀ l ∈ ls, p.length < l.length ∧ l.length ≤ 1000)
    (k : ∀ (t : Addr) (H' : Hp), H t = none → Ext H H' → H' t = some (.tup [.bl (lookZ ls p false), .bl (lookZ ls p true)]) → Q (.ref t) H') : sp_look_at K ([.ref a, .str (B p)] ++ []) H Q E := ⟨a, ls, p, rfl, .inl h1, h2, h3, k⟩
/-- the kinds -/
def sp_need_kind (c : Addr) : Sp := fun vs H Q E => ∃ (x : Str), vs = [.str x] ∧ (x = "all" ∨ x = "alarm" → Q .non H) ∧ (¬ (x = "all" ∨ x = "alarm") → E (.ref c) none H)
section
variable {P : Program} {w : World} {K : PySem.W.Frag} {mg : Str → Option Value} {base : Heap}
theorem ok_are_bits {f : Addr} {fd : FuncData} (F : Fun K "are_bits" "are_bits" s_are_bits f fd) (T : TxB mg) : FnOk P w K mg base (L2.CX P w) 1 f fd ["part"] (sp_are_bits K) := by
  refine F.okX sc_are_bits (fun vs H Q E h => ?_) (fun cdv A outer s H vs Q E hr h => ⟨_, (pss_one (ps_ret (pe_and (pe_callB (cIsi (K := K) rfl) (by rfl) T.n_isinstance (by decide +kernel) (pa_cons (pv 0) (pa_cons (pe_bltn (v := .ty "str") rfl T.n_str (by decide +kernel) rfl) pa_nil))) (pe_one (pe_cmpR (oEqD (K := K) rfl hr.units) (pe_lc (own := [("sign", 1)]) (g := gName 1) rfl sc_are_bits.nd (pi_str (pv 0)) (blkOk_by (own := [("sign", 1)]) (N := ["part", "sign"]) (sc := defScope s_are_bits) (by decide +kernel)) (fun _ _ _ _ _ => pg_name (i := 1) sc_are_bits.nd rfl (Or.inl rfl)) (fun _ _ _ _ _ => pts_one (pt_cmpR o_notSg (pv 1) pe_str rfl)) (fun _ _ _ _ _ => (pv 1))) (pe_lst pa_nil) (nomark _)))))), ?_⟩)
  · obtain ⟨v, d, rfl, _⟩ := h
    rfl
  · obtain ⟨v, d, rfl, hv, hd, k⟩ := h
    cases hv with
    | str x =>
      have hv : Dq K H (.str x) (.str x) := .str x
      tm_at "e"
      refine lcF src_str (fun i acc => acc = ((x.cps.toList.take i).filter fun c => !bitC c).map fun c => V.str ⟨#[c]⟩) rfl (fun i acc e => by
          rw [e]
          have := nsh_strs (((x.cps.toList.take i).filter fun c => !bitC c).map fun c => (⟨#[c]⟩ : Str))
          rw [List.map_map] at this
          exact this) (hd.2 x rfl) (fun _ => rfl) (fun i z acc H2 NF NE hi hz ha e2 kF kE => ?_) fun D acc H2 ha hD e2 hDa hl => ?_
      · obtain ⟨c, hc, rfl⟩ := hz
        have et : x.cps.toList.take (i + 1) = x.cps.toList.take i ++ [c] := by
          rw [List.take_succ, hc]
          rfl
        tm_at "r"
        rw [mem_01]
        tm_at "r"
        refine w_iteB (fun hb => ?_) fun hb => ?_
        · tm_at "r"
          refine kE _ _ (Ext.refl _) ?_
          rw [et, List.filter_append, List.map_append, ha]
          simp [hb]
        · refine kF _ (Ext.refl _) ?_
          rw [et, List.filter_append, List.map_append, ha]
          simp [hb]
      · have el : x.cps.toList.take x.length = x.cps.toList := List.take_of_length_le (by simp [Str.length])
        rw [el] at ha
        tm_at "r"
        intro t H3 ht e3 ht3
        have hb : (decide (((x.cps.toList).filter fun c => !bitC c) = []) : Bool) = bitsS x := by
          unfold bitsS
          rw [Bool.eq_iff_iff, decide_eq_true_iff, List.all_eq_true, List.filter_eq_nil_iff]
          simp
        have hDa3 : SqL K H3 D acc := by
          refine e3.seq ?_ (SqL.of hDa)
          rw [ha]
          have := nsh_strs (((x.cps.toList).filter fun c => !bitC c).map fun c => (⟨#[c]⟩ : Str))
          rw [List.map_map] at this
          exact this
        have hdp : Dp K H3 (.ref D) (.list (((x.cps.toList).filter fun c => !bitC c).map fun c => PyData.str ⟨#[c]⟩)) := by
          refine .lst hDa3 ?_
          rw [ha]
          exact dpAll_map (fun c => .str _) _
        have hlay : ∀ c ∈ x.cps.toList, PyData.canLay0 (.str ⟨#[c]⟩) = true := fun c hc => by
          have h0 := hd.1
          simp only [PyData.canLay0, PyData.strOk] at h0 ⊢
          rw [Array.all_eq_true'] at h0
          have := h0 c (by simpa using hc)
          simpa using this
        refine w_eqD hdp (dp_nil (SqL.of ht3)) (shaped_mk (n := 1) ?_ ?_ (by decide)) (shaped_mk (n := 1) (by simp [PyData.canLay0, PyData.canLayAll0]) (by simp [PyData.depth, PyData.depthAll]) (by decide)) ?_
        · simp only [PyData.canLay0]
          refine lay_all fun y hy => ?_
          obtain ⟨c, hc, rfl⟩ := List.mem_map.mp hy
          exact hlay c (List.mem_filter.mp hc).1
        · simp only [PyData.depth]
          have := dep_all (n := 0) (xs := ((x.cps.toList).filter fun c => !bitC c).map fun c => PyData.str ⟨#[c]⟩) fun y hy => by
            obtain ⟨c, hc, rfl⟩ := List.mem_map.mp hy
            simp [PyData.depth]
          omega
        · have ee : PyData.eqv (.list (((x.cps.toList).filter fun c => !bitC c).map fun c => PyData.str ⟨#[c]⟩)) (.list []) = bitsS x := by
            rw [← hb]
            cases h : (x.cps.toList).filter fun c => !bitC c with
            | nil => simp [PyData.eqv, PyData.eqvAll]
            | cons c cs => simp [PyData.eqv, PyData.eqvAll]
          rw [ee]
          exact k _ (e2.trans e3)
    | non =>
      have hv : Dq K H .non .none := .non
      tm_at "e"
      exact k _ (Ext.refl _)
    | bl b =>
      have hv : Dq K H (.bl b) (.bool b) := .bl b
      tm_at "e"
      exact k _ (Ext.refl _)
    | int i =>
      have hv : Dq K H (.int i) (.int i) := .int i
      tm_at "e"
      exact k _ (Ext.refl _)
    | lst h n hz hs =>
      have hv : Dq K H _ _ := .lst h n hz hs
      tm_at "e"
      exact k _ (Ext.refl _)
    | tup h hz hs =>
      have hv : Dq K H _ _ := .tup h hz hs
      tm_at "e"
      exact k _ (Ext.refl _)
theorem ok_is_number {f : Addr} {fd : FuncData} (F : Fun K "is_number" "is_number" s_is_number f fd) (T : TxB mg) (C_are_bits : Cal P w K mg base 1 "are_bits" ["part"] (sp_are_bits K)) : FnOk P w K mg base (L2.CX P w) 2 f fd ["width", "part"] (sp_is_number K) := by
  refine F.okX sc_is_number (fun vs H Q E h => ?_) (fun cdv A outer s H vs Q E hr h => ⟨_, (pss_one (ps_ret (pe_and (pe_cal (E := E0) C_are_bits (hr.mono (by first | decide | omega)) passL (pa_cons (pv 1) pa_nil)) (pe_one (pe_cmpR op_eq (pe_callB c_lenT (by rfl) T.n_len (by decide +kernel) (pa_cons (pv 1) pa_nil)) (pv 0) (nomark _)))))), ?_⟩)
  · obtain ⟨w, v, d, rfl, _⟩ := h
    rfl
  · obtain ⟨n, v, d, rfl, hv, hd, k⟩ := h
    tm_at "r"
    refine u_are_bits hv hd fun H1 e1 => ?_
    tm_at "r"
    refine w_iteB (fun hb => ?_) fun hb => ?_
    · cases hv with
      | str x =>
        tm_at "r"
        refine w_lenS (hd.2 x rfl) ?_
        tm_at "r"
        have : decide ((x.length : Int) = n) = numD n (.str x) := by
          simp only [bitsD] at hb
          simp only [numD, hb, Bool.true_and]
        rw [this]
        exact k _ e1
      | _ => simp [bitsD] at hb
    · have : false = numD n d := by
        cases d <;> simp_all [bitsD, numD]
      rw [this]
      exact k _ e1
theorem ok_need_number {f c : Addr} {fd : FuncData} (F : Fun K "need_number" "need_number" s_need_number f fd) (T : TxB mg) (C_is_number : Cal P w K mg base 2 "is_number" ["width", "part"] (sp_is_number K)) (X_BadNumber : ExcC K mg "BadNumber" c) :
    FnOk P w K mg base (L2.CX P w) 3 f fd ["width", "part"] (sp_need_number K c) := by
  refine F.okX sc_need_number (fun vs H Q E h => ?_) (fun cdv A outer s H vs Q E hr h => ⟨_, (pss_one (ps_if (pt_not (pt_val (pe_cal (E := E) C_is_number (hr.mono (by first | decide | omega)) (passes_call (takes_of rfl rfl rfl rfl) (fun _ _ _ _ h => h)) (pa_cons (pv 0) (pa_cons (pv 1) pa_nil)))))
 (pss_one (ps_raise rfl (takes_of rfl rfl rfl rfl) (pmkC X_BadNumber)))
 pss_nil)), ?_⟩)
  · obtain ⟨w, v, d, rfl, _⟩ := h
    rfl
  · obtain ⟨n, v, d, rfl, hv, hd, k, k2⟩ := h
    tm_at "r"
    refine u_is_number hv hd fun H1 e1 => ?_
    tm_at "r"
    refine w_iteB (fun hb => ?_) fun hb => ?_
    · exact k2 (by simpa using hb) _ e1
    · tm_at "r"
      exact k (by simpa using hb) _ e1
theorem ok_need_width {f c : Addr} {fd : FuncData} {tw : Tok} (F : Fun K "need_width" "need_width" s_need_width f fd) (T : TxB mg) (k_MOST_WIDTH : mg "MOST_WIDTH" = some (.int 12 tw)) (X_BadWidth : ExcC K mg "BadWidth" c) :
    FnOk P w K mg base (L2.CX P w) 1 f fd ["width"] (sp_need_width c) := by
  refine F.okX sc_need_width (fun vs H Q E h => ?_) (fun cdv A outer s H vs Q E hr h => ⟨_, (pss_one (ps_if (PW.pt (pw_or (pt_not (pt_val (pe_callB (cIsi (K := K) rfl) (by rfl) T.n_isinstance (by decide +kernel) (pa_cons (pv 0) (pa_cons (pe_bltn (v := .ty "int") rfl T.n_int (by decide +kernel) rfl) pa_nil))))) (pw_or (pt_val (pe_callB (cIsi (K := K) rfl) (by rfl) T.n_isinstance (by decide +kernel) (pa_cons (pv 0) (pa_cons (pe_bltn (v := .ty "bool") rfl T.n_bool (by decide +kernel) rfl) pa_nil)))) (pw_or1 (pt_not (pt_chain op_le op_le pe_int (pv 0) (pe_glob (v := .int 12) rfl k_MOST_WIDTH ⟨_, rfl⟩)))))))
 (pss_one (ps_raise rfl (takes_of rfl rfl rfl rfl) (pmkC X_BadWidth)))
 pss_nil)), ?_⟩)
  · obtain ⟨w, rfl, _⟩ := h
    rfl
  · obtain ⟨n, rfl, k, k2⟩ := h
    have hv : Dq K H (.int n) (.int n) := .int n
    tm_at "r"
    tm_at "b"
    tm_at "r"
    tm_at "b"
    tm_at "r"
    refine w_iteD (fun c1 => ?_) fun c1 => ?_
    · tm_at "r"
      by_cases c2 : n ≤ 12
      · rw [decide_eq_true c2]
        tm_at "r"
        tm_at "b"
        tm_at "r"
        exact k ⟨c1, c2⟩
      · rw [decide_eq_false c2]
        tm_at "r"
        tm_at "b"
        exact k2 fun h => c2 h.2
    · tm_at "r"
      tm_at "b"
      exact k2 fun h => c1 h.1
theorem ok_look_at {f : Addr} {fd : FuncData} (F : Fun K "look_at" "look_at" s_look_at f fd) (T : TxB mg) : FnOk P w K mg base (L2.CX P w) 1 f fd ["numbers", "beginning"] (sp_look_at K) := by
  refine F.okX sc_look_at (fun vs H Q E h => ?_) (fun cdv A outer s H vs Q E hr h => ⟨_, (pss_cons (ps_setLc (i := 2) (own := [("number", 3)]) (g := gName 3) rfl sc_look_at.nd rfl rfl (sw_true rfl rfl rfl (by decide +kernel)) (pi_or (piL (K := K) rfl (pv 0)) (piT (K := K) rfl (pv 0))) (blkOk_by (own := [("number", 3)]) (N := ["numbers", "beginning", "some", "number"]) (sc := defScope s_look_at) (by decide +kernel)) (fun _ _ _ _ _ => pg_name (i := 3) sc_look_at.nd rfl (Or.inl rfl)) (fun _ _ _ _ _ => pts_one (pt_val (pe_m1 PySem.F.slot_str_startswith PySem.F.type_str_startswith m_starts (pv 3) (pv 1)))) (fun _ _ _ _ _ => (pe_ix ix_str (pv 3) (pe_callB c_lenT (by rfl) T.n_len (by decide +kernel) (pa_cons (pv 1) pa_nil)) (fun _ _ => rfl))))
 (pss_one (ps_ret (pe_tup (pa_cons (pe_cmpR (oIn (K := K) rfl) pe_str (pv 2) (by rfl)) (pa_cons (pe_cmpR (oIn (K := K) rfl) pe_str (pv 2) (by rfl)) pa_nil)))))), ?_⟩)
  · obtain ⟨a, ls, p, rfl, _⟩ := h
    rfl
  · obtain ⟨a, ls, p, rfl, ha, hz, hl, k⟩ := h
    tm_at "r"
    rcases ha with ha | ha
    · refine w_iorL ?_
      tm_at "r"
      refine lcF (src_lst ha (nsh_bvs _)) (fun i acc => acc = bvs (((ls.take i).filter fun l => decide (p <+: l)).map fun l => [l.getD p.length false])) rfl (fun i acc e => by rw [e]; exact nsh_bvs _) (by rw [bvs_len]; omega) (fun _ => rfl) (fun i z acc H2 NF NE hi hx hacc e2 kF kE => ?_) fun D acc H2 hacc hD e2 hDa _ => ?_
      · obtain ⟨l, hl1, rfl⟩ := bvs_get hx
        have et : ls.take (i + 1) = ls.take i ++ [l] := by
          rw [List.take_succ, hl1]
          rfl
        have hlen := hl l (List.mem_of_getElem? hl1)
        tm_at "r"
        rw [starts_B]
        tm_at "r"
        refine w_iteD (fun hb => ?_) fun hb => ?_
        · tm_at "r"
          refine w_lenS (by rw [B_len]; omega) ?_
          rw [B_len]
          obtain ⟨b, hb1⟩ : ∃ b, l[p.length]? = some b := ⟨l[p.length]'hlen.1, List.getElem?_eq_getElem hlen.1⟩
          refine w_ixS (by rw [B_len]; omega) (B_at (atI_k hb1)) ?_
          refine kE _ _ (Ext.refl _) ?_
          rw [et, List.filter_append, List.map_append, hacc, ← bvs_append]
          congr 1
          simp [hb, bvs, bv, List.getD_eq_getElem?_getD, hb1]
          rfl
        · refine kF _ (Ext.refl _) ?_
          rw [et, List.filter_append, List.map_append, hacc]
          simp [hb]
      · rw [bvs_len, List.take_length] at hacc
        subst hacc
        tm_at "r"
        refine w_in (SqL.of hDa) rfl (bvs_flat _) ?_
        rw [B_0, inV_bvs, lookZ_mem _ _ _ fun l hl2 => (hl l hl2).1]
        tm_at "r"
        refine w_in (SqL.of hDa) rfl (bvs_flat _) ?_
        rw [B_1, inV_bvs, lookZ_mem _ _ _ fun l hl2 => (hl l hl2).1]
        tm_at "r"
        intro t H3 ht e3 ht3
        exact k t H3 (e2.free ht) (e2.trans e3) ht3
    · refine w_iorT ?_
      tm_at "r"
      refine w_tupOk ha ?_
      refine lcF (src_tup ha) (fun i acc => acc = bvs (((ls.take i).filter fun l => decide (p <+: l)).map fun l => [l.getD p.length false])) rfl (fun i acc e => by rw [e]; exact nsh_bvs _) (by rw [bvs_len]; omega) (fun _ => rfl) (fun i z acc H2 NF NE hi hx hacc e2 kF kE => ?_) fun D acc H2 hacc hD e2 hDa _ => ?_
      · obtain ⟨l, hl1, rfl⟩ := bvs_get hx
        have et : ls.take (i + 1) = ls.take i ++ [l] := by
          rw [List.take_succ, hl1]
          rfl
        have hlen := hl l (List.mem_of_getElem? hl1)
        tm_at "r"
        rw [starts_B]
        tm_at "r"
        refine w_iteD (fun hb => ?_) fun hb => ?_
        · tm_at "r"
          refine w_lenS (by rw [B_len]; omega) ?_
          rw [B_len]
          obtain ⟨b, hb1⟩ : ∃ b, l[p.length]? = some b := ⟨l[p.length]'hlen.1, List.getElem?_eq_getElem hlen.1⟩
          refine w_ixS (by rw [B_len]; omega) (B_at (atI_k hb1)) ?_
          refine kE _ _ (Ext.refl _) ?_
          rw [et, List.filter_append, List.map_append, hacc, ← bvs_append]
          congr 1
          simp [hb, bvs, bv, List.getD_eq_getElem?_getD, hb1]
          rfl
        · refine kF _ (Ext.refl _) ?_
          rw [et, List.filter_append, List.map_append, hacc]
          simp [hb]
      · rw [bvs_len, List.take_length] at hacc
        subst hacc
        tm_at "r"
        refine w_in (SqL.of hDa) rfl (bvs_flat _) ?_
        rw [B_0, inV_bvs, lookZ_mem _ _ _ fun l hl2 => (hl l hl2).1]
        tm_at "r"
        refine w_in (SqL.of hDa) rfl (bvs_flat _) ?_
        rw [B_1, inV_bvs, lookZ_mem _ _ _ fun l hl2 => (hl l hl2).1]
        tm_at "r"
        intro t H3 ht e3 ht3
        exact k t H3 (e2.free ht) (e2.trans e3) ht3
theorem ok_need_kind {f c a_KINDS : Addr} {fd : FuncData} (F : Fun K "need_kind" "need_kind" s_need_kind f fd) (T : TxB mg) (k_KINDS : mg "KINDS" = some (.ref a_KINDS)) (t_KINDS : ∀ H, SqT K H a_KINDS [.str "all", .str "alarm"]) (X_BadKind : ExcC K mg "BadKind" c) :
    FnOk P w K mg base (L2.CX P w) 1 f fd ["kind"] (sp_need_kind c) := by
  refine F.okX sc_need_kind (fun vs H Q E h => ?_) (fun cdv A outer s H vs Q E hr h => ⟨_, (pss_one (ps_if (pt_cmpR (oNotIn (K := K) rfl) (pv 0) (pe_glob (v := .ref a_KINDS) rfl k_KINDS rfl) (by rfl))
 (pss_one (ps_raise rfl (takes_of rfl rfl rfl rfl) (pmkC X_BadKind)))
 pss_nil)), ?_⟩)
  · obtain ⟨w, rfl, _⟩ := h
    rfl
  · obtain ⟨x, rfl, k, k2⟩ := h
    tm_at "r"
    refine w_inT (t_KINDS H) rfl rfl ?_
    have e : inV (.str x) [V.str "all", V.str "alarm"] = decide (x = "all" ∨ x = "alarm") := by
      simp only [inV, List.any_cons, List.any_nil, Bool.or_false, eqV]
      rw [Bool.eq_iff_iff]
      simp only [Bool.or_eq_true, beq_iff_eq, decide_eq_true_eq]
      constructor
      · rintro (h | h)
        · exact .inl h.symm
        · exact .inr h.symm
      · rintro (h | h)
        · exact .inl h.symm
        · exact .inr h.symm
    rw [e]
    tm_at "r"
    refine w_iteN (fun h => ?_) fun h => ?_
    · exact k2 h
    · tm_at "r"
      exact k h
end
end My
end

section
open PySem L2 Lw
local macro_rules | `(tactic| tm_at "s") => `(tactic| first
  | with_reducible refine w_seq ?_ | with_reducible refine w_asg ?_ | with_reducible refine w_gname ?_ | with_reducible refine w_ret ?_ | with_reducible refine w_drop ?_ | with_reducible refine w_ifS ?_ | with_reducible refine w_next ?_ | with_reducible refine w_retN ?_
  | with_reducible refine w_c ?_ | ((with_reducible refine w_var (v := ?vv) ?hh ?kk); (case hh => exact rfl)) | with_reducible refine w_op ?_ | with_reducible refine w_un ?_ | with_reducible refine w_cons ?_ | with_reducible refine w_nil ?_ | with_reducible refine w_test ?_ | with_reducible refine w_B ?_
  | with_reducible refine w_isbl ?_ | with_reducible refine w_not ?_ | with_reducible refine w_and ?_ | with_reducible refine w_or ?_ | with_reducible refine w_andV ?_ | with_reducible refine w_orV ?_ | with_reducible refine w_notV ?_ | with_reducible refine w_if ?_ | with_reducible refine w_chain ?_
  | with_reducible refine w_isN ?_ | with_reducible refine w_notN ?_ | with_reducible refine w_yes ?_ | with_reducible refine w_call ?_ | with_reducible refine w_CB ?_ | with_reducible refine w_tup ?_ | with_reducible refine w_lst ?_ | with_reducible refine w_sl ?_ | with_reducible refine w_noPart ?_
  | with_reducible refine w_part ?_ | with_reducible refine w_isint ?_ | with_reducible refine w_gSub ?_ | with_reducible refine w_break ?_ | with_reducible refine w_cont ?_
  | with_reducible refine w_I0 ?_ | with_reducible refine w_eqI ?_ | with_reducible refine w_neI ?_ | with_reducible refine w_eqS ?_ | with_reducible refine w_neS ?_ | with_reducible refine w_eqB ?_ | with_reducible refine w_neB ?_ | ((with_reducible refine w_isi (d := ?dd) ?hh ?kk); (case hh => assumption))
  | with_reducible refine w_sg ?_ | with_reducible refine w_notSg ?_ | with_reducible refine w_starts ?_ | with_reducible refine w_max2 ?_ | with_reducible refine w_min2 ?_ | with_reducible refine w_intB ?_ | with_reducible refine w_intI ?_ | with_reducible refine w_bm ?_ | with_reducible refine w_bm0 ?_ | with_reducible refine w_m1 ?_ | with_reducible refine w_m0 ?_ | with_reducible refine w_isstr ?_
  | with_reducible refine w_for ?_ | with_reducible refine w_lc ?_ | with_reducible refine w_rng ?_ | with_reducible refine w_rng2 ?_ | with_reducible refine w_ilist ?_ | with_reducible refine w_itup ?_ | with_reducible refine w_istr ?_ | with_reducible refine w_strOk ?_
  | ((with_reducible refine w_rngOk ?hh ?h2 ?kk); (case hh => omega); (case h2 => omega)) | ((with_reducible refine w_lstOk (xs := ?xx) ?hh ?kk); (case hh => assumption))
  | ((with_reducible refine w_alL ?hh ?kk); (case hh => exact Nat.le_of_ble_eq_true rfl)) | ((with_reducible refine w_alT ?hh ?kk); (case hh => exact Nat.le_of_ble_eq_true rfl))
  | ((with_reducible refine w_lenL (xs := ?xx) ?hh ?kk); (case hh => assumption)) | ((with_reducible refine w_lenT (xs := ?xx) ?hh ?kk); (case hh => assumption))
  | ((with_reducible refine w_I ?hh ?kk); (case hh => first | (show _ ≠ (0 : Int); omega) | (show (0 : Int) < _; omega) | exact ⟨by omega, by omega⟩ | exact .inl ⟨by omega, by omega⟩ | exact .inr ⟨by omega, by omega⟩ | exact ⟨by decide, by decide, by decide⟩))
  | with_reducible refine w_din ?_ | with_reducible refine w_dnot ?_ | with_reducible refine w_dget ?_ | with_reducible refine w_dput ?_ | with_reducible refine w_fld ?_ | with_reducible refine w_sto ?_ | with_reducible refine w_meth ?_ | with_reducible refine w_pop1 ?_ | with_reducible refine w_pop2 ?_ | with_reducible refine w_ikeys ?_
  | ((with_reducible refine f_width (CW := ?v1) (dx := ?v2) (t := ?v3) (l := ?v4) (w := ?v5) (told := ?v6) (many := ?v7) ?tw ?hh ?kk); (case tw => assumption); (case hh => assumption))
  | ((with_reducible refine f_things (CW := ?v1) (dx := ?v2) (t := ?v3) (l := ?v4) (w := ?v5) (told := ?v6) (many := ?v7) ?tw ?hh ?kk); (case tw => assumption); (case hh => assumption))
  | ((with_reducible refine f_listening (CW := ?v1) (dx := ?v2) (t := ?v3) (l := ?v4) (w := ?v5) (told := ?v6) (many := ?v7) ?tw ?hh ?kk); (case tw => assumption); (case hh => assumption))
  | ((with_reducible refine f_tolds (CW := ?v1) (dx := ?v2) (t := ?v3) (l := ?v4) (w := ?v5) (b := ?v6) (many := ?v7) ?tw ?hh ?kk); (case tw => assumption); (case hh => assumption))
  | ((with_reducible refine f_told (CW := ?v1) (dx := ?v2) (t := ?v3) (l := ?v4) (w := ?v5) (told := ?v6) (many := ?v7) ?tw ?hh ?kk); (case tw => assumption); (case hh => assumption))
  | ((with_reducible refine f_many (CW := ?v1) (dx := ?v2) (t := ?v3) (l := ?v4) (w := ?v5) (told := ?v6) (many := ?v7) ?tw ?hh ?kk); (case tw => assumption); (case hh => assumption))
  | ((with_reducible refine w_ixL (v := ?vv) (xs := ?xx) ?hh ?h2 ?kk); (case hh => assumption); (case h2 => exact rfl)) | ((with_reducible refine w_ixT (v := ?vv) (xs := ?xx) ?hh ?h2 ?kk); (case hh => assumption); (case h2 => exact rfl)))
local macro_rules | `(tactic| tm_at "r") => `(tactic| repeat tm_at "s")
local macro_rules | `(tactic| tm_at "b") => `(tactic| first | refine w_iteT (by with_reducible rfl) ?_ | refine w_iteF (by with_reducible rfl) ?_ | refine w_iteT (by rfl) ?_ | refine w_iteF (by rfl) ?_)
local macro_rules | `(tactic| tm_at "e") => `(tactic| repeat (first | tm_at "s" | tm_at "b"))
namespace My
def bi (c : Bool) : Int := if c then 1 else 0
theorem str_bi (c : Bool) : (Str.ofString (toString (bi c)) : Str) = B [c] := by cases c <;> decide +kernel
abbrev s_Wire_init : Stmt := inClass (top 30) 0
theorem sc_Wire_init : FnScope ["self", "width"] ["self", "width"] (defScope s_Wire_init) := ⟨rfl, rfl, rfl, by decide +kernel, rfl, by decide +kernel, by decide +kernel⟩
abbrev s_Wire_hang : Stmt := inClass (top 30) 1
theorem sc_Wire_hang : FnScope ["self", "number"] ["self", "number"] (defScope s_Wire_hang) := ⟨rfl, rfl, rfl, by decide +kernel, rfl, by decide +kernel, by decide +kernel⟩
abbrev s_Wire_need_thing : Stmt := inClass (top 30) 2
theorem sc_Wire_need_thing : FnScope ["self", "number"] ["self", "number"] (defScope s_Wire_need_thing) := ⟨rfl, rfl, rfl, by decide +kernel, rfl, by decide +kernel, by decide +kernel⟩
abbrev s_Wire_off : Stmt := inClass (top 30) 3
theorem sc_Wire_off : FnScope ["self", "number"] ["self", "number"] (defScope s_Wire_off) := ⟨rfl, rfl, rfl, by decide +kernel, rfl, by decide +kernel, by decide +kernel⟩
abbrev s_Wire_alarm : Stmt := inClass (top 30) 4
theorem sc_Wire_alarm : FnScope ["self", "number"] ["self", "number"] (defScope s_Wire_alarm) := ⟨rfl, rfl, rfl, by decide +kernel, rfl, by decide +kernel, by decide +kernel⟩
abbrev s_Wire_calm : Stmt := inClass (top 30) 5
theorem sc_Wire_calm : FnScope ["self", "number"] ["self", "number"] (defScope s_Wire_calm) := ⟨rfl, rfl, rfl, by decide +kernel, rfl, by decide +kernel, by decide +kernel⟩
abbrev s_Wire_hung : Stmt := inClass (top 30) 6
theorem sc_Wire_hung : FnScope ["self"] ["self"] (defScope s_Wire_hung) := ⟨rfl, rfl, rfl, by decide +kernel, rfl, by decide +kernel, by decide +kernel⟩
abbrev s_Wire_begin : Stmt := inClass (top 30) 8
theorem sc_Wire_begin : FnScope ["self", "kind", "number"] ["self", "kind"] (defScope s_Wire_begin) := ⟨rfl, rfl, rfl, by decide +kernel, rfl, by decide +kernel, by decide +kernel⟩
abbrev s_Wire_need_round : Stmt := inClass (top 30) 9
theorem sc_Wire_need_round : FnScope ["self"] ["self"] (defScope s_Wire_need_round) := ⟨rfl, rfl, rfl, by decide +kernel, rfl, by decide +kernel, by decide +kernel⟩
abbrev s_Wire_look : Stmt := inClass (top 30) 10
theorem sc_Wire_look : FnScope ["self"] ["self"] (defScope s_Wire_look) := ⟨rfl, rfl, rfl, by decide +kernel, rfl, by decide +kernel, by decide +kernel⟩
abbrev s_Wire_say : Stmt := inClass (top 30) 11
theorem sc_Wire_say : FnScope ["self", "bit", "number"] ["self", "bit"] (defScope s_Wire_say) := ⟨rfl, rfl, rfl, by decide +kernel, rfl, by decide +kernel, by decide +kernel⟩
abbrev s_Wire_looks : Stmt := inClass (top 30) 12
theorem sc_Wire_looks : FnScope ["self"] ["self"] (defScope s_Wire_looks) := ⟨rfl, rfl, rfl, by decide +kernel, rfl, by decide +kernel, by decide +kernel⟩
section
variable (K : PySem.W.Frag) (CW cW cN cT cNT cK cR cB : Addr)
def sp_winit : Sp := fun vs H Q E => ∃ (a dx : Addr) (w : Int), vs = [.ref a, .int w] ∧ H a = some (.ins CW dx []) ∧ (¬ (1 ≤ w ∧ w ≤ 12) → E (.ref cW) none H) ∧
  ∀ (n : Nat) (t l : Addr) (H' : Hp), w = (n : Int) → 1 ≤ n → n ≤ 12 → WAt CW a dx t l ⟨n, [], [], none, 0⟩ H' → Step [a] [a, t, l] H H' → Q .non H'
def sp_hang : Sp := fun vs H Q E => ∃ (a dx t l : Addr) (M : WM) (v : V) (d : PyData), vs = [.ref a, v] ∧ WAt CW a dx t l M H ∧ WOk M ∧ M.things.length < 60 ∧ Dq K H v d ∧ OkD d ∧
  (numD M.width d = false → ∀ H', Ext H H' → E (.ref cN) none H') ∧
  (∀ x, d = .str (B x) → x.length = M.width → x ∈ M.keys → ∀ H', Ext H H' → E (.ref cT) none H') ∧
  (∀ x H', d = .str (B x) → x.length = M.width → x ∉ M.keys → WAt CW a dx t l (M.hang x) H' → Step [a, t, l] [a, t, l] H H' → Q .non H')
/-- need_thing; G: what a thing that hangs leads to -/
def sp_thing (G : Addr → Addr → Addr → Addr → WM → Bits → Hp → Hp → Prop) : Sp := fun vs H Q E => ∃ (a dx t l : Addr) (M : WM) (v : V) (d : PyData), vs = [.ref a, v] ∧ WAt CW a dx t l M H ∧ WOk M ∧ Dq K H v d ∧ OkD d ∧
  (numD M.width d = false → ∀ H', Ext H H' → E (.ref cN) none H') ∧
  (∀ x, d = .str (B x) → x.length = M.width → x ∉ M.keys → ∀ H', Ext H H' → E (.ref cNT) none H') ∧
  (∀ x H', d = .str (B x) → x.length = M.width → x ∈ M.keys → G a dx t l M x H H' → Q .non H')
def gThing : Addr → Addr → Addr → Addr → WM → Bits → Hp → Hp → Prop := fun _ _ _ _ _ _ H H' => Ext H H'
def gOff : Addr → Addr → Addr → Addr → WM → Bits → Hp → Hp → Prop := fun a dx t l M x H H' => WAt CW a dx t l (M.off x) H' ∧ Step [a, t, l] [a, t, l] H H'
def gSet (b : Bool) : Addr → Addr → Addr → Addr → WM → Bits → Hp → Hp → Prop := fun a dx t l M x H H' => WAt CW a dx t l (M.set x b) H' ∧ Step [a, t, l] [a, t, l] H H'
def sp_hung : Sp := fun vs H Q _ => ∃ (a dx t l : Addr) (M : WM), vs = [.ref a] ∧ WAt CW a dx t l M H ∧ WOk M ∧
  ∀ (p : Addr) (ls : List Bits) (H' : Hp), H p = none → Ext H H' → H' p = some (.lst (bvs ls)) → Rise ls → ls.Perm M.keys → Q (.ref p) H'
def sp_begin : Sp := fun vs H Q E => ∃ (a dx t l : Addr) (M : WM) (x : Str), vs = [.ref a, .str x] ∧ WAt CW a dx t l M H ∧ WOk M ∧ (¬ (x = "all" ∨ x = "alarm") → E (.ref cK) none H) ∧
  ∀ (l' : Addr) (H' : Hp), (x = "all" ∨ x = "alarm") → WAt CW a dx t l' (M.begin (decide (x = "all"))) H' → Step [a, t, l] [a, t, l'] H H' → Q .non H'
def Under (M : WM) (b : Bits) : Prop := M.told = some b ∧ b.length < M.width
def sp_need_round : Sp := fun vs H Q E => ∃ (a dx t l : Addr) (M : WM), vs = [.ref a] ∧ WAt CW a dx t l M H ∧ WOk M ∧ ((∀ b, ¬ Under M b) → E (.ref cR) none H) ∧ (∀ b, Under M b → Q .non H)
def sp_look : Sp := fun vs H Q E => ∃ (a dx t l : Addr) (M : WM), vs = [.ref a] ∧ WAt CW a dx t l M H ∧ WOk M ∧ ((∀ b, ¬ Under M b) → E (.ref cR) none H) ∧
  ∀ (b : Bits) (p : Addr) (H' : Hp), Under M b → H p = none → WAt CW a dx t l M.look H' → Step [a, t, l] [a, t, l] H H' → H' p = some (.tup [.bl (lookZ M.lis b false), .bl (lookZ M.lis b true)]) → Q (.ref p) H'
def sp_say : Sp := fun vs H Q E => ∃ (a dx t l : Addr) (M : WM) (i : Int), vs = [.ref a, .int i] ∧ WAt CW a dx t l M H ∧ WOk M ∧ ((∀ b, ¬ Under M b) → E (.ref cR) none H) ∧ (∀ b, Under M b → ¬ (i = 0 ∨ i = 1) → ∀ H', Ext H H' → E (.ref cB) none H') ∧
  ∀ (b : Bits) (c : Bool) (H' : Hp), Under M b → i = bi c → WAt CW a dx t l (M.say b c) H' → Step [a, t, l] [a, t, l] H H' → Q .non H'
def sp_looks : Sp := fun vs H Q _ => ∃ (a dx t l : Addr) (M : WM), vs = [.ref a] ∧ WAt CW a dx t l M H ∧ Q (.int (M.many : Int)) H
end
theorem num_is {w : Nat} {d : PyData} (h : numD (w : Int) d = true) : ∃ x, d = .str (B x) ∧ x.length = w := by
  cases d with
  | str s =>
    simp only [numD, Bool.and_eq_true, decide_eq_true_eq] at h
    obtain ⟨x, rfl⟩ := bits_is h.1
    exact ⟨x, rfl, by have := h.2; rw [B_len] at this; omega⟩
  | _ => simp [numD] at h
theorem dq_str {K : PySem.W.Frag} {H : Hp} {v : V} {s : Str} (h : Dq K H v (.str s)) : v = .str s := by
  cases h
  rfl
section
variable {P : Program} {w : World} {K : PySem.W.Frag} {mg : Str → Option Value} {base : Heap} {CW : Addr}
theorem ok_winit {f c : Addr} {fd : FuncData} (F : Fun K "__init__" "Wire.__init__" s_Wire_init f fd) (T : TxB mg) (TW : ClW K CW) (C_need_width : Cal P w K mg base 1 "need_width" ["width"] (sp_need_width c)) :
    FnOk P w K mg base (L2.CX P w) 2 f fd ["self", "width"] (sp_winit CW c) := by
  refine F.okX sc_Wire_init (fun vs H Q E h => ?_) (fun cdv A outer s H vs Q E hr h => ⟨_, (pss_cons (ps_expr (pe_cal (E := E) C_need_width (hr.mono (by first | decide | omega)) (passes_call (takes_of rfl rfl rfl rfl) (fun _ _ _ _ h => h)) (pa_cons (pv 1) pa_nil)))
 (pss_cons (sFldK (K := K) rfl (pv 0) (pv 1) rfl)
 (pss_cons (sFldK (K := K) rfl (pv 0) pe_dnewK rfl)
 (pss_cons (sFldK (K := K) rfl (pv 0) pe_dnewK rfl)
 (pss_cons (sFldK (K := K) rfl (pv 0) pe_non rfl)
 (pss_one (sFldK (K := K) rfl (pv 0) pe_int rfl))))))), ?_⟩)
  · obtain ⟨a, dx, n, rfl, _⟩ := h
    rfl
  · obtain ⟨a, dx, n, rfl, ha, kE, k⟩ := h
    tm_at "r"
    refine ⟨n, rfl, fun hn => ?_, fun hn => kE hn⟩
    obtain ⟨m, rfl⟩ : ∃ m : Nat, n = (m : Int) := ⟨n.toNat, by omega⟩
    tm_at "r"
    refine ⟨a, CW, dx, [], rfl, ha, TW.cl, TW.n_width, Nat.le_of_ble_eq_true (by kernel_rfl), ?_⟩
    have m1 : Step [a] [a] H (upd H a (.ins CW dx (putF "width" (.int (m : Int)) []))) := Step.wr ha (by simp)
    have a1 : upd H a (.ins CW dx (putF "width" (.int (m : Int)) [])) a = some (.ins CW dx (putF "width" (.int (m : Int)) [])) := upd_same
    generalize upd H a (.ins CW dx (putF "width" (.int (m : Int)) [])) = H1 at m1 a1 ⊢
    tm_at "r"
    refine w_dnew fun t H2 ht e2 ht2 => ?_
    have a2 := e2.st _ _ a1 nsh_ins
    have nat : t ≠ a := fun e => by rw [e, a1] at ht; cases ht
    tm_at "r"
    refine ⟨a, CW, dx, _, rfl, a2, TW.cl, TW.n_things, Nat.le_of_ble_eq_true (by kernel_rfl), ?_⟩
    have m3 := (m1.trans (Step.of e2)).trans (Step.wr (o := .ins CW dx (putF "things" (.ref t) (putF "width" (.int (m : Int)) []))) a2 (by simp))
    have t3 : upd H2 a (.ins CW dx (putF "things" (.ref t) (putF "width" (.int (m : Int)) []))) t = some (.dK []) := by rw [upd_ne nat]; exact ht2
    have a3 : upd H2 a (.ins CW dx (putF "things" (.ref t) (putF "width" (.int (m : Int)) []))) a = _ := upd_same
    generalize upd H2 a (.ins CW dx (putF "things" (.ref t) (putF "width" (.int (m : Int)) []))) = H3 at m3 t3 a3 ⊢
    tm_at "r"
    refine w_dnew fun l H4 hl e4 hl4 => ?_
    have a4 := e4.st _ _ a3 nsh_ins
    have t4 := e4.st _ _ t3 nsh_dK
    have nal : l ≠ a := fun e => by rw [e, a3] at hl; cases hl
    have ntl : t ≠ l := fun e => by rw [← e, t3] at hl; cases hl
    tm_at "r"
    refine ⟨a, CW, dx, _, rfl, a4, TW.cl, TW.n_listening, Nat.le_of_ble_eq_true (by kernel_rfl), ?_⟩
    tm_at "r"
    refine ⟨a, CW, dx, _, rfl, upd_same, TW.cl, TW.n_told, Nat.le_of_ble_eq_true (by kernel_rfl), ?_⟩
    rw [upd_upd]
    tm_at "r"
    refine ⟨a, CW, dx, _, rfl, upd_same, TW.cl, TW.n_many, Nat.le_of_ble_eq_true (by kernel_rfl), ?_⟩
    rw [upd_upd]
    have ef : putF "many" (.int 0) (putF "told" V.non (putF "listening" (.ref l) (putF "things" (.ref t) (putF "width" (.int (m : Int)) [])))) = wf m t l none 0 := by kernel_rfl
    rw [ef]
    refine k m t l _ rfl (by omega) (by omega) ⟨upd_same, by rw [upd_ne nat]; exact t4, by rw [upd_ne nal]; exact hl4, ntl⟩ ((m3.trans ((Step.of e4).trans (Step.wr a4 (by simp)))).to fun b hb => ?_)
    simp only [List.mem_cons, List.not_mem_nil, or_false] at hb
    rcases hb with rfl | rfl | rfl
    · exact .inl (by simp)
    · exact .inr (m1.free ht)
    · exact .inr (m3.free hl)
theorem ok_hang {f c cT : Addr} {fd : FuncData} (F : Fun K "hang" "Wire.hang" s_Wire_hang f fd) (T : TxB mg) (TW : ClW K CW) (C_need_number : Cal P w K mg base 3 "need_number" ["width", "part"] (sp_need_number K c)) (X_There : ExcC K mg "There" cT) :
    FnOk P w K mg base (L2.CX P w) 4 f fd ["self", "number"] (sp_hang K CW c cT) := by
  have cl_Wire := TW.cl
  refine F.okX sc_Wire_hang (fun vs H Q E h => ?_) (fun cdv A outer s H vs Q E hr h => ⟨_, (pss_cons (ps_expr (pe_cal (E := E) C_need_number (hr.mono (by first | decide | omega)) (passes_call (takes_of rfl rfl rfl rfl) (fun _ _ _ _ h => h)) (pa_cons (pFld (K := K) rfl (pv 0) rfl) (pa_cons (pv 1) pa_nil))))
 (pss_cons (ps_if (pt_cmp (pc_din (hu_of hr) (pv 1) (pFld (K := K) rfl (pv 0) rfl)))
 (pss_one (ps_raise rfl (takes_of rfl rfl rfl rfl) (pmkC X_There)))
 pss_nil)
 (pss_one (ps_dput (hu_of hr) (pFld (K := K) rfl (pv 0) rfl) (pv 1) pe_bl rfl)))), ?_⟩)
  · obtain ⟨a, dx, t, l, M, v, d, rfl, _⟩ := h
    rfl
  · obtain ⟨a, dx, t, l, M, v, d, rfl, W, ok, hz, hv, hd, kN, kT, k⟩ := h
    have ob := W.ob
    tm_at "r"
    refine u_need_number hv hd (fun hn H1 e1 => ?_) (fun hn H1 e1 => kN hn H1 e1)
    obtain ⟨x, rfl, hx⟩ := num_is hn
    have W1 : WAt CW a dx t l M H1 := (oWire CW a dx t l M).ext e1 W
    have ob := W1.ob
    cases dq_str hv
    tm_at "r"
    refine w_dinB (.inl W1.th) ?_
    tm_at "r"
    refine w_iteD (fun hk => ?_) fun hk => ?_
    · exact kT x rfl hx hk H1 e1
    · tm_at "r"
      refine w_dputB (g := V.bl) W1.th (by omega) ?_
      rw [aput_new hk]
      refine k x _ rfl hx hk ⟨?_, upd_same, ?_, W1.tl⟩ ((Step.of e1).trans (Step.wr W1.th (by simp)))
      · rw [upd_ne W1.at_]
        exact W1.ob
      · rw [upd_ne W1.tl.symm]
        exact W1.li
theorem ok_need_thing {f c cNT : Addr} {fd : FuncData} (F : Fun K "need_thing" "Wire.need_thing" s_Wire_need_thing f fd) (T : TxB mg) (TW : ClW K CW) (C_need_number : Cal P w K mg base 3 "need_number" ["width", "part"] (sp_need_number K c)) (X_NotThere : ExcC K mg "NotThere" cNT) :
    FnOk P w K mg base (L2.CX P w) 4 f fd ["self", "number"] (sp_thing K CW c cNT gThing) := by
  have cl_Wire := TW.cl
  refine F.okX sc_Wire_need_thing (fun vs H Q E h => ?_) (fun cdv A outer s H vs Q E hr h => ⟨_, (pss_cons (ps_expr (pe_cal (E := E) C_need_number (hr.mono (by first | decide | omega)) (passes_call (takes_of rfl rfl rfl rfl) (fun _ _ _ _ h => h)) (pa_cons (pFld (K := K) rfl (pv 0) rfl) (pa_cons (pv 1) pa_nil))))
 (pss_one (ps_if (pt_cmp (pc_dnotin (hu_of hr) (pv 1) (pFld (K := K) rfl (pv 0) rfl)))
 (pss_one (ps_raise rfl (takes_of rfl rfl rfl rfl) (pmkC X_NotThere)))
 pss_nil))), ?_⟩)
  · obtain ⟨a, dx, t, l, M, v, d, rfl, _⟩ := h
    rfl
  · obtain ⟨a, dx, t, l, M, v, d, rfl, W, ok, hv, hd, kN, kT, k⟩ := h
    have ob := W.ob
    tm_at "r"
    refine u_need_number hv hd (fun hn H1 e1 => ?_) (fun hn H1 e1 => kN hn H1 e1)
    obtain ⟨x, rfl, hx⟩ := num_is hn
    have W1 : WAt CW a dx t l M H1 := (oWire CW a dx t l M).ext e1 W
    have ob := W1.ob
    cases dq_str hv
    tm_at "r"
    refine w_dnotB (.inl W1.th) ?_
    tm_at "r"
    refine w_iteN (fun hk => ?_) fun hk => ?_
    · exact kT x rfl hx hk H1 e1
    · tm_at "r"
      exact k x _ rfl hx hk e1
theorem u_thing {c cNT : Addr} {G : Addr → Addr → Addr → Addr → WM → Bits → Hp → Hp → Prop} {H : Hp} {Q : VK} {E : XK} {a dx t l : Addr} {M : WM} {v : V} {d : PyData} (W : WAt CW a dx t l M H) (ok : WOk M) (hv : Dq K H v d) (hd : OkD d)
    (kN : numD M.width d = false → ∀ H', Ext H H' → E (.ref c) none H') (kT : ∀ x, d = .str (B x) → x.length = M.width → x ∉ M.keys → ∀ H', Ext H H' → E (.ref cNT) none H')
    (k : ∀ x H', d = .str (B x) → x.length = M.width → x ∈ M.keys → G a dx t l M x H H' → Q .non H') : sp_thing K CW c cNT G (.ref a :: ([v] ++ [])) H Q E := ⟨a, dx, t, l, M, v, d, rfl, W, ok, hv, hd, kN, kT, k⟩
theorem ok_off {f c cNT : Addr} {fd : FuncData} (F : Fun K "off" "Wire.off" s_Wire_off f fd) (T : TxB mg) (TW : ClW K CW) (C_Wire_need_thing : CalM P w K mg base 4 CW "need_thing" ["self", "number"] (sp_thing K CW c cNT gThing)) :
    FnOk P w K mg base (L2.CX P w) 5 f fd ["self", "number"] (sp_thing K CW c cNT (gOff CW)) := by
  have cl_Wire := TW.cl
  refine F.okX sc_Wire_off (fun vs H Q E h => ?_) (fun cdv A outer s H vs Q E hr h => ⟨_, (pss_cons (ps_expr (pe_me (E := E) (pv 0) cl_Wire C_Wire_need_thing (hr.mono (by first | decide | omega)) (passes_call (takes_of rfl rfl rfl rfl) (fun _ _ _ _ h => h)) (pa_cons (pv 1) pa_nil)))
 (pss_cons (ps_expr (pe_dpop1 (pFld (K := K) rfl (pv 0) rfl) (pv 1) ⟨rfl, rfl, rfl, rfl⟩))
 (pss_one (ps_expr (pe_dpop2 (pFld (K := K) rfl (pv 0) rfl) (pv 1) pe_non ⟨rfl, rfl, rfl, rfl⟩))))), ?_⟩)
  · obtain ⟨a, dx, t, l, M, v, d, rfl, _⟩ := h
    rfl
  · obtain ⟨a, dx, t, l, M, v, d, rfl, W, ok, hv, hd, kN, kT, k⟩ := h
    have ob := W.ob
    tm_at "r"
    refine w_meOk ob (by kernel_rfl) ?_
    tm_at "r"
    refine u_thing W ok hv hd kN kT fun x H1 hdx hx hk e1 => ?_
    subst hdx
    have W1 : WAt CW a dx t l M H1 := (oWire CW a dx t l M).ext e1 W
    have ob := W1.ob
    cases dq_str hv
    tm_at "r"
    refine w_popD W1.th ?_
    tm_at "r"
    obtain ⟨b, hb⟩ := alook_some hk
    refine w_popK W1.th hb ?_
    have ob2 : upd H1 t (.dK (tK V.bl (adrop M.things x))) a = some (.ins CW dx (wf M.width t l M.told M.many)) := by rw [upd_ne W1.at_]; exact W1.ob
    have li2 : upd H1 t (.dK (tK V.bl (adrop M.things x))) l = some (.dK (tK V.bl (liK M.lis))) := by rw [upd_ne W1.tl.symm]; exact W1.li
    have th2 : upd H1 t (.dK (tK V.bl (adrop M.things x))) t = some (.dK (tK V.bl (adrop M.things x))) := upd_same
    have m2 : Step [a, t, l] [a, t, l] H (upd H1 t (.dK (tK V.bl (adrop M.things x)))) := (Step.of e1).trans (Step.wr W1.th (by simp))
    generalize upd H1 t (.dK (tK V.bl (adrop M.things x))) = H2 at ob2 li2 th2 m2 ⊢
    tm_at "r"
    refine w_popD2 li2 ?_
    tm_at "r"
    have ed : adrop (liK M.lis) x = liK (M.lis.filter fun y => decide (y ≠ x)) := by
      unfold adrop liK
      rw [List.filter_map]
      rfl
    refine w_popK2 li2 (fun b hb => ?_) fun hb => ?_
    · tm_at "r"
      rw [ed]
      refine k x _ rfl hx hk ⟨⟨?_, ?_, upd_same, W1.tl⟩, m2.trans (Step.wr li2 (by simp))⟩
      · rw [upd_ne W1.al]
        exact ob2
      · rw [upd_ne W1.tl]
        exact th2
    · tm_at "r"
      have el : M.lis.filter (fun y => decide (y ≠ x)) = M.lis := by
        rw [List.filter_eq_self]
        intro y hy
        rw [alook_none, liK_keys] at hb
        simp only [ne_eq, decide_not, Bool.not_eq_true', decide_eq_false_iff_not]
        intro e
        exact hb (e ▸ hy)
      refine k x _ rfl hx hk ⟨⟨ob2, th2, ?_, W1.tl⟩, m2⟩
      show H2 l = some (.dK (tK V.bl (liK (M.lis.filter fun y => decide (y ≠ x)))))
      rw [el]
      exact li2
theorem ok_alarm {f c cNT : Addr} {fd : FuncData} (F : Fun K "alarm" "Wire.alarm" s_Wire_alarm f fd) (T : TxB mg) (TW : ClW K CW) (C_Wire_need_thing : CalM P w K mg base 4 CW "need_thing" ["self", "number"] (sp_thing K CW c cNT gThing)) :
    FnOk P w K mg base (L2.CX P w) 5 f fd ["self", "number"] (sp_thing K CW c cNT (gSet CW true)) := by
  have cl_Wire := TW.cl
  refine F.okX sc_Wire_alarm (fun vs H Q E h => ?_) (fun cdv A outer s H vs Q E hr h => ⟨_, (pss_cons (ps_expr (pe_me (E := E) (pv 0) cl_Wire C_Wire_need_thing (hr.mono (by first | decide | omega)) (passes_call (takes_of rfl rfl rfl rfl) (fun _ _ _ _ h => h)) (pa_cons (pv 1) pa_nil)))
 (pss_one (ps_dput (hu_of hr) (pFld (K := K) rfl (pv 0) rfl) (pv 1) pe_bl rfl))), ?_⟩)
  · obtain ⟨a, dx, t, l, M, v, d, rfl, _⟩ := h
    rfl
  · obtain ⟨a, dx, t, l, M, v, d, rfl, W, ok, hv, hd, kN, kT, k⟩ := h
    have ob := W.ob
    tm_at "r"
    refine w_meOk ob (by kernel_rfl) ?_
    tm_at "r"
    refine u_thing W ok hv hd kN kT fun x H1 hdx hx hk e1 => ?_
    subst hdx
    have W1 : WAt CW a dx t l M H1 := (oWire CW a dx t l M).ext e1 W
    have ob := W1.ob
    cases dq_str hv
    tm_at "r"
    refine w_dputB (g := V.bl) W1.th (by have := ok.sz; omega) ?_
    refine k x _ rfl hx hk ⟨⟨?_, upd_same, ?_, W1.tl⟩, (Step.of e1).trans (Step.wr W1.th (by simp))⟩
    · rw [upd_ne W1.at_]
      exact W1.ob
    · rw [upd_ne W1.tl.symm]
      exact W1.li
theorem ok_calm {f c cNT : Addr} {fd : FuncData} (F : Fun K "calm" "Wire.calm" s_Wire_calm f fd) (T : TxB mg) (TW : ClW K CW) (C_Wire_need_thing : CalM P w K mg base 4 CW "need_thing" ["self", "number"] (sp_thing K CW c cNT gThing)) :
    FnOk P w K mg base (L2.CX P w) 5 f fd ["self", "number"] (sp_thing K CW c cNT (gSet CW false)) := by
  have cl_Wire := TW.cl
  refine F.okX sc_Wire_calm (fun vs H Q E h => ?_) (fun cdv A outer s H vs Q E hr h => ⟨_, (pss_cons (ps_expr (pe_me (E := E) (pv 0) cl_Wire C_Wire_need_thing (hr.mono (by first | decide | omega)) (passes_call (takes_of rfl rfl rfl rfl) (fun _ _ _ _ h => h)) (pa_cons (pv 1) pa_nil)))
 (pss_one (ps_dput (hu_of hr) (pFld (K := K) rfl (pv 0) rfl) (pv 1) pe_bl rfl))), ?_⟩)
  · obtain ⟨a, dx, t, l, M, v, d, rfl, _⟩ := h
    rfl
  · obtain ⟨a, dx, t, l, M, v, d, rfl, W, ok, hv, hd, kN, kT, k⟩ := h
    have ob := W.ob
    tm_at "r"
    refine w_meOk ob (by kernel_rfl) ?_
    tm_at "r"
    refine u_thing W ok hv hd kN kT fun x H1 hdx hx hk e1 => ?_
    subst hdx
    have W1 : WAt CW a dx t l M H1 := (oWire CW a dx t l M).ext e1 W
    have ob := W1.ob
    cases dq_str hv
    tm_at "r"
    refine w_dputB (g := V.bl) W1.th (by have := ok.sz; omega) ?_
    refine k x _ rfl hx hk ⟨⟨?_, upd_same, ?_, W1.tl⟩, (Step.of e1).trans (Step.wr W1.th (by simp))⟩
    · rw [upd_ne W1.at_]
      exact W1.ob
    · rw [upd_ne W1.tl.symm]
      exact W1.li
theorem ok_hung {f : Addr} {fd : FuncData} (F : Fun K "hung" "Wire.hung" s_Wire_hung f fd) (T : TxB mg) (TW : ClW K CW) : FnOk P w K mg base (L2.CX P w) 1 f fd ["self"] (sp_hung CW) := by
  refine F.okX sc_Wire_hung (fun vs H Q E h => ?_) (fun cdv A outer s H vs Q E hr h => ⟨_, (pss_one (ps_ret (pe_callB (c_sortD rfl) (by rfl) T.n_sorted (by decide +kernel) (pa_cons (pFld (K := K) rfl (pv 0) rfl) pa_nil)))), ?_⟩)
  · obtain ⟨a, dx, t, l, M, rfl, _⟩ := h
    rfl
  · obtain ⟨a, dx, t, l, M, rfl, W, ok, k⟩ := h
    have ob := W.ob
    tm_at "r"
    refine w_sortD (.inl W.th) (by have := ok.sz; omega) ok.nd fun ms p H1 hm rm hp e1 hp1 => ?_
    exact k p ms H1 hp e1 hp1 rm hm
theorem ok_looks {f : Addr} {fd : FuncData} (F : Fun K "looks" "Wire.looks" s_Wire_looks f fd) (T : TxB mg) (TW : ClW K CW) : FnOk P w K mg base (L2.CX P w) 1 f fd ["self"] (sp_looks CW) := by
  refine F.okX sc_Wire_looks (fun vs H Q E h => ?_) (fun cdv A outer s H vs Q E hr h => ⟨_, (pss_one (ps_ret (pFld (K := K) rfl (pv 0) rfl))), ?_⟩)
  · obtain ⟨a, dx, t, l, M, rfl, _⟩ := h
    rfl
  · obtain ⟨a, dx, t, l, M, rfl, W, k⟩ := h
    have ob := W.ob
    tm_at "r"
    exact k
theorem ok_need_round {f cR : Addr} {fd : FuncData} (F : Fun K "need_round" "Wire.need_round" s_Wire_need_round f fd) (T : TxB mg) (TW : ClW K CW) (X_NoRound : ExcC K mg "NoRound" cR) : FnOk P w K mg base (L2.CX P w) 1 f fd ["self"] (sp_need_round CW cR) := by
  refine F.okX sc_Wire_need_round (fun vs H Q E h => ?_) (fun cdv A outer s H vs Q E hr h => ⟨_, (pss_one (ps_if (PW.pt (pw_or (pt_cmp (pc_isN (pFld (K := K) rfl (pv 0) rfl))) (pw_or1 (pt_cmpR op_eq (pe_callB c_lenT (by rfl) T.n_len (by decide +kernel) (pa_cons (pFld (K := K) rfl (pv 0) rfl) pa_nil)) (pFld (K := K) rfl (pv 0) rfl) (nomark _)))))
 (pss_one (ps_raise rfl (takes_of rfl rfl rfl rfl) (pmkC X_NoRound)))
 pss_nil)), ?_⟩)
  · obtain ⟨a, dx, t, l, M, rfl, _⟩ := h
    rfl
  · obtain ⟨a, dx, t, l, M, rfl, W, ok, kE, k⟩ := h
    have ob := W.ob
    tm_at "r"
    cases ht : M.told with
    | none =>
      have e : decide (tvo none = V.non) = true := rfl
      rw [e]
      tm_at "r"
      tm_at "b"
      tm_at "b"
      refine kE fun b hb => ?_
      have := hb.1
      rw [ht] at this
      cases this
    | some b =>
      have e : decide (tvo (some b) = V.non) = false := by simp [tvo]
      rw [e]
      tm_at "r"
      tm_at "b"
      rw [ht] at ob
      tm_at "r"
      have := (ok.tl b ht).1
      have := ok.w2
      refine w_lenS (by rw [B_len]; omega) ?_
      rw [B_len]
      tm_at "r"
      refine w_iteD (fun c => ?_) fun c => ?_
      · refine kE fun b2 hb => ?_
        have h1 := hb.1
        rw [ht] at h1
        cases h1
        have := hb.2
        omega
      · tm_at "r"
        exact k b ⟨ht, by omega⟩
theorem u_need_round {cR : Addr} {H : Hp} {Q : VK} {E : XK} {a dx t l : Addr} {M : WM} (W : WAt CW a dx t l M H) (ok : WOk M) (h1 : (∀ b, ¬ Under M b) → E (.ref cR) none H) (h2 : ∀ b, Under M b → Q .non H) : sp_need_round CW cR (.ref a :: ([] ++ [])) H Q E := ⟨a, dx, t, l, M, rfl, W, ok, h1, h2⟩
theorem ok_look {f cR : Addr} {fd : FuncData} (F : Fun K "look" "Wire.look" s_Wire_look f fd) (T : TxB mg) (TW : ClW K CW) (C_Wire_need_round : CalM P w K mg base 1 CW "need_round" ["self"] (sp_need_round CW cR)) (C_look_at : Cal P w K mg base 1 "look_at" ["numbers", "beginning"] (sp_look_at K)) :
    FnOk P w K mg base (L2.CX P w) 2 f fd ["self"] (sp_look CW cR) := by
  have cl_Wire := TW.cl
  refine F.okX sc_Wire_look (fun vs H Q E h => ?_) (fun cdv A outer s H vs Q E hr h => ⟨_, (pss_cons (ps_expr (pe_me0 (E := E) (pv 0) cl_Wire C_Wire_need_round (hr.mono (by first | decide | omega)) (passes_call (takes_of rfl rfl rfl rfl) (fun _ _ _ _ h => h))))
 (pss_cons (sFldK (K := K) rfl (pv 0) (pe_op op_add (pFld (K := K) rfl (pv 0) rfl) pe_int) rfl)
 (pss_one (ps_ret (pe_cal (E := E) C_look_at (hr.mono (by first | decide | omega)) (passes_call (takes_of rfl rfl rfl rfl) (fun _ _ _ _ h => h)) (pa_cons (pe_callTy (c_listD rfl) (by rfl) T.n_list (by decide +kernel) (pa_cons (pFld (K := K) rfl (pv 0) rfl) pa_nil)) (pa_cons (pFld (K := K) rfl (pv 0) rfl) pa_nil))))))), ?_⟩)
  · obtain ⟨a, dx, t, l, M, rfl, _⟩ := h
    rfl
  · obtain ⟨a, dx, t, l, M, rfl, W, ok, kE, k⟩ := h
    have ob := W.ob
    tm_at "r"
    refine w_meOk ob (by kernel_rfl) ?_
    tm_at "r"
    refine u_need_round W ok kE fun b hu => ?_
    tm_at "r"
    have em : (M.many : Int) + 1 = ((M.many + 1 : Nat) : Int) := by omega
    rw [em]
    refine s_many TW ob ?_
    have ob1 : upd H a (.ins CW dx (wf M.width t l M.told (M.many + 1))) a = some (.ins CW dx (wf M.width t l M.told (M.many + 1))) := upd_same
    have th1 : upd H a (.ins CW dx (wf M.width t l M.told (M.many + 1))) t = some (.dK (tK V.bl M.things)) := by rw [upd_ne W.at_.symm]; exact W.th
    have li1 : upd H a (.ins CW dx (wf M.width t l M.told (M.many + 1))) l = some (.dK (tK V.bl (liK M.lis))) := by rw [upd_ne W.al.symm]; exact W.li
    have m1 : Step [a, t, l] [a, t, l] H (upd H a (.ins CW dx (wf M.width t l M.told (M.many + 1)))) := Step.wr W.ob (by simp)
    generalize upd H a (.ins CW dx (wf M.width t l M.told (M.many + 1))) = H1 at ob1 th1 li1 m1 ⊢
    have W1 : WAt CW a dx t l M.look H1 := ⟨ob1, th1, li1, W.tl⟩
    tm_at "r"
    refine w_listD li1 fun p H2 hp e2 hp2 => ?_
    rw [liK_keys] at hp2
    have W2 : WAt CW a dx t l M.look H2 := (oWire CW a dx t l M.look).ext e2 W1
    have ob2 := W2.ob
    tm_at "r"
    change sp_look_at K ([.ref p, tvo M.told] ++ []) H2 Q E
    rw [hu.1]
    have hb := hu.2
    have hw := ok.w2
    refine u_look_at (SqL.of hp2) (by have := ok.lsz; omega) (fun x hx => by rw [ok.llen x hx]; omega) fun q H3 hq e3 hq3 => ?_
    exact k b q H3 hu (m1.free (e2.free hq)) ((oWire CW a dx t l M.look).ext e3 W2) ((m1.trans (Step.of e2)).trans (Step.of e3)) hq3
theorem ok_begin {f cK : Addr} {fd : FuncData} (F : Fun K "begin" "Wire.begin" s_Wire_begin f fd) (T : TxB mg) (TW : ClW K CW) (C_need_kind : Cal P w K mg base 1 "need_kind" ["kind"] (sp_need_kind cK)) :
    FnOk P w K mg base (L2.CX P w) 2 f fd ["self", "kind"] (sp_begin CW cK) := by
  have cl_Wire := TW.cl
  refine F.okX sc_Wire_begin (fun vs H Q E h => ?_) (fun cdv A outer s H vs Q E hr h => ⟨_, (pss_cons (ps_expr (pe_cal (E := E) C_need_kind (hr.mono (by first | decide | omega)) (passes_call (takes_of rfl rfl rfl rfl) (fun _ _ _ _ h => h)) (pa_cons (pv 1) pa_nil)))
 (pss_cons (sFldK (K := K) rfl (pv 0) pe_str rfl)
 (pss_cons (sFldK (K := K) rfl (pv 0) pe_dnewK rfl)
 (pss_one (ps_lock (ps_for (passes_of rfl) rfl (pi_keys (pFld (K := K) rfl (pv 0) rfl)) (pg_name (i := 2) sc_Wire_begin.nd rfl (by first | exact Or.inl rfl | exact Or.inr rfl))
 (pss_one (ps_if (PW.pt (pw_or (pt_cmpR op_eq (pv 1) pe_str (nomark _)) (pw_or1 (pt_val (pe_dget (hu_of hr) (pFld (K := K) rfl (pv 0) rfl) (pv 2) (fun _ _ => rfl))))))
 (pss_one (ps_dput (hu_of hr) (pFld (K := K) rfl (pv 0) rfl) (pv 2) pe_bl rfl))
 pss_nil)))))))), ?_⟩)
  · obtain ⟨a, dx, t, l, M, x, rfl, _⟩ := h
    rfl
  · obtain ⟨a, dx, t, l, M, x, rfl, W, ok, kE, k⟩ := h
    have ob := W.ob
    tm_at "r"
    refine ⟨x, rfl, fun hx => ?_, fun hx => kE hx⟩
    tm_at "r"
    rw [B_nil]
    refine s_told TW ob ?_
    have ob1 : upd H a (.ins CW dx (wf M.width t l (some []) M.many)) a = some (.ins CW dx (wf M.width t l (some []) M.many)) := upd_same
    have th1 : upd H a (.ins CW dx (wf M.width t l (some []) M.many)) t = some (.dK (tK V.bl M.things)) := by rw [upd_ne W.at_.symm]; exact W.th
    have m1 : Step [a, t, l] [a, t, l] H (upd H a (.ins CW dx (wf M.width t l (some []) M.many))) := Step.wr W.ob (by simp)
    generalize upd H a (.ins CW dx (wf M.width t l (some []) M.many)) = H1 at ob1 th1 m1 ⊢
    tm_at "r"
    refine w_dnew fun l' H2 hl' e2 hl2 => ?_
    have ob2 := e2.st _ _ ob1 nsh_ins
    have th2 := e2.st _ _ th1 nsh_dK
    have nal : a ≠ l' := ne_of_none ob1 hl'
    have ntl : t ≠ l' := ne_of_none th1 hl'
    tm_at "r"
    refine s_listening TW ob2 ?_
    have ob3 : upd H2 a (.ins CW dx (wf M.width t l' (some []) M.many)) a = some (.ins CW dx (wf M.width t l' (some []) M.many)) := upd_same
    have th3 : upd H2 a (.ins CW dx (wf M.width t l' (some []) M.many)) t = some (.dK (tK V.bl M.things)) := by rw [upd_ne W.at_.symm]; exact th2
    have li3 : upd H2 a (.ins CW dx (wf M.width t l' (some []) M.many)) l' = some (.dK []) := by rw [upd_ne nal.symm]; exact hl2
    have m3 : Step [a, t, l] [a, t, l'] H (upd H2 a (.ins CW dx (wf M.width t l' (some []) M.many))) := ((m1.trans (Step.of e2)).trans (Step.wr ob2 (by simp))).to fun b hb => by
      simp only [List.mem_cons, List.not_mem_nil, or_false] at hb
      rcases hb with rfl | rfl | rfl
      · exact .inl (by simp)
      · exact .inl (by simp)
      · exact .inr (m1.free hl')
    generalize upd H2 a (.ins CW dx (wf M.width t l' (some []) M.many)) = H3 at ob3 th3 li3 m3 ⊢
    tm_at "r"
    refine w_lock th3 fun od H4 h4 hn4 => ?_
    have ob4 : H4 a = some (.ins CW dx (wf M.width t l' (some []) M.many)) := by rw [hn4 a W.at_]; exact ob3
    have li4 : H4 l' = some (.dK (tK V.bl (liK []))) := by rw [hn4 l' ntl.symm]; exact li3
    tm_at "r"
    refine w_keysOk h4 ?_
    refine forK (fun i σ2 H5 => ∃ v : Option V, σ2 = [some (.ref a), some (.str x), v] ∧ H5 t = some (.frz od (.dK (tK V.bl M.things))) ∧ H5 a = some (.ins CW dx (wf M.width t l' (some []) M.many)) ∧
        H5 l' = some (.dK (tK V.bl (liK (((M.things.take i).filter fun p => decide (x = "all") || p.2).map (·.1))))) ∧ ∀ b, b ≠ t → b ≠ l' → H5 b = H3 b)
      (fun i σ2 H5 ⟨v, _, h, _⟩ => h) ⟨none, rfl, h4, ob4, by simpa using li4, fun b hb _ => hn4 b hb⟩ ?_ ?_
    · rintro i y c σ2 H5 N hi ⟨v, rfl, h5, ob5, li5, hr5⟩ kN
      have hmem : (y, c) ∈ M.things := List.mem_of_getElem? hi
      have htk : M.things.take (i + 1) = M.things.take i ++ [(y, c)] := by
        rw [List.take_succ, hi]
        rfl
      have hnot : y ∉ ((liK (((M.things.take i).filter fun p => decide (x = "all") || p.2).map (·.1))).map (·.1)) := by
        rw [liK_keys]
        intro hy
        obtain ⟨p, hp, e⟩ := List.mem_map.mp hy
        have hp2 := (List.mem_filter.mp hp).1
        obtain ⟨j, hj⟩ := List.mem_iff_getElem?.mp hp2
        have hjl : j < i := by
          have := (List.getElem?_eq_some_iff.mp hj).1
          rw [List.length_take] at this
          omega
        rw [List.getElem?_take_of_lt hjl] at hj
        have nd := ok.nd
        have e1 : (M.things.map (·.1))[j]? = some y := by rw [List.getElem?_map, hj]; simp [e]
        have e2 : (M.things.map (·.1))[i]? = some y := by rw [List.getElem?_map, hi]; rfl
        have := (List.getElem?_inj (by
          have := (List.getElem?_eq_some_iff.mp e1).1
          exact this) nd).mp (e1.trans e2.symm)
        omega
      have hsz : (((M.things.take i).filter fun p => decide (x = "all") || p.2).map (·.1)).length ≤ 60 := by
        rw [List.length_map]
        refine Nat.le_trans (List.length_filter_le _ _) ?_
        rw [List.length_take]
        have := ok.sz
        omega
      have put : ∀ q : Bool, q = true → (decide (x = "all") || c) = true → DputOk (.bl true) (.ref l') (.str (B y)) H5 (fun H6 => N [some (.ref a), some (.str x), some (.str (B y))] H6) := fun _ _ hc => by
        refine w_dputB (g := V.bl) li5 (by rw [← List.length_map (f := (·.1)), liK_keys]; omega) ?_
        rw [aput_new hnot]
        refine kN _ _ ⟨_, rfl, ?_, ?_, ?_, fun b hb hb2 => ?_⟩
        · rw [upd_ne ntl]
          exact h5
        · rw [upd_ne nal]
          exact ob5
        · rw [upd_same, htk, List.filter_append, List.map_append]
          simp [hc, liK]
        · rw [upd_ne hb2]
          exact hr5 b hb hb2
      have skip : (decide (x = "all") || c) = false → N [some (.ref a), some (.str x), some (.str (B y))] H5 := fun hc => by
        refine kN _ _ ⟨_, rfl, h5, ob5, ?_, hr5⟩
        rw [htk, List.filter_append, List.map_append]
        simp [hc]
        simpa using li5
      tm_at "r"
      refine w_iteD (fun hc => ?_) fun hc => ?_
      · tm_at "b"
        tm_at "r"
        exact put true rfl (by simp [hc])
      · tm_at "r"
        refine w_dgetB (.inr ⟨_, h5⟩) (alook_of ok.nd hmem) ?_
        tm_at "r"
        refine w_iteB (fun hc2 => ?_) fun hc2 => ?_
        · tm_at "r"
          exact put true rfl (by simp [hc2])
        · tm_at "r"
          exact skip (by simp [hc, hc2])
    · rintro σ2 H5 ⟨v, rfl, h5, ob5, li5, hr5⟩
      rw [List.take_length] at li5
      refine ⟨h5, ?_⟩
      refine k l' _ hx ⟨?_, upd_same, ?_, ntl⟩ ?_
      · rw [upd_ne W.at_]
        exact ob5
      · rw [upd_ne ntl.symm]
        exact li5
      · refine m3.trans ⟨fun b o hb nb ns => ?_, fun b r i m z hb nb hi => ?_, fun b o hb => ?_, fun b hb => .inl hb⟩
        · simp only [List.mem_cons, List.not_mem_nil, or_false, not_or] at nb
          rw [upd_ne nb.2.1, hr5 b nb.2.1 nb.2.2]
          exact hb
        · simp only [List.mem_cons, List.not_mem_nil, or_false, not_or] at nb
          rw [upd_ne nb.2.1, hr5 b nb.2.1 nb.2.2]
          exact ⟨i, m, z, hb, hi⟩
        · by_cases e1 : b = t
          · rw [e1]
            exact ⟨_, upd_same⟩
          · by_cases e2 : b = l'
            · rw [e2, upd_ne ntl.symm]
              exact ⟨_, li5⟩
            · rw [upd_ne e1, hr5 b e1 e2]
              exact ⟨_, hb⟩
theorem ok_say {f cR cB : Addr} {fd : FuncData} (F : Fun K "say" "Wire.say" s_Wire_say f fd) (T : TxB mg) (TW : ClW K CW) (C_Wire_need_round : CalM P w K mg base 1 CW "need_round" ["self"] (sp_need_round CW cR)) (X_BadBit : ExcC K mg "BadBit" cB) :
    FnOk P w K mg base (L2.CX P w) 2 f fd ["self", "bit"] (sp_say CW cR cB) := by
  have cl_Wire := TW.cl
  refine F.okX sc_Wire_say (fun vs H Q E h => ?_) (fun cdv A outer s H vs Q E hr h => ⟨_, (pss_cons (ps_expr (pe_me0 (E := E) (pv 0) cl_Wire C_Wire_need_round (hr.mono (by first | decide | omega)) (passes_call (takes_of rfl rfl rfl rfl) (fun _ _ _ _ h => h))))
 (pss_cons (ps_if (PW.pt (pw_or (pt_not (pt_val (pe_callB (cIsi (K := K) rfl) (by rfl) T.n_isinstance (by decide +kernel) (pa_cons (pv 1) (pa_cons (pe_bltn (v := .ty "int") rfl T.n_int (by decide +kernel) rfl) pa_nil))))) (pw_or (pt_val (pe_callB (cIsi (K := K) rfl) (by rfl) T.n_isinstance (by decide +kernel) (pa_cons (pv 1) (pa_cons (pe_bltn (v := .ty "bool") rfl T.n_bool (by decide +kernel) rfl) pa_nil)))) (pw_or1 (pt_cmpR (oNotIn (K := K) rfl) (pv 1) (pe_tup (pa_cons pe_int (pa_cons pe_int pa_nil))) (by rfl))))))
 (pss_one (ps_raise rfl (takes_of rfl rfl rfl rfl) (pmkC X_BadBit)))
 pss_nil)
 (pss_cons (sFldK (K := K) rfl (pv 0) (pe_op o_addS (pFld (K := K) rfl (pv 0) rfl) (pe_callTy c_strI (by rfl) T.n_str (by decide +kernel) (pa_cons (pv 1) pa_nil))) rfl)
 (pss_one (ps_for (passes_of rfl) rfl (piL (K := K) rfl (pe_callTy (c_listD rfl) (by rfl) T.n_list (by decide +kernel) (pa_cons (pFld (K := K) rfl (pv 0) rfl) pa_nil))) (pg_name (i := 2) sc_Wire_say.nd rfl (by first | exact Or.inl rfl | exact Or.inr rfl))
 (pss_one (ps_if (pt_not (pt_val (pe_m1 PySem.F.slot_str_startswith PySem.F.type_str_startswith m_starts (pv 2) (pFld (K := K) rfl (pv 0) rfl))))
 (pss_one (ps_expr (pe_dpop1 (pFld (K := K) rfl (pv 0) rfl) (pv 2) ⟨rfl, rfl, rfl, rfl⟩)))
 pss_nil))))))), ?_⟩)
  · obtain ⟨a, dx, t, l, M, i, rfl, _⟩ := h
    rfl
  · obtain ⟨a, dx, t, l, M, i, rfl, W, ok, kE, kB, k⟩ := h
    have ob := W.ob
    tm_at "r"
    refine w_meOk ob (by kernel_rfl) ?_
    tm_at "r"
    refine u_need_round W ok kE fun b hu => ?_
    have hv : Dq K H (.int i) (.int i) := .int i
    tm_at "r"
    tm_at "b"
    tm_at "r"
    tm_at "b"
    tm_at "r"
    intro q H1 hq e1 hq1
    refine w_inT (SqT.of hq1) rfl rfl ?_
    have ei : inV (.int i) [V.int 0, V.int 1] = decide (i = 0 ∨ i = 1) := by
      simp only [inV, List.any_cons, List.any_nil, Bool.or_false, eqV]
      rw [Bool.eq_iff_iff]
      simp only [Bool.or_eq_true, beq_iff_eq, decide_eq_true_eq]
      constructor
      · rintro (h | h)
        · exact .inl h.symm
        · exact .inr h.symm
      · rintro (h | h)
        · exact .inl h.symm
        · exact .inr h.symm
    rw [ei]
    tm_at "r"
    refine w_iteN (fun h => ?_) fun h => ?_
    · exact kB b hu h H1 e1
    · obtain ⟨c, rfl⟩ : ∃ c : Bool, i = bi c := by
        rcases h with rfl | rfl
        · exact ⟨false, rfl⟩
        · exact ⟨true, rfl⟩
      have hw := ok.w2
      have hbl := hu.2
      have W1 : WAt CW a dx t l M H1 := (oWire CW a dx t l M).ext e1 W
      have ob1 := W1.ob
      rw [hu.1] at ob1
      tm_at "r"
      refine w_strI (by cases c <;> decide) ?_
      rw [str_bi]
      refine w_addS (by rw [B_len, B_len]; simp; omega) ?_
      rw [B_app]
      tm_at "r"
      refine s_told TW ob1 ?_
      have ob2 : upd H1 a (.ins CW dx (wf M.width t l (some (b ++ [c])) M.many)) a = some (.ins CW dx (wf M.width t l (some (b ++ [c])) M.many)) := upd_same
      have th2 : upd H1 a (.ins CW dx (wf M.width t l (some (b ++ [c])) M.many)) t = some (.dK (tK V.bl M.things)) := by rw [upd_ne W.at_.symm]; exact W1.th
      have li2 : upd H1 a (.ins CW dx (wf M.width t l (some (b ++ [c])) M.many)) l = some (.dK (tK V.bl (liK M.lis))) := by rw [upd_ne W.al.symm]; exact W1.li
      have m2 : Step [a, t, l] [a, t, l] H (upd H1 a (.ins CW dx (wf M.width t l (some (b ++ [c])) M.many))) := (Step.of e1).trans (Step.wr W1.ob (by simp))
      generalize upd H1 a (.ins CW dx (wf M.width t l (some (b ++ [c])) M.many)) = H2 at ob2 th2 li2 m2 ⊢
      tm_at "r"
      refine w_listD li2 fun p H3 hp e3 hp3 => ?_
      rw [liK_keys] at hp3
      have np : p ≠ l := fun e => by rw [e, li2] at hp; cases hp
      have ob3 := e3.st _ _ ob2 nsh_ins
      have th3 := e3.st _ _ th2 nsh_dK
      have li3 := e3.st _ _ li2 nsh_dK
      have m3 := m2.trans (Step.of e3)
      refine w_lstOk (SqL.of hp3) ?_
      refine forL (fun i σ2 H5 => ∃ v : Option V, σ2 = [some (.ref a), some (.int (bi c)), v] ∧ H5 p = some (.lst (bvs M.lis)) ∧ H5 t = some (.dK (tK V.bl M.things)) ∧ H5 a = some (.ins CW dx (wf M.width t l (some (b ++ [c])) M.many)) ∧
          H5 l = some (.dK (tK V.bl (liK (M.lis.filter fun y => decide (b ++ [c] <+: y) || decide (y ∈ M.lis.drop i))))) ∧ Step [a, t, l] [a, t, l] H H5)
        (fun i σ2 H5 ⟨v, _, h, _⟩ => SqL.of h) ⟨none, rfl, hp3, th3, ob3, ?_, m3⟩ ?_ ?_
      · rw [li3]
        congr 4
        rw [eq_comm, List.filter_eq_self]
        intro y hy
        simp [hy]
      · rintro j x σ2 H5 N hx ⟨v, rfl, hp5, th5, ob5, li5, m5⟩ kN
        obtain ⟨y, hy, rfl⟩ := bvs_get hx
        have hym : y ∈ M.lis := List.mem_of_getElem? hy
        have hdr : M.lis.drop j = y :: M.lis.drop (j + 1) := by
          have hj := (List.getElem?_eq_some_iff.mp hy)
          rw [List.drop_eq_getElem_cons hj.1, hj.2]
        have hyn : y ∉ M.lis.drop (j + 1) := by
          have : (M.lis.drop j).Nodup := ok.lnd.sublist (List.drop_sublist _ _)
          rw [hdr] at this
          exact (List.nodup_cons.mp this).1
        tm_at "r"
        rw [starts_B]
        tm_at "r"
        refine w_iteN (fun hc => ?_) fun hc => ?_
        · tm_at "r"
          refine w_popD li5 ?_
          tm_at "r"
          obtain ⟨q, hq⟩ := alook_some (ts := liK (M.lis.filter fun y => decide (b ++ [c] <+: y) || decide (y ∈ M.lis.drop j))) (l := y) (by
            rw [liK_keys, List.mem_filter]
            exact ⟨hym, by simp [hdr]⟩)
          refine w_popK li5 hq ?_
          refine kN _ _ ⟨_, rfl, ?_, ?_, ?_, ?_, m5.trans (Step.wr li5 (by simp))⟩
          · rw [upd_ne np]
            exact hp5
          · rw [upd_ne W.tl]
            exact th5
          · rw [upd_ne W.al]
            exact ob5
          · rw [upd_same]
            have ed : adrop (liK (M.lis.filter fun y => decide (b ++ [c] <+: y) || decide (y ∈ M.lis.drop j))) y = liK (M.lis.filter fun y => decide (b ++ [c] <+: y) || decide (y ∈ M.lis.drop (j + 1))) := by
              unfold adrop liK
              rw [List.filter_map, List.filter_filter]
              congr 1
              apply List.filter_congr
              intro z hz
              simp only [Function.comp]
              by_cases e : z = y
              · subst e
                simp [hc, hyn]
              · simp [e, hdr]
            rw [ed]
        · tm_at "r"
          refine kN _ _ ⟨_, rfl, hp5, th5, ob5, ?_, m5⟩
          rw [li5]
          congr 4
          apply List.filter_congr
          intro z hz
          by_cases e : z = y
          · subst e
            simp [hc]
          · simp [e, hdr]
      · rintro σ2 H5 ⟨v, rfl, hp5, th5, ob5, li5, m5⟩
        refine k b c H5 hu rfl ⟨ob5, th5, ?_, W.tl⟩ m5
        rw [li5]
        congr 4
        apply List.filter_congr
        intro z hz
        rw [bvs_len, List.drop_length]
        simp
end
end My
end

section
open PySem L2 Lw
local macro_rules | `(tactic| tm_at "s") => `(tactic| first
  | with_reducible refine w_seq ?_ | with_reducible refine w_asg ?_ | with_reducible refine w_gname ?_ | with_reducible refine w_ret ?_ | with_reducible refine w_drop ?_ | with_reducible refine w_ifS ?_ | with_reducible refine w_next ?_ | with_reducible refine w_retN ?_
  | with_reducible refine w_c ?_ | ((with_reducible refine w_var (v := ?vv) ?hh ?kk); (case hh => exact rfl)) | with_reducible refine w_op ?_ | with_reducible refine w_un ?_ | with_reducible refine w_cons ?_ | with_reducible refine w_nil ?_ | with_reducible refine w_test ?_ | with_reducible refine w_B ?_
  | with_reducible refine w_isbl ?_ | with_reducible refine w_not ?_ | with_reducible refine w_and ?_ | with_reducible refine w_or ?_ | with_reducible refine w_andV ?_ | with_reducible refine w_orV ?_ | with_reducible refine w_notV ?_ | with_reducible refine w_if ?_ | with_reducible refine w_chain ?_
  | with_reducible refine w_isN ?_ | with_reducible refine w_notN ?_ | with_reducible refine w_yes ?_ | with_reducible refine w_call ?_ | with_reducible refine w_CB ?_ | with_reducible refine w_tup ?_ | with_reducible refine w_lst ?_ | with_reducible refine w_sl ?_ | with_reducible refine w_noPart ?_
  | with_reducible refine w_part ?_ | with_reducible refine w_isint ?_ | with_reducible refine w_gSub ?_ | with_reducible refine w_break ?_ | with_reducible refine w_cont ?_
  | with_reducible refine w_I0 ?_ | with_reducible refine w_eqI ?_ | with_reducible refine w_neI ?_ | with_reducible refine w_eqS ?_ | with_reducible refine w_neS ?_ | with_reducible refine w_eqB ?_ | with_reducible refine w_neB ?_ | ((with_reducible refine w_isi (d := ?dd) ?hh ?kk); (case hh => assumption))
  | with_reducible refine w_sg ?_ | with_reducible refine w_notSg ?_ | with_reducible refine w_starts ?_ | with_reducible refine w_max2 ?_ | with_reducible refine w_min2 ?_ | with_reducible refine w_intB ?_ | with_reducible refine w_intI ?_ | with_reducible refine w_bm ?_ | with_reducible refine w_bm0 ?_ | with_reducible refine w_m1 ?_ | with_reducible refine w_m0 ?_ | with_reducible refine w_isstr ?_
  | with_reducible refine w_for ?_ | with_reducible refine w_lc ?_ | with_reducible refine w_rng ?_ | with_reducible refine w_rng2 ?_ | with_reducible refine w_ilist ?_ | with_reducible refine w_itup ?_ | with_reducible refine w_istr ?_ | with_reducible refine w_strOk ?_
  | ((with_reducible refine w_rngOk ?hh ?h2 ?kk); (case hh => omega); (case h2 => omega)) | ((with_reducible refine w_lstOk (xs := ?xx) ?hh ?kk); (case hh => assumption))
  | ((with_reducible refine w_alL ?hh ?kk); (case hh => exact Nat.le_of_ble_eq_true rfl)) | ((with_reducible refine w_alT ?hh ?kk); (case hh => exact Nat.le_of_ble_eq_true rfl))
  | ((with_reducible refine w_lenL (xs := ?xx) ?hh ?kk); (case hh => assumption)) | ((with_reducible refine w_lenT (xs := ?xx) ?hh ?kk); (case hh => assumption))
  | ((with_reducible refine w_I ?hh ?kk); (case hh => first | (show _ ≠ (0 : Int); omega) | (show (0 : Int) < _; omega) | exact ⟨by omega, by omega⟩ | exact .inl ⟨by omega, by omega⟩ | exact .inr ⟨by omega, by omega⟩ | exact ⟨by decide, by decide, by decide⟩))
  | with_reducible refine w_din ?_ | with_reducible refine w_dnot ?_ | with_reducible refine w_dget ?_ | with_reducible refine w_dput ?_ | with_reducible refine w_fld ?_ | with_reducible refine w_sto ?_ | with_reducible refine w_meth ?_ | with_reducible refine w_pop1 ?_ | with_reducible refine w_pop2 ?_ | with_reducible refine w_ikeys ?_
  | ((with_reducible refine f_width (CW := ?v1) (dx := ?v2) (t := ?v3) (l := ?v4) (w := ?v5) (told := ?v6) (many := ?v7) ?tw ?hh ?kk); (case tw => assumption); (case hh => assumption))
  | ((with_reducible refine f_things (CW := ?v1) (dx := ?v2) (t := ?v3) (l := ?v4) (w := ?v5) (told := ?v6) (many := ?v7) ?tw ?hh ?kk); (case tw => assumption); (case hh => assumption))
  | ((with_reducible refine f_listening (CW := ?v1) (dx := ?v2) (t := ?v3) (l := ?v4) (w := ?v5) (told := ?v6) (many := ?v7) ?tw ?hh ?kk); (case tw => assumption); (case hh => assumption))
  | ((with_reducible refine f_tolds (CW := ?v1) (dx := ?v2) (t := ?v3) (l := ?v4) (w := ?v5) (b := ?v6) (many := ?v7) ?tw ?hh ?kk); (case tw => assumption); (case hh => assumption))
  | ((with_reducible refine f_told (CW := ?v1) (dx := ?v2) (t := ?v3) (l := ?v4) (w := ?v5) (told := ?v6) (many := ?v7) ?tw ?hh ?kk); (case tw => assumption); (case hh => assumption))
  | ((with_reducible refine f_many (CW := ?v1) (dx := ?v2) (t := ?v3) (l := ?v4) (w := ?v5) (told := ?v6) (many := ?v7) ?tw ?hh ?kk); (case tw => assumption); (case hh => assumption))
  | ((with_reducible refine w_ixL (v := ?vv) (xs := ?xx) ?hh ?h2 ?kk); (case hh => assumption); (case h2 => exact rfl)) | ((with_reducible refine w_ixT (v := ?vv) (xs := ?xx) ?hh ?h2 ?kk); (case hh => assumption); (case h2 => exact rfl)))
local macro_rules | `(tactic| tm_at "r") => `(tactic| repeat tm_at "s")
local macro_rules | `(tactic| tm_at "b") => `(tactic| first | refine w_iteT (by with_reducible rfl) ?_ | refine w_iteF (by with_reducible rfl) ?_ | refine w_iteT (by rfl) ?_ | refine w_iteF (by rfl) ?_)
local macro_rules | `(tactic| tm_at "e") => `(tactic| repeat (first | tm_at "s" | tm_at "b"))
local macro_rules | `(tactic| tm_at "s") => `(tactic| first
  | with_reducible refine w_gcons ?_ | with_reducible refine w_gnil ?_
  | ((with_reducible refine g_wire (CK := ?v1) (dx := ?v2) (a := ?v3) (c := ?v4) (r := ?v5) (said := ?v6) (n := ?v7) (s := ?v8) ?tw ?hh ?kk); (case tw => assumption); (case hh => assumption))
  | ((with_reducible refine g_kind (CK := ?v1) (dx := ?v2) (a := ?v3) (c := ?v4) (r := ?v5) (said := ?v6) (n := ?v7) (s := ?v8) ?tw ?hh ?kk); (case tw => assumption); (case hh => assumption))
  | ((with_reducible refine g_rest (CK := ?v1) (dx := ?v2) (a := ?v3) (c := ?v4) (r := ?v5) (said := ?v6) (n := ?v7) (s := ?v8) ?tw ?hh ?kk); (case tw => assumption); (case hh => assumption))
  | ((with_reducible refine g_saids (CK := ?v1) (dx := ?v2) (a := ?v3) (c := ?v4) (r := ?v5) (b := ?v6) (n := ?v7) (s := ?v8) ?tw ?hh ?kk); (case tw => assumption); (case hh => assumption))
  | ((with_reducible refine g_said (CK := ?v1) (dx := ?v2) (a := ?v3) (c := ?v4) (r := ?v5) (said := ?v6) (n := ?v7) (s := ?v8) ?tw ?hh ?kk); (case tw => assumption); (case hh => assumption))
  | ((with_reducible refine g_names (CK := ?v1) (dx := ?v2) (a := ?v3) (c := ?v4) (r := ?v5) (said := ?v6) (n := ?v7) (s := ?v8) ?tw ?hh ?kk); (case tw => assumption); (case hh => assumption))
  | ((with_reducible refine g_seen (CK := ?v1) (dx := ?v2) (a := ?v3) (c := ?v4) (r := ?v5) (said := ?v6) (n := ?v7) (s := ?v8) ?tw ?hh ?kk); (case tw => assumption); (case hh => assumption)))
namespace My
abbrev s_Walk_init : Stmt := inClass (top 34) 0
theorem sc_Walk_init : FnScope ["self", "wire", "kind"] ["self", "wire", "kind"] (defScope s_Walk_init) := ⟨rfl, rfl, rfl, by decide +kernel, rfl, by decide +kernel, by decide +kernel⟩
abbrev s_Walk_step : Stmt := inClass (top 34) 1
theorem sc_Walk_step : FnScope ["self", "zero", "one"] ["self"] (defScope s_Walk_step) := ⟨rfl, rfl, rfl, by decide +kernel, rfl, by decide +kernel, by decide +kernel⟩
abbrev s_Walk_begin : Stmt := inClass (top 34) 2
theorem sc_Walk_begin : FnScope ["self", "beginning", "sign"] ["self"] (defScope s_Walk_begin) := ⟨rfl, rfl, rfl, by decide +kernel, rfl, by decide +kernel, by decide +kernel⟩
abbrev s_Walk_say : Stmt := inClass (top 34) 3
theorem sc_Walk_say : FnScope ["self", "bit"] ["self", "bit"] (defScope s_Walk_say) := ⟨rfl, rfl, rfl, by decide +kernel, rfl, by decide +kernel, by decide +kernel⟩
abbrev s_Walk_ended : Stmt := inClass (top 34) 4
theorem sc_Walk_ended : FnScope ["self", "number"] ["self"] (defScope s_Walk_ended) := ⟨rfl, rfl, rfl, by decide +kernel, rfl, by decide +kernel, by decide +kernel⟩
abbrev s_Walk_go_round : Stmt := inClass (top 34) 5
theorem sc_Walk_go_round : FnScope ["self", "told"] ["self"] (defScope s_Walk_go_round) := ⟨rfl, rfl, rfl, by decide +kernel, rfl, by decide +kernel, by decide +kernel⟩
abbrev s_Walk_go_all : Stmt := inClass (top 34) 6
theorem sc_Walk_go_all : FnScope ["self"] ["self"] (defScope s_Walk_go_all) := ⟨rfl, rfl, rfl, by decide +kernel, rfl, by decide +kernel, by decide +kernel⟩
abbrev s_Walk_left : Stmt := inClass (top 34) 7
abbrev s_Walk_is_under_way : Stmt := inClass (top 34) 8
abbrev s_Walk_found : Stmt := inClass (top 34) 9
theorem sc_Walk_found : FnScope ["self"] ["self"] (defScope s_Walk_found) := ⟨rfl, rfl, rfl, by decide +kernel, rfl, by decide +kernel, by decide +kernel⟩
abbrev s_Walk_paper : Stmt := inClass (top 34) 10
section
variable (K : PySem.W.Frag) (CW CK cK cO : Addr)
def sp_kinit : Sp := fun vs H Q E => ∃ (k a dx : Addr) (x : Str), vs = [.ref k, .ref a, .str x] ∧ H k = some (.ins CK dx []) ∧ (¬ (x = "all" ∨ x = "alarm") → E (.ref cK) none H) ∧
  ∀ (c : Bool) (r n s : Addr) (H' : Hp), x = kindS c → KAt CK k dx a r n s [] ⟨c, [[]], none, [], []⟩ H' → Step [k] ([k, r, n, s] ++ []) H H' → Q .non H'
def KOut (a dx t l k dk r n s : Addr) (ps : List Addr) (H : Hp) (Q : VK) (M : WM) (N : KM) (e : Res) : Prop := ∀ (l' : Addr) (ps' : List Addr) (v : V) (H' : Hp), WAt CW a dx t l' M H' → KAt CK k dk a r n s ps' N H' → Dq K H' v (dres e) → Step ([a, t, l] ++ ([k, r, n, s] ++ ps)) ([a, t, l'] ++ ([k, r, n, s] ++ ps')) H H' → Q v H'
def sp_ksay : Sp := fun vs H Q _ => ∃ (a dx t l k dk r n s : Addr) (ps : List Addr) (M : WM) (N : KM) (b : Bits) (c : Bool), vs = [.ref k, .int (bi c)] ∧ WAt CW a dx t l M H ∧ KAt CK k dk a r n s ps N H ∧ WOk M ∧ N.said = some b ∧ M.told = some b ∧ b.length < M.width ∧
  ∀ H', WAt CW a dx t l (M.say b c) H' → KAt CK k dk a r n s ps { N with said := some (b ++ [c]) } H' → Step ([a, t, l] ++ ([k, r, n, s] ++ ps)) ([a, t, l] ++ ([k, r, n, s] ++ ps)) H H' → Q .non H'
def sp_kended : Sp := fun vs H Q _ => ∃ (a dx t l k dk r n s : Addr) (ps : List Addr) (M : WM) (N : KM) (b : Bits), vs = [.ref k] ∧ WAt CW a dx t l M H ∧ KAt CK k dk a r n s ps N H ∧ WOk M ∧ N.said = some b ∧ b.length ≤ M.width ∧ N.Sz ∧
  ∀ (v : V) (H' : Hp), WAt CW a dx t l M H' → KAt CK k dk a r n s ps (N.ended M.width b).1 H' → Dq K H' v (dres (N.ended M.width b).2) → Step ([k, r, n, s] ++ ps) ([k, r, n, s] ++ ps) H H' → Q v H'
def sp_kbegin : Sp := fun vs H Q E => ∃ (a dx t l k dk r n s : Addr) (ps : List Addr) (M : WM) (N : KM), vs = [.ref k] ∧ WAt CW a dx t l M H ∧ KAt CK k dk a r n s ps N H ∧ WOk M ∧ KP M N ∧ N.Sz ∧ N.said = none ∧
  (N.rest = [] → ∀ H', Ext H H' → E (.ref cO) none H') ∧ (N.rest ≠ [] → KOut K CW CK a dx t l k dk r n s ps H Q (kstep M N).1 (kstep M N).2.1 (kstep M N).2.2)
def Szz (N : KM) : Prop := N.rest.length < 9000 ∧ N.names.length ≤ 9000 ∧ N.seen.length < 9000
def sp_kstep : Sp := fun vs H Q E => ∃ (a dx t l k dk r n s : Addr) (ps : List Addr) (M : WM) (N : KM), vs = [.ref k] ∧ WAt CW a dx t l M H ∧ KAt CK k dk a r n s ps N H ∧ WOk M ∧ KP M N ∧ Szz N ∧
  (N.over = true → ∀ H', Ext H H' → E (.ref cO) none H') ∧ (N.over = false → KOut K CW CK a dx t l k dk r n s ps H Q (kstep M N).1 (kstep M N).2.1 (kstep M N).2.2)
def SzB (b : Nat) (N : KM) : Prop := N.rest.length ≤ b ∧ N.names.length ≤ b ∧ N.seen.length ≤ b
def sp_kround : Sp := fun vs H Q E => ∃ (a dx t l k dk r n s : Addr) (ps : List Addr) (M : WM) (N : KM), vs = [.ref k] ∧ WAt CW a dx t l M H ∧ KAt CK k dk a r n s ps N H ∧ WOk M ∧ KP M N ∧ SzB 8900 N ∧
  (N.over = true → ∀ H', Ext H H' → E (.ref cO) none H') ∧ (N.over = false → ∀ j M1 N1 e, KRound j M N M1 N1 e → j ≤ 13 → KOut K CW CK a dx t l k dk r n s ps H Q M1 N1 e)
def sp_kall : Sp := fun vs H Q _ => ∃ (a dx t l k dk r n s : Addr) (ps : List Addr) (M : WM) (N : KM) (j : Nat) (M1 : WM) (N1 : KM), vs = [.ref k] ∧ WAt CW a dx t l M H ∧ KAt CK k dk a r n s ps N H ∧ WOk M ∧ KP M N ∧ KRun j M N M1 N1 ∧ SzB (8900 - j) N ∧ j ≤ 8900 ∧
  ∀ (l' : Addr) (ps' : List Addr) (p : Addr) (H' : Hp), WAt CW a dx t l' M1 H' → KAt CK k dk a r n s ps' N1 H' → H' p = some (.lst (bvs N1.names)) → H p = none → Step ([a, t, l] ++ ([k, r, n, s] ++ ps)) ([a, t, l'] ++ ([k, r, n, s] ++ ps')) H H' → Q (.ref p) H'
def sp_kleft : Sp := fun vs H Q _ => ∃ (a k dk r n s : Addr) (ps : List Addr) (N : KM), vs = [.ref k] ∧ KAt CK k dk a r n s ps N H ∧ ∀ (p : Addr) (H' : Hp), H p = none → Ext H H' → H' p = some (.lst (bvs N.rest)) → Q (.ref p) H'
def sp_kfound : Sp := fun vs H Q _ => ∃ (a k dk r n s : Addr) (ps : List Addr) (N : KM), vs = [.ref k] ∧ KAt CK k dk a r n s ps N H ∧ ∀ (p : Addr) (H' : Hp), H p = none → Ext H H' → H' p = some (.lst (bvs N.names)) → Q (.ref p) H'
def sp_kpaper : Sp := fun vs H Q _ => ∃ (a k dk r n s : Addr) (ps : List Addr) (N : KM), vs = [.ref k] ∧ KAt CK k dk a r n s ps N H ∧ ∀ (p : Addr) (H' : Hp), H p = none → Ext H H' → H' p = some (.lst (ps.map V.ref)) → Q (.ref p) H'
def sp_kway : Sp := fun vs H Q _ => ∃ (a k dk r n s : Addr) (ps : List Addr) (N : KM), vs = [.ref k] ∧ KAt CK k dk a r n s ps N H ∧ Q (.bl N.said.isSome) H
end
section
variable {P : Program} {w : World} {K : PySem.W.Frag} {mg : Str → Option Value} {base : Heap} {CW CK : Addr}
theorem ok_kinit {f c : Addr} {fd : FuncData} (F : Fun K "__init__" "Walk.__init__" s_Walk_init f fd) (T : TxB mg) (TK : ClK K CK) (C_need_kind : Cal P w K mg base 1 "need_kind" ["kind"] (sp_need_kind c)) :
    FnOk P w K mg base (L2.CX P w) 2 f fd ["self", "wire", "kind"] (sp_kinit CK c) := by
  refine F.okX sc_Walk_init (fun vs H Q E h => ?_) (fun cdv A outer s H vs Q E hr h => ⟨_, (pss_cons (ps_expr (pe_cal (E := E) C_need_kind (hr.mono (by first | decide | omega)) (passes_call (takes_of rfl rfl rfl rfl) (fun _ _ _ _ h => h)) (pa_cons (pv 2) pa_nil)))
 (pss_cons (sFldK (K := K) rfl (pv 0) (pv 1) rfl)
 (pss_cons (sFldK (K := K) rfl (pv 0) (pv 2) rfl)
 (pss_cons (sFldK (K := K) rfl (pv 0) (pe_lst (pa_cons pe_str pa_nil)) rfl)
 (pss_cons (sFldK (K := K) rfl (pv 0) pe_non rfl)
 (pss_cons (sFldK (K := K) rfl (pv 0) (pe_lst pa_nil) rfl)
 (pss_one (sFldK (K := K) rfl (pv 0) (pe_lst pa_nil) rfl)))))))), ?_⟩)
  · obtain ⟨k, a, dx, x, rfl, _⟩ := h
    rfl
  · obtain ⟨k, a, dx, x, rfl, ha, kE, q⟩ := h
    tm_at "r"
    refine ⟨x, rfl, fun hx => ?_, fun hx => kE hx⟩
    obtain ⟨c, rfl⟩ : ∃ c, x = kindS c := by
      rcases hx with rfl | rfl
      · exact ⟨true, rfl⟩
      · exact ⟨false, rfl⟩
    tm_at "r"
    refine ⟨k, CK, dx, [], rfl, ha, TK.cl, TK.n_wire, Nat.le_of_ble_eq_true (by kernel_rfl), ?_⟩
    tm_at "r"
    refine ⟨k, CK, dx, _, rfl, upd_same, TK.cl, TK.n_kind, Nat.le_of_ble_eq_true (by kernel_rfl), ?_⟩
    rw [upd_upd]
    have m1 : Step [k] [k] H (upd H k (.ins CK dx (putF "kind" (.str (kindS c)) (putF "wire" (.ref a) [])))) := Step.wr ha (by simp)
    have a1 : upd H k (.ins CK dx (putF "kind" (.str (kindS c)) (putF "wire" (.ref a) []))) k = some (.ins CK dx (putF "kind" (.str (kindS c)) (putF "wire" (.ref a) []))) := upd_same
    generalize upd H k (.ins CK dx (putF "kind" (.str (kindS c)) (putF "wire" (.ref a) []))) = H1 at m1 a1 ⊢
    tm_at "r"
    intro r H2 hr2 e2 hr3
    have a2 := e2.st _ _ a1 nsh_ins
    have nr : r ≠ k := fun e => by rw [e, a1] at hr2; cases hr2
    tm_at "r"
    refine ⟨k, CK, dx, _, rfl, a2, TK.cl, TK.n_rest, Nat.le_of_ble_eq_true (by kernel_rfl), ?_⟩
    tm_at "r"
    refine ⟨k, CK, dx, _, rfl, upd_same, TK.cl, TK.n_said, Nat.le_of_ble_eq_true (by kernel_rfl), ?_⟩
    rw [upd_upd]
    have er : [V.str ""] = bvs [[]] := by
      show [V.str ""] = [V.str (B [])]
      rw [← B_nil]
    rw [er] at hr3
    have m3 := (m1.trans (Step.of e2)).trans (Step.wr (o := .ins CK dx (putF "said" V.non (putF "rest" (.ref r) (putF "kind" (.str (kindS c)) (putF "wire" (.ref a) []))))) a2 (by simp))
    have r3 : upd H2 k (.ins CK dx (putF "said" V.non (putF "rest" (.ref r) (putF "kind" (.str (kindS c)) (putF "wire" (.ref a) []))))) r = some (.lst (bvs [[]])) := by rw [upd_ne nr]; exact hr3
    have a3 : upd H2 k (.ins CK dx (putF "said" V.non (putF "rest" (.ref r) (putF "kind" (.str (kindS c)) (putF "wire" (.ref a) []))))) k = _ := upd_same
    have frr := m1.free hr2
    generalize upd H2 k (.ins CK dx (putF "said" V.non (putF "rest" (.ref r) (putF "kind" (.str (kindS c)) (putF "wire" (.ref a) []))))) = H3 at m3 r3 a3 ⊢
    tm_at "r"
    intro n H4 hn4 e4 hn5
    have a4 := e4.st _ _ a3 nsh_ins
    have r4 := e4.st _ _ r3 (nsh_bvs _)
    have nn : n ≠ k := fun e => by rw [e, a3] at hn4; cases hn4
    have nnr : r ≠ n := fun e => by rw [← e, r3] at hn4; cases hn4
    have frn := m3.free hn4
    tm_at "r"
    refine ⟨k, CK, dx, _, rfl, a4, TK.cl, TK.n_names, Nat.le_of_ble_eq_true (by kernel_rfl), ?_⟩
    have m5 := (m3.trans (Step.of e4)).trans (Step.wr (o := .ins CK dx (putF "names" (.ref n) (putF "said" V.non (putF "rest" (.ref r) (putF "kind" (.str (kindS c)) (putF "wire" (.ref a) [])))))) a4 (by simp))
    have r5 : upd H4 k (.ins CK dx (putF "names" (.ref n) (putF "said" V.non (putF "rest" (.ref r) (putF "kind" (.str (kindS c)) (putF "wire" (.ref a) [])))))) r = some (.lst (bvs [[]])) := by rw [upd_ne nr]; exact r4
    have n5 : upd H4 k (.ins CK dx (putF "names" (.ref n) (putF "said" V.non (putF "rest" (.ref r) (putF "kind" (.str (kindS c)) (putF "wire" (.ref a) [])))))) n = some (.lst []) := by rw [upd_ne nn]; exact hn5
    have a5 : upd H4 k (.ins CK dx (putF "names" (.ref n) (putF "said" V.non (putF "rest" (.ref r) (putF "kind" (.str (kindS c)) (putF "wire" (.ref a) [])))))) k = _ := upd_same
    generalize upd H4 k (.ins CK dx (putF "names" (.ref n) (putF "said" V.non (putF "rest" (.ref r) (putF "kind" (.str (kindS c)) (putF "wire" (.ref a) [])))))) = H5 at m5 r5 n5 a5 ⊢
    tm_at "r"
    intro s H6 hs6 e6 hs7
    have a6 := e6.st _ _ a5 nsh_ins
    have r6 := e6.st _ _ r5 (nsh_bvs _)
    have n6 := e6.st _ _ n5 nsh_nil
    have ns : s ≠ k := fun e => by rw [e, a5] at hs6; cases hs6
    have nsr : r ≠ s := fun e => by rw [← e, r5] at hs6; cases hs6
    have nsn : n ≠ s := fun e => by rw [← e, n5] at hs6; cases hs6
    have frs := m5.free hs6
    tm_at "r"
    refine ⟨k, CK, dx, _, rfl, a6, TK.cl, TK.n_seen, Nat.le_of_ble_eq_true (by kernel_rfl), ?_⟩
    have ef : putF "seen" (.ref s) (putF "names" (.ref n) (putF "said" V.non (putF "rest" (.ref r) (putF "kind" (.str (kindS c)) (putF "wire" (.ref a) []))))) = kf a c r none n s := by kernel_rfl
    rw [ef]
    refine q c r n s _ rfl ⟨upd_same, by rw [upd_ne nr]; exact r6, by rw [upd_ne nn]; exact n6, by rw [upd_ne ns]; exact hs7, rfl, nnr, nsr, nsn⟩ (((m5.trans (Step.of e6)).trans (Step.wr a6 (by simp))).to fun b hb => ?_)
    simp only [List.append_nil, List.mem_cons, List.not_mem_nil, or_false] at hb
    rcases hb with rfl | rfl | rfl | rfl
    · exact .inl (by simp)
    · exact .inr frr
    · exact .inr frn
    · exact .inr frs
theorem ok_kfound {f : Addr} {fd : FuncData} (F : Fun K "found" "Walk.found" s_Walk_found f fd) (T : TxB mg) (TK : ClK K CK) : FnOk P w K mg base (L2.CX P w) 1 f fd ["self"] (sp_kfound CK) := by
  refine F.okX sc_Walk_found (fun vs H Q E h => ?_) (fun cdv A outer s H vs Q E hr h => ⟨_, (pss_one (ps_ret (pe_callTy (cList (K := K) rfl) (by rfl) T.n_list (by decide +kernel) (pa_cons (pFld (K := K) rfl (pv 0) rfl) pa_nil)))), ?_⟩)
  · obtain ⟨a, k, dk, r, n, s, ps, N, rfl, _⟩ := h
    rfl
  · obtain ⟨a, k, dk, r, n, s, ps, N, rfl, g, q⟩ := h
    have ob := g.ob
    tm_at "r"
    exact w_listL (SqL.of g.nm) q
theorem ok_ksay {f cR cB : Addr} {fd : FuncData} (F : Fun K "say" "Walk.say" s_Walk_say f fd) (T : TxB mg) (TW : ClW K CW) (TK : ClK K CK) (C_Wire_say : CalM P w K mg base 2 CW "say" ["self", "bit"] (sp_say CW cR cB)) :
    FnOk P w K mg base (L2.CX P w) 3 f fd ["self", "bit"] (sp_ksay CW CK) := by
  have cl_Wire := TW.cl
  refine F.okX sc_Walk_say (fun vs H Q E h => ?_) (fun cdv A outer s H vs Q E hr h => ⟨_, (pss_cons (ps_expr (pe_me (E := E0) (pFld (K := K) rfl (pv 0) rfl) cl_Wire C_Wire_say (hr.mono (by first | decide | omega)) passL (pa_cons (pv 1) pa_nil)))
 (pss_one (sFldK (K := K) rfl (pv 0) (pe_op o_addS (pFld (K := K) rfl (pv 0) rfl) (pe_callTy c_strI (by rfl) T.n_str (by decide +kernel) (pa_cons (pv 1) pa_nil))) rfl))), ?_⟩)
  · obtain ⟨a, dx, t, l, k, dk, r, n, s, ps, M, N, b, c, rfl, _⟩ := h
    rfl
  · obtain ⟨a, dx, t, l, k, dk, r, n, s, ps, M, N, b, c, rfl, W, g, ok, hs, ht, hb, q⟩ := h
    have ob := g.ob
    have u : Under M b := ⟨ht, hb⟩
    tm_at "r"
    refine w_meOk W.ob (by kernel_rfl) ?_
    tm_at "r"
    refine ⟨a, dx, t, l, M, bi c, rfl, W, ok, fun h => absurd u (h b), fun b2 _ h => absurd (by cases c <;> simp [bi]) h, fun b2 c2 H1 hu hc W1 m1 => ?_⟩
    have eb : b2 = b := by have := hu.1; rw [ht] at this; cases this; rfl
    subst eb
    have ec : c2 = c := by cases c <;> cases c2 <;> first | rfl | exact absurd hc (by decide)
    subst ec
    have g1 := g.stepW W m1
    have ob1 := g1.ob
    rw [hs] at ob1
    have hw := ok.w2
    tm_at "r"
    refine w_strI (by cases c2 <;> decide) ?_
    rw [str_bi]
    refine w_addS (by rw [B_len, B_len]; simp; omega) ?_
    rw [B_app]
    tm_at "r"
    refine t_said (some (b2 ++ [c2])) TK rfl ob1 ?_
    have g2 := g1.said (some (b2 ++ [c2]))
    have m2 : Step ([k, r, n, s] ++ ps) ([k, r, n, s] ++ ps) H1 (upd H1 k (.ins CK dk (kf a N.kind r (some (b2 ++ [c2])) n s))) := Step.wr g1.ob (by simp)
    exact q _ (W1.stepK g1 m2) g2 ((m1.wide _).trans (m2.wideL _))
theorem ok_kended {f : Addr} {fd : FuncData} (F : Fun K "ended" "Walk.ended" s_Walk_ended f fd) (T : TxB mg) (TW : ClW K CW) (TK : ClK K CK) {jF : Tok} (k_FOUND : mg "FOUND" = some (.str "found" jF)) :
    FnOk P w K mg base (L2.CX P w) 1 f fd ["self"] (sp_kended K CW CK) := by
  refine F.okX sc_Walk_ended (fun vs H Q E h => ?_) (fun cdv A outer s H vs Q E hr h => ⟨_, (pss_cons (ps_if (pt_cmpR op_lt (pe_callB c_lenT (by rfl) T.n_len (by decide +kernel) (pa_cons (pFld (K := K) rfl (pv 0) rfl) pa_nil)) (pFld (K := K) rfl (pFld (K := K) rfl (pv 0) rfl) rfl) (nomark _))
 (pss_one (ps_ret pe_non))
 pss_nil)
 (pss_cons (ps_set (i := 1) sc_Walk_ended.nd rfl (by first | exact Or.inl rfl | exact Or.inr rfl) (pFld (K := K) rfl (pv 0) rfl))
 (pss_cons (sFldK (K := K) rfl (pv 0) pe_non rfl)
 (pss_cons (ps_expr (pBm (K := K) rfl PySem.F.plainAttrs_list PySem.F.slot_list_append PySem.F.type_list_append mt_append (pFld (K := K) rfl (pv 0) rfl) (pa_cons (pv 1) pa_nil)))
 (pss_one (ps_ret (pe_tup (pa_cons (pe_glob (v := .str "found") rfl k_FOUND ⟨_, rfl⟩) (pa_cons (pv 1) pa_nil))))))))), ?_⟩)
  · obtain ⟨a, dx, t, l, k, dk, r, n, s, ps, M, N, b, rfl, _⟩ := h
    rfl
  · obtain ⟨a, dx, t, l, k, dk, r, n, s, ps, M, N, b, rfl, W, g, ok, hs, hb, sz, q⟩ := h
    have ob := g.ob
    have wb := W.ob
    have hw := ok.w2
    rw [hs] at ob
    tm_at "r"
    refine w_lenS (by rw [B_len]; omega) ?_
    rw [B_len]
    tm_at "r"
    by_cases c : b.length < M.width
    · have e : N.ended M.width b = ({ N with said := some b }, .none) := by unfold KM.ended; rw [if_pos c]
      have e2 : ({ N with said := some b } : KM) = N := by cases N; simp only at hs; rw [hs]
      rw [e, e2] at q
      refine w_iteT (decide_eq_true (by omega)) ?_
      tm_at "r"
      exact q _ _ W g .non (Step.of (Ext.refl _))
    · have e : N.ended M.width b = ({ N with said := none, names := N.names ++ [b] }, .found b) := by unfold KM.ended; rw [if_neg c]
      rw [e] at q
      refine w_iteF (decide_eq_false (by omega)) ?_
      tm_at "r"
      refine t_said none TK rfl ob ?_
      have g1 := g.said none
      have m1 : Step ([k, r, n, s] ++ ps) ([k, r, n, s] ++ ps) H (upd H k (.ins CK dk (kf a N.kind r none n s))) := Step.wr g.ob (by simp)
      have W1 := W.stepK g m1
      generalize upd H k (.ins CK dk (kf a N.kind r none n s)) = H1 at g1 m1 W1 ⊢
      have ob1 := g1.ob
      tm_at "r"
      refine w_tyL (SqL.of g1.nm) ?_
      tm_at "r"
      refine w_append g1.nm (by rw [bvs_len]; have := sz.2.1; show N.names.length < 100000; omega) ?_
      rw [bvs_snoc]
      have g2 := g1.names (N.names ++ [b])
      have m2 : Step ([k, r, n, s] ++ ps) ([k, r, n, s] ++ ps) H1 (upd H1 n (.lst (bvs (N.names ++ [b])))) := Step.wr g1.nm (by simp)
      have W2 := W1.stepK g1 m2
      generalize upd H1 n (.lst (bvs (N.names ++ [b]))) = H2 at g2 m2 W2 ⊢
      tm_at "r"
      intro p H3 hp e3 hp3
      exact q _ H3 ((oWire CW a dx t l M).ext e3 W2) (g2.ext e3) (.tup (SqT.of hp3) (by show 2 ≤ 100000; decide) (.cons (.str _) (.cons (.str _) .nil))) ((m1.trans m2).trans (Step.of e3))
theorem ok_kbegin {f cO cK : Addr} {fd : FuncData} (F : Fun K "begin" "Walk.begin" s_Walk_begin f fd) (T : TxB mg) (TW : ClW K CW) (TK : ClK K CK) (X_Over : ExcC K mg "Over" cO) (C_Wire_begin : CalM P w K mg base 2 CW "begin" ["self", "kind"] (sp_begin CW cK))
    (C_Walk_say : CalM P w K mg base 3 CK "say" ["self", "bit"] (sp_ksay CW CK)) (C_Walk_ended : CalM P w K mg base 1 CK "ended" ["self"] (sp_kended K CW CK)) :
    FnOk P w K mg base (L2.CX P w) 4 f fd ["self"] (sp_kbegin K CW CK cO) := by
  have cl_Wire := TW.cl
  have cl_Walk := TK.cl
  refine F.okX sc_Walk_begin (fun vs H Q E h => ?_) (fun cdv A outer s H vs Q E hr h => ⟨_, (pss_cons (ps_if (pt_cmpR (oEqD (K := K) rfl hr.units) (pFld (K := K) rfl (pv 0) rfl) (pe_lst pa_nil) (nomark _))
 (pss_one (ps_raise rfl (takes_of rfl rfl rfl rfl) (pmkC X_Over)))
 pss_nil)
 (pss_cons (ps_set (i := 1) sc_Walk_begin.nd rfl (by first | exact Or.inl rfl | exact Or.inr rfl) (pBm0 (K := K) rfl PySem.F.plainAttrs_list PySem.F.slot_list_pop PySem.F.type_list_pop mt_pop (pFld (K := K) rfl (pv 0) rfl)))
 (pss_cons (ps_expr (pe_me (E := E) (pFld (K := K) rfl (pv 0) rfl) cl_Wire C_Wire_begin (hr.mono (by first | decide | omega)) (passes_call (takes_of rfl rfl rfl rfl) (fun _ _ _ _ h => h)) (pa_cons (pFld (K := K) rfl (pv 0) rfl) pa_nil)))
 (pss_cons (sFldK (K := K) rfl (pv 0) pe_str rfl)
 (pss_cons (ps_for (passes_of rfl) rfl (pi_str (pv 1)) (pg_name (i := 2) sc_Walk_begin.nd rfl (by first | exact Or.inl rfl | exact Or.inr rfl))
 (pss_one (ps_expr (pe_me (E := E) (pv 0) cl_Walk C_Walk_say (hr.mono (by first | decide | omega)) (passes_call (takes_of rfl rfl rfl rfl) (fun _ _ _ _ h => h)) (pa_cons (pe_callTy c_intS (by rfl) T.n_int (by decide +kernel) (pa_cons (pv 2) pa_nil)) pa_nil)))))
 (pss_one (ps_ret (pe_me0 (E := E) (pv 0) cl_Walk C_Walk_ended (hr.mono (by first | decide | omega)) (passes_call (takes_of rfl rfl rfl rfl) (fun _ _ _ _ h => h)))))))))), ?_⟩)
  · obtain ⟨a, dx, t, l, k, dk, r, n, s, ps, M, N, rfl, _⟩ := h
    rfl
  · obtain ⟨a, dx, t, l, k, dk, r, n, s, ps, M, N, rfl, W, g, ok, kp, sz, hs, kE, q⟩ := h
    have ob := g.ob
    tm_at "r"
    intro z H1 hz e1 hz1
    have g1 := g.ext e1
    have W1 : WAt CW a dx t l M H1 := (oWire CW a dx t l M).ext e1 W
    refine w_eqLs (ls := N.rest) (ms := []) (SqL.of g1.rs) (SqL.of hz1) ?_
    tm_at "r"
    refine w_iteD (fun c => ?_) fun c => ?_
    · exact kE c H1 e1
    · have q := q c
      rw [kstep_none hs] at q
      have ob1 := g1.ob
      tm_at "r"
      refine w_tyL (SqL.of g1.rs) ?_
      refine w_lpop g1.rs c ?_
      have gm := kp.lr _ (getLastD_mem c)
      unfold stepB at q
      generalize N.rest.getLastD [] = b at q gm ⊢
      have g2 := g1.rest N.rest.dropLast
      have m2 : Step ([k, r, n, s] ++ ps) ([k, r, n, s] ++ ps) H (upd H1 r (.lst (bvs N.rest.dropLast))) := (Step.of e1).trans (Step.wr g1.rs (by simp))
      have W2 := W.stepK g m2
      generalize upd H1 r (.lst (bvs N.rest.dropLast)) = H2 at g2 m2 W2 ⊢
      have ob2 := g2.ob
      tm_at "r"
      refine w_meOk W2.ob (by kernel_rfl) ?_
      tm_at "r"
      refine ⟨a, dx, t, l, M, kindS N.kind, rfl, W2, ok, fun h => absurd (kindS_or N.kind) h, fun l3 H3 _ W3 m3 => ?_⟩
      rw [kindS_dec, begin_tell] at W3
      have g3 := g2.stepW W2 m3
      have ob3 := g3.ob
      tm_at "r"
      refine t_said (some []) TK (by rw [B_nil]; rfl) ob3 ?_
      have g4 := g3.said (some [])
      have m4 : Step ([k, r, n, s] ++ ps) ([k, r, n, s] ++ ps) H3 (upd H3 k (.ins CK dk (kf a N.kind r (some []) n s))) := Step.wr g3.ob (by simp)
      have W4 := W3.stepK g3 m4
      have m5 : Step ([a, t, l] ++ ([k, r, n, s] ++ ps)) ([a, t, l3] ++ ([k, r, n, s] ++ ps)) H (upd H3 k (.ins CK dk (kf a N.kind r (some []) n s))) := ((m2.wideL _).trans (m3.wide _)).trans (m4.wideL _)
      generalize hH : upd H3 k (.ins CK dk (kf a N.kind r (some []) n s)) = H4
      have g4' : KAt CK k dk a r n s ps { N with rest := N.rest.dropLast, said := some [] } H4 := by rw [← hH]; exact g4
      rw [hH] at W4 m5
      tm_at "r"
      refine forS (fun i σ2 H5 => ∃ v : Option V, σ2 = [some (.ref k), some (.str (B b)), v] ∧ WAt CW a dx t l3 (M.tell N.kind (b.take i)) H5 ∧ KAt CK k dk a r n s ps { N with rest := N.rest.dropLast, said := some (b.take i) } H5 ∧
          Step ([a, t, l] ++ ([k, r, n, s] ++ ps)) ([a, t, l3] ++ ([k, r, n, s] ++ ps)) H H5) ⟨_, rfl, W4, g4', m5⟩ ?_ ?_
      · rintro i c2 σ2 H5 NN hi ⟨v, rfl, W5, g5, m5⟩ kN
        rw [B_list, List.getElem?_map] at hi
        obtain ⟨d, hd, rfl⟩ := Option.map_eq_some_iff.mp hi
        have hil := (List.getElem?_eq_some_iff.mp hd).1
        have etk : b.take (i + 1) = b.take i ++ [d] := by
          rw [List.take_succ, hd]
          rfl
        have ob5 := g5.ob
        tm_at "r"
        refine w_meOk ob5 (by kernel_rfl) ?_
        tm_at "r"
        rw [B_one]
        refine w_intS (int_sign d) (by rw [B_len]; show 1 ≤ 640; decide) ?_
        have eb : (if d = true then (1 : Int) else 0) = bi d := rfl
        rw [eb]
        have hlt : (b.take i).length = i := by rw [List.length_take]; omega
        tm_at "r"
        refine ⟨a, dx, t, l3, k, dk, r, n, s, ps, M.tell N.kind (b.take i), _, b.take i, d, rfl, W5, g5, tell_ok ok _ (by omega), rfl, rfl, (by show (b.take i).length < M.width; omega), fun H6 W6 g6 m6 => ?_⟩
        refine kN _ _ ⟨_, rfl, ?_, ?_, m5.trans m6⟩
        · rw [etk, ← tell_say]
          exact W6
        · rw [etk]
          exact g6
      · rintro σ2 H5 ⟨v, rfl, W5, g5, m5⟩
        rw [B_len, List.take_length] at W5 g5
        have ob5 := g5.ob
        tm_at "r"
        refine w_meOk ob5 (by kernel_rfl) ?_
        refine ⟨a, dx, t, l3, k, dk, r, n, s, ps, M.tell N.kind b, _, b, rfl, W5, g5, tell_ok ok _ gm, rfl, gm, ⟨by have := sz.1; show N.rest.dropLast.length ≤ 9000; rw [List.length_dropLast]; omega, sz.2⟩, fun v6 H6 W6 g6 d6 m6 => ?_⟩
        exact q l3 ps v6 H6 W6 g6 d6 (m5.trans (m6.wideL _))
theorem ok_kstep {f cO cR : Addr} {fd : FuncData} {jL : Tok} (F : Fun K "step" "Walk.step" s_Walk_step f fd) (T : TxB mg) (TW : ClW K CW) (TK : ClK K CK) (k_LOST : mg "LOST" = some (.str "lost" jL)) (C_Wire_look : CalM P w K mg base 2 CW "look" ["self"] (sp_look CW cR))
    (C_Walk_say : CalM P w K mg base 3 CK "say" ["self", "bit"] (sp_ksay CW CK)) (C_Walk_ended : CalM P w K mg base 1 CK "ended" ["self"] (sp_kended K CW CK)) (C_Walk_begin : CalM P w K mg base 4 CK "begin" ["self"] (sp_kbegin K CW CK cO)) :
    FnOk P w K mg base (L2.CX P w) 5 f fd ["self"] (sp_kstep K CW CK cO) := by
  have cl_Wire := TW.cl
  have cl_Walk := TK.cl
  refine F.okX sc_Walk_step (fun vs H Q E h => ?_) (fun cdv A outer s H vs Q E hr h => ⟨_, (pss_cons (ps_if (pt_cmp (pc_isN (pFld (K := K) rfl (pv 0) rfl)))
 (pss_one (ps_ret (pe_me0 (E := E) (pv 0) cl_Walk C_Walk_begin (hr.mono (by first | decide | omega)) (passes_call (takes_of rfl rfl rfl rfl) (fun _ _ _ _ h => h)))))
 pss_nil)
 (pss_cons (ps_asg (pe_me0 (E := E) (pFld (K := K) rfl (pv 0) rfl) cl_Wire C_Wire_look (hr.mono (by first | decide | omega)) (passes_call (takes_of rfl rfl rfl rfl) (fun _ _ _ _ h => h))) (pg_tup rfl (pgs_cons (pg_name (i := 1) sc_Walk_step.nd rfl (by first | exact Or.inl rfl | exact Or.inr rfl)) (pgs_cons (pg_name (i := 2) sc_Walk_step.nd rfl (by first | exact Or.inl rfl | exact Or.inr rfl)) pgs_nil))))
 (pss_cons (ps_expr (pBm (K := K) rfl PySem.F.plainAttrs_list PySem.F.slot_list_append PySem.F.type_list_append mt_append (pFld (K := K) rfl (pv 0) rfl) (pa_cons (pe_tup (pa_cons (pFld (K := K) rfl (pv 0) rfl) (pa_cons (pv 1) (pa_cons (pv 2) pa_nil)))) pa_nil)))
 (pss_cons (ps_if (PW.pt (pw_and (pt_not (pt_val (pv 1))) (pw_and1 (pt_not (pt_val (pv 2))))))
 (pss_cons (sFldK (K := K) rfl (pv 0) pe_non rfl)
 (pss_one (ps_ret (pe_tup (pa_cons (pe_glob (v := .str "lost") rfl k_LOST ⟨_, rfl⟩) pa_nil)))))
 pss_nil)
 (pss_cons (ps_if (PW.pt (pw_and (pt_val (pv 1)) (pw_and1 (pt_val (pv 2)))))
 (pss_one (ps_expr (pBm (K := K) rfl PySem.F.plainAttrs_list PySem.F.slot_list_append PySem.F.type_list_append mt_append (pFld (K := K) rfl (pv 0) rfl) (pa_cons (pe_op o_addS (pFld (K := K) rfl (pv 0) rfl) pe_str) pa_nil))))
 pss_nil)
 (pss_cons (ps_expr (pe_me (E := E) (pv 0) cl_Walk C_Walk_say (hr.mono (by first | decide | omega)) (passes_call (takes_of rfl rfl rfl rfl) (fun _ _ _ _ h => h)) (pa_cons (pe_ifExp (pt_val (pv 1)) pe_int pe_int) pa_nil)))
 (pss_one (ps_ret (pe_me0 (E := E) (pv 0) cl_Walk C_Walk_ended (hr.mono (by first | decide | omega)) (passes_call (takes_of rfl rfl rfl rfl) (fun _ _ _ _ h => h))))))))))), ?_⟩)
  · obtain ⟨a, dx, t, l, k, dk, r, n, s, ps, M, N, rfl, _⟩ := h
    rfl
  · obtain ⟨a, dx, t, l, k, dk, r, n, s, ps, M, N, rfl, W, g, ok, kp, sz, kE, q⟩ := h
    have ob := g.ob
    tm_at "r"
    cases hs : N.said with
    | none =>
      refine w_iteT rfl ?_
      tm_at "r"
      refine w_meOk g.ob (by kernel_rfl) ?_
      refine ⟨a, dx, t, l, k, dk, r, n, s, ps, M, N, rfl, W, g, ok, kp, ⟨Nat.le_of_lt sz.1, sz.2.1, Nat.le_of_lt sz.2.2⟩, hs, fun hr H' e => kE (by simp [KM.over, hs, hr]) H' e, fun hr => q (by simp [KM.over, hs, hr])⟩
    | some b =>
      refine w_iteF (by simp [tvo]) ?_
      have q := q (over_some hs)
      rw [kstep_some hs] at q
      obtain ⟨hb, ht⟩ := kp.ls b hs
      have hw := ok.w2
      have szr := sz.1
      have szs := sz.2.2
      rw [hs] at ob
      tm_at "r"
      refine w_meOk W.ob (by kernel_rfl) ?_
      refine ⟨a, dx, t, l, M, rfl, W, ok, fun h => absurd ⟨ht, hb⟩ (h b), fun b2 p H1 hu hp W1 m1 hp1 => ?_⟩
      have eb : b2 = b := by have := hu.1; rw [ht] at this; cases this; rfl
      subst eb
      have g1 := g.stepW W m1
      unfold stepL at q
      simp only at q
      generalize lookZ M.lis b2 false = z at hp1 q
      generalize lookZ M.lis b2 true = o at hp1 q
      refine ⟨p, _, rfl, SqT.of hp1, rfl, ?_⟩
      have ob1 := g1.ob
      rw [hs] at ob1
      tm_at "r"
      refine w_tyL (SqL.of g1.sn) ?_
      tm_at "r"
      intro p2 H2 hp2 e2 hp3
      have g2 := g1.ext e2
      have W2 : WAt CW a dx t l M.look H2 := (oWire CW a dx t l M.look).ext e2 W1
      tm_at "r"
      refine w_append g2.sn (by rw [List.length_map, g2.seen_len]; have := sz.2.2; omega) ?_
      have es : List.map V.ref ps ++ [V.ref p2] = (ps ++ [p2]).map V.ref := by simp
      rw [es]
      have g3 := g2.seen (e := (b2, z, o)) hp3
      have m3 : Step ([k, r, n, s] ++ ps) ([k, r, n, s] ++ ps) H1 (upd H2 s (.lst ((ps ++ [p2]).map V.ref))) := (Step.of e2).trans (Step.wr g2.sn (by simp))
      have W3 := W1.stepK g1 m3
      have m4 : Step ([a, t, l] ++ ([k, r, n, s] ++ ps)) ([a, t, l] ++ ([k, r, n, s] ++ (ps ++ [p2]))) H (upd H2 s (.lst ((ps ++ [p2]).map V.ref))) := ((m1.wide _).trans (m3.wideL _)).to fun x hx => by
        rw [← List.append_assoc, ← List.append_assoc] at hx
        rcases List.mem_append.mp hx with hx | hx
        · exact .inl (by rw [← List.append_assoc]; exact hx)
        · rw [List.mem_singleton.mp hx]
          exact .inr (m1.free hp2)
      generalize upd H2 s (.lst ((ps ++ [p2]).map V.ref)) = H3 at g3 m4 W3 ⊢
      clear m3
      have ob3 := g3.ob
      have rs3 := g3.rs
      simp only at ob3 rs3
      rw [hs] at ob3
      tm_at "r"
      have okl := ok.look
      cases z <;> cases o
      all_goals simp only [Bool.not_false, Bool.not_true, Bool.and_true, Bool.and_false, Bool.and_self, Bool.false_eq_true, if_true, if_false, reduceIte] at q
      all_goals tm_at "e"
      · refine t_said none TK rfl ob3 ?_
        have g4 := g3.said none
        have m5 := m4.trans ((Step.wr (o := .ins CK dk (kf a N.kind r none n s)) g3.ob (by simp) : Step ([k, r, n, s] ++ (ps ++ [p2])) ([k, r, n, s] ++ (ps ++ [p2])) _ _).wideL [a, t, l])
        have W4 := W3.stepK g3 (Step.wr (o := .ins CK dk (kf a N.kind r none n s)) g3.ob (by simp))
        generalize upd H3 k (.ins CK dk (kf a N.kind r none n s)) = H4 at g4 m5 W4 ⊢
        tm_at "r"
        intro p5 H5 hp5 e5 hp6
        exact q l _ _ H5 ((oWire CW a dx t l M.look).ext e5 W4) (g4.ext e5) (.tup (SqT.of hp6) (by show 1 ≤ 100000; decide) (.cons (.str _) .nil)) (m5.trans (Step.of e5))
      · skip
        refine w_meOk g3.ob (by kernel_rfl) ?_
        tm_at "e"
        refine ⟨a, dx, t, l, k, dk, r, n, s, ps ++ [p2], M.look, _, b2, true, rfl, W3, g3, okl, hs, ht, hb, fun H6 W6 g6 m6 => ?_⟩
        have ob6 := g6.ob
        tm_at "r"
        refine w_meOk ob6 (by kernel_rfl) ?_
        refine ⟨a, dx, t, l, k, dk, r, n, s, ps ++ [p2], M.look.say b2 true, _, b2 ++ [true], rfl, W6, g6, okl.say hb, rfl, (by show (b2 ++ [true]).length ≤ M.width; rw [List.length_append]; exact hb), ⟨Nat.le_of_lt sz.1, sz.2.1, by show (N.seen ++ _).length ≤ 9000; rw [List.length_append]; have := szs; simp; omega⟩, fun v7 H7 W7 g7 d7 m7 => ?_⟩
        exact q l _ v7 H7 W7 g7 d7 ((m4.trans m6).trans (m7.wideL _))
      · skip
        refine w_meOk g3.ob (by kernel_rfl) ?_
        tm_at "e"
        refine ⟨a, dx, t, l, k, dk, r, n, s, ps ++ [p2], M.look, _, b2, false, rfl, W3, g3, okl, hs, ht, hb, fun H6 W6 g6 m6 => ?_⟩
        have ob6 := g6.ob
        tm_at "r"
        refine w_meOk ob6 (by kernel_rfl) ?_
        refine ⟨a, dx, t, l, k, dk, r, n, s, ps ++ [p2], M.look.say b2 false, _, b2 ++ [false], rfl, W6, g6, okl.say hb, rfl, (by show (b2 ++ [false]).length ≤ M.width; rw [List.length_append]; exact hb), ⟨Nat.le_of_lt sz.1, sz.2.1, by show (N.seen ++ _).length ≤ 9000; rw [List.length_append]; have := szs; simp; omega⟩, fun v7 H7 W7 g7 d7 m7 => ?_⟩
        exact q l _ v7 H7 W7 g7 d7 ((m4.trans m6).trans (m7.wideL _))
      · skip
        refine w_tyL (SqL.of rs3) ?_
        tm_at "r"
        rw [B_1]
        refine w_addS (by rw [B_len, B_len]; simp; omega) ?_
        rw [B_app]
        tm_at "r"
        refine w_append rs3 (by rw [bvs_len]; have := sz.1; omega) ?_
        rw [bvs_snoc]
        have g4 := g3.rest (N.rest ++ [b2 ++ [true]])
        have m5 := m4.trans ((Step.wr (o := .lst (bvs (N.rest ++ [b2 ++ [true]]))) g3.rs (by simp) : Step ([k, r, n, s] ++ (ps ++ [p2])) ([k, r, n, s] ++ (ps ++ [p2])) _ _).wideL [a, t, l])
        have W4 := W3.stepK g3 (Step.wr (o := .lst (bvs (N.rest ++ [b2 ++ [true]]))) g3.rs (by simp))
        generalize upd H3 r (.lst (bvs (N.rest ++ [b2 ++ [true]]))) = H4 at g4 m5 W4 ⊢
        have ob4 := g4.ob
        tm_at "e"
        refine w_meOk g4.ob (by kernel_rfl) ?_
        tm_at "e"
        refine ⟨a, dx, t, l, k, dk, r, n, s, ps ++ [p2], M.look, _, b2, false, rfl, W4, g4, okl, hs, ht, hb, fun H6 W6 g6 m6 => ?_⟩
        have ob6 := g6.ob
        tm_at "r"
        refine w_meOk ob6 (by kernel_rfl) ?_
        refine ⟨a, dx, t, l, k, dk, r, n, s, ps ++ [p2], M.look.say b2 false, _, b2 ++ [false], rfl, W6, g6, okl.say hb, rfl, (by show (b2 ++ [false]).length ≤ M.width; rw [List.length_append]; exact hb), ⟨by show (N.rest ++ _).length ≤ 9000; rw [List.length_append]; have := szr; simp; omega, sz.2.1, by show (N.seen ++ _).length ≤ 9000; rw [List.length_append]; have := szs; simp; omega⟩, fun v7 H7 W7 g7 d7 m7 => ?_⟩
        exact q l _ v7 H7 W7 g7 d7 ((m5.trans m6).trans (m7.wideL _))
theorem dq_non {H : Hp} {v : V} {d : PyData} (h : Dq K H v d) : (v = .non ↔ d = .none) := by cases h <;> simp
theorem kround_split {j : Nat} {M M1 : WM} {N N1 : KM} {e : Res} (t : KRound j M N M1 N1 e) : (j = 1 ∧ (kstep M N).2.2 ≠ .none ∧ M1 = (kstep M N).1 ∧ N1 = (kstep M N).2.1 ∧ e = (kstep M N).2.2) ∨ (∃ m, j = m + 1 ∧ (kstep M N).2.2 = .none ∧ KRound m (kstep M N).1 (kstep M N).2.1 M1 N1 e) := by
  cases t with
  | last h => exact .inl ⟨rfl, h, rfl, rfl, rfl⟩
  | more h t => exact .inr ⟨_, rfl, h, t⟩
def RW_ (K : PySem.W.Frag) (CW CK a dx t l k dk r n s : Addr) (ps : List Addr) (H0 : Hp) (M' : WM) (N' : KM) (e' : Res) (m : Nat) (σ : St) (H : Hp) : Prop := ∃ (v : V) (M1 : WM) (N1 : KM) (e : Res) (l1 : Addr) (ps1 : List Addr), σ = [some (.ref k), some v] ∧ WAt CW a dx t l1 M1 H ∧ KAt CK k dk a r n s ps1 N1 H ∧ Dq K H v (dres e) ∧
  Step ([a, t, l] ++ ([k, r, n, s] ++ ps)) ([a, t, l1] ++ ([k, r, n, s] ++ ps1)) H0 H ∧ ((m = 0 ∧ e ≠ .none ∧ M1 = M' ∧ N1 = N' ∧ e = e') ∨ (e = .none ∧ KRound m M1 N1 M' N' e' ∧ WOk M1 ∧ KP M1 N1 ∧ N1.over = false ∧ SzB (8914 - m) N1 ∧ m ≤ 13))
theorem ok_kround {f cO : Addr} {fd : FuncData} (F : Fun K "go_round" "Walk.go_round" s_Walk_go_round f fd) (T : TxB mg) (TW : ClW K CW) (TK : ClK K CK) (C_Walk_step : CalM P w K mg base 5 CK "step" ["self"] (sp_kstep K CW CK cO)) :
    FnOk P w K mg base (L2.CX P w) 6 f fd ["self"] (sp_kround K CW CK cO) := by
  have cl_Walk := TK.cl
  refine F.okX sc_Walk_go_round (fun vs H Q E h => ?_) (fun cdv A outer s H vs Q E hr h => ⟨_, (pss_cons (ps_set (i := 1) sc_Walk_go_round.nd rfl (by first | exact Or.inl rfl | exact Or.inr rfl) (pe_me0 (E := E) (pv 0) cl_Walk C_Walk_step (hr.mono (by first | decide | omega)) (passes_call (takes_of rfl rfl rfl rfl) (fun _ _ _ _ h => h))))
 (pss_cons (ps_while (passes_of rfl) (pt_cmp (pc_isN (pv 1)))
 (pss_one (ps_set (i := 1) sc_Walk_go_round.nd rfl (by first | exact Or.inl rfl | exact Or.inr rfl) (pe_me0 (E := E) (pv 0) cl_Walk C_Walk_step (hr.mono (by first | decide | omega)) (passes_call (takes_of rfl rfl rfl rfl) (fun _ _ _ _ h => h))))))
 (pss_one (ps_ret (pv 1))))), ?_⟩)
  · obtain ⟨a, dx, t, l, k, dk, r, n, s, ps, M, N, rfl, _⟩ := h
    rfl
  · obtain ⟨a, dx, t, l, k, dk, r, n, s, ps, M, N, rfl, W, g, ok, kp, sz, kE, q⟩ := h
    tm_at "r"
    refine w_meOk g.ob (by kernel_rfl) ?_
    refine ⟨a, dx, t, l, k, dk, r, n, s, ps, M, N, rfl, W, g, ok, kp, ⟨Nat.lt_of_le_of_lt sz.1 (by decide), Nat.le_trans sz.2.1 (by decide), Nat.lt_of_le_of_lt sz.2.2 (by decide)⟩, kE, fun ho => ?_⟩
    obtain ⟨j, M', N', e', hj, hjl⟩ := kround_ex kp ho
    have hj13 : j ≤ 13 := by
      have hw := ok.w2
      refine Nat.le_trans hjl ?_
      cases hs : N.said with
      | none => rw [gap_none hs]; omega
      | some b => rw [gap_some hs]; omega
    have q := q ho j M' N' e' hj hj13
    have step1 : ∀ (j : Nat) (M1 : WM) (N1 : KM), KRound j M1 N1 M' N' e' → N1.over = false → KP M1 N1 → WOk M1 → j ≤ 13 → SzB (8914 - j) N1 → ∀ (v : V) (l1 : Addr) (ps1 : List Addr) (H1 : Hp), WAt CW a dx t l1 (kstep M1 N1).1 H1 → KAt CK k dk a r n s ps1 (kstep M1 N1).2.1 H1 → Dq K H1 v (dres (kstep M1 N1).2.2) →
        Step ([a, t, l] ++ ([k, r, n, s] ++ ps)) ([a, t, l1] ++ ([k, r, n, s] ++ ps1)) H H1 → 1 ≤ j ∧ RW_ K CW CK a dx t l k dk r n s ps H M' N' e' (j - 1) [some (.ref k), some v] H1 := by
      intro j M1 N1 hj ho kp ok hj13 sz v l1 ps1 H1 W1 g1 d1 m1
      rcases kround_split hj with ⟨rfl, h1, rfl, rfl, rfl⟩ | ⟨m, rfl, h1, h2⟩
      · exact ⟨Nat.le_refl _, v, _, _, _, l1, ps1, rfl, W1, g1, d1, m1, .inl ⟨rfl, h1, rfl, rfl, rfl⟩⟩
      · obtain ⟨z1, z2, z3⟩ := kstep_size M1 N1
        exact ⟨by omega, v, _, _, _, l1, ps1, rfl, W1, g1, d1, m1, .inr ⟨h1, h2, kstep_ok ok kp ho, kp.step ho, (kstep_gap kp h1).2, ⟨by have := sz.1; omega, by have := sz.2.1; omega, by have := sz.2.2; omega⟩, by omega⟩⟩
    intro l1 ps1 v H1 W1 g1 d1 m1
    have first := step1 j M N hj ho kp ok hj13 ⟨by have := sz.1; omega, by have := sz.2.1; omega, by have := sz.2.2; omega⟩ v l1 ps1 H1 W1 g1 d1 m1
    clear W1 g1 d1 m1
    tm_at "r"
    refine ⟨RW_ K CW CK a dx t l k dk r n s ps H M' N' e', ⟨_, first.2⟩, ?_⟩
    rintro m σ2 H2 ⟨v2, M2, N2, e2, l2, ps2, rfl, W2, g2, d2, m2, h2⟩
    tm_at "r"
    rcases h2 with ⟨rfl, h3, rfl, rfl, rfl⟩ | ⟨rfl, h3, ok2, kp2, ho2, sz2, hm⟩
    · refine w_iteF (decide_eq_false fun h => h3 (dres_none.mp ((dq_non d2).mp h))) ?_
      tm_at "r"
      exact q l2 ps2 v2 H2 W2 g2 d2 m2
    · refine w_iteT (decide_eq_true ((dq_non d2).mpr rfl)) ?_
      refine ⟨fun σ3 H3 => ∃ m', m' < m ∧ RW_ K CW CK a dx t l k dk r n s ps H M' N' e' m' σ3 H3, fun _ _ h => h, ?_⟩
      tm_at "r"
      refine w_meOk g2.ob (by kernel_rfl) ?_
      refine ⟨a, dx, t, l2, k, dk, r, n, s, ps2, M2, N2, rfl, W2, g2, ok2, kp2, ⟨by have := sz2.1; omega, by have := sz2.2.1; omega, by have := sz2.2.2; omega⟩, fun h => (by rw [ho2] at h; cases h), fun _ => ?_⟩
      intro l3 ps3 v3 H3 W3 g3 d3 m3
      tm_at "r"
      obtain ⟨h4, h5⟩ := step1 m M2 N2 h3 ho2 kp2 ok2 hm sz2 v3 l3 ps3 H3 W3 g3 d3 (m2.trans m3)
      exact ⟨m - 1, by omega, h5⟩
theorem ok_kall {f cO : Addr} {fd : FuncData} (F : Fun K "go_all" "Walk.go_all" s_Walk_go_all f fd) (T : TxB mg) (TW : ClW K CW) (TK : ClK K CK) (C_Walk_go_round : CalM P w K mg base 6 CK "go_round" ["self"] (sp_kround K CW CK cO)) (C_Walk_found : CalM P w K mg base 1 CK "found" ["self"] (sp_kfound CK)) :
    FnOk P w K mg base (L2.CX P w) 7 f fd ["self"] (sp_kall CW CK) := by
  have cl_Walk := TK.cl
  refine F.okX sc_Walk_go_all (fun vs H Q E h => ?_) (fun cdv A outer s H vs Q E hr h => ⟨_, (pss_cons (ps_while (passes_of rfl) (PW.pt (pw_or (pt_cmp (pc_notN (pFld (K := K) rfl (pv 0) rfl))) (pw_or1 (pt_cmpR (oNeD (K := K) rfl hr.units) (pFld (K := K) rfl (pv 0) rfl) (pe_lst pa_nil) (nomark _)))))
 (pss_one (ps_expr (pe_me0 (E := E0) (pv 0) cl_Walk C_Walk_go_round (hr.mono (by first | decide | omega)) passL))))
 (pss_one (ps_ret (pe_me0 (E := E0) (pv 0) cl_Walk C_Walk_found (hr.mono (by first | decide | omega)) passL)))), ?_⟩)
  · obtain ⟨a, dx, t, l, k, dk, r, n, s, ps, M, N, j, M1, N1, rfl, _⟩ := h
    rfl
  · obtain ⟨a, dx, t, l, k, dk, r, n, s, ps, M, N, j, M1, N1, rfl, W, g, ok, kp, hj, sz, hjl, q⟩ := h
    tm_at "r"
    refine ⟨fun m σ2 H2 => ∃ (M2 : WM) (N2 : KM) (l2 : Addr) (ps2 : List Addr), σ2 = [some (.ref k)] ∧ WAt CW a dx t l2 M2 H2 ∧ KAt CK k dk a r n s ps2 N2 H2 ∧ WOk M2 ∧ KP M2 N2 ∧ KRun m M2 N2 M1 N1 ∧ SzB (8900 - m) N2 ∧ m ≤ 8900 ∧
      Step ([a, t, l] ++ ([k, r, n, s] ++ ps)) ([a, t, l2] ++ ([k, r, n, s] ++ ps2)) H H2, ⟨j, M, N, l, ps, rfl, W, g, ok, kp, hj, sz, hjl, Step.of (Ext.refl _)⟩, ?_⟩
    rintro m σ2 H2 ⟨M2, N2, l2, ps2, rfl, W2, g2, ok2, kp2, hm, sz2, hml, m2⟩
    have run : N2.over = false → ∀ H3, Ext H2 H3 → ∃ NN : St → Hp → Prop, (∀ σ' H', NN σ' H' → ∃ m', m' < m ∧ ∃ (M2 : WM) (N2 : KM) (l2 : Addr) (ps2 : List Addr), σ' = [some (.ref k)] ∧ WAt CW a dx t l2 M2 H' ∧ KAt CK k dk a r n s ps2 N2 H' ∧ WOk M2 ∧ KP M2 N2 ∧ KRun m' M2 N2 M1 N1 ∧ SzB (8900 - m') N2 ∧ m' ≤ 8900 ∧
        Step ([a, t, l] ++ ([k, r, n, s] ++ ps)) ([a, t, l2] ++ ([k, r, n, s] ++ ps2)) H H') ∧ sp_kround K CW CK cO [.ref k] H3 (fun _ H4 => NN [some (.ref k)] H4) E0 := by
      intro ho H3 e3
      have W3 : WAt CW a dx t l2 M2 H3 := (oWire CW a dx t l2 M2).ext e3 W2
      refine ⟨_, fun _ _ h => h, a, dx, t, l2, k, dk, r, n, s, ps2, M2, N2, rfl, W3, g2.ext e3, ok2, kp2, ⟨by have := sz2.1; omega, by have := sz2.2.1; omega, by have := sz2.2.2; omega⟩, fun h => (by rw [ho] at h; cases h), fun _ i M3 N3 e4 hi _ l3 ps3 v4 H4 W4 g4 d4 m4 => ?_⟩
      obtain ⟨hi1, hi2, hi3⟩ := krun_round kp2 hm ho hi
      obtain ⟨z1, z2, z3, _⟩ := kround_sz hi
      exact ⟨m - i, by omega, M3, N3, l3, ps3, rfl, W4, g4, kround_ok ok2 kp2 ho hi, kround_kp kp2 ho hi, hi3, ⟨by have := sz2.1; omega, by have := sz2.2.1; omega, by have := sz2.2.2; omega⟩, by omega, (m2.trans (Step.of e3)).trans m4⟩
    have ob := g2.ob
    cases hs : N2.said with
    | some b =>
      rw [hs] at ob
      tm_at "r"
      obtain ⟨NN, h1, h2⟩ := run (over_some hs) H2 (Ext.refl _)
      refine w_iteT (by simp [tvo]) ?_
      tm_at "r"
      refine ⟨NN, h1, ?_⟩
      tm_at "r"
      refine w_meOk g2.ob (by kernel_rfl) ?_
      exact h2
    | none =>
      tm_at "r"
      refine w_iteF (by rw [hs]; rfl) ?_
      tm_at "r"
      intro z H3 hz e3 hz3
      have g3 := g2.ext e3
      refine w_neLs (ls := N2.rest) (ms := []) (SqL.of g3.rs) (SqL.of hz3) ?_
      tm_at "r"
      refine w_iteN (fun c => ?_) fun c => ?_
      · obtain ⟨NN, h1, h2⟩ := run (by simp [KM.over, hs, c]) H3 e3
        refine ⟨NN, h1, ?_⟩
        tm_at "r"
        refine w_meOk g3.ob (by kernel_rfl) ?_
        exact h2
      · have eN : M2 = M1 ∧ N2 = N1 := by
          cases hm with
          | more ho _ => simp [KM.over, hs, c] at ho
          | last ho => exact ⟨rfl, rfl⟩
        obtain ⟨eM, eN⟩ := eN
        rw [← eM, ← eN] at q
        tm_at "r"
        refine w_meOk g3.ob (by kernel_rfl) ?_
        refine ⟨a, k, dk, r, n, s, ps2, N2, rfl, g3, fun p H4 hp e4 hp4 => ?_⟩
        exact q l2 ps2 p H4 ((oWire CW a dx t l2 M2).ext (e3.trans e4) W2) (g3.ext e4) hp4 (m2.free (e3.free hp)) ((m2.trans (Step.of e3)).trans (Step.of e4))
end
end My
end

section
/-! the first round of a new walk tells the least of its kind -/
namespace Lw
open PySem L2
/-- x is the least of these -/
def Least (rs : List Bits) (x : Bits) : Prop := x ∈ rs ∧ ∀ y ∈ rs, y = x ∨ blt x y = true
/-! a desk -/
def dfl (a k : Addr) : List (Str × V) := [("bus", .ref a), ("tour", .ref k)]
structure ClD (K : PySem.W.Frag) (CD : Addr) : Prop where
  cl : Cls K CD
  n_bus : NoAttr K CD "bus"
  n_tour : NoAttr K CD "tour"
section
variable {K : PySem.W.Frag} {CD e de a k : Addr} {H : Hp} {Q : VK}
end
/-- new places are forgotten -/
theorem Step.forget {F G F' G' : List Addr} {H H3 H4 : Hp} (e : Ext H H3) (fr : ∀ b ∈ G, H b = none) (m : Step (F ++ G) (F' ++ G') H3 H4) : Step F F' H H4 where
  st := fun b o h n ns => m.st b o (e.st b o h ns) (fun q => by
    rcases List.mem_append.mp q with q | q
    · exact n q
    · rw [fr b q] at h
      cases h) ns
  rw_ := fun b x i y z h n hi => by
    obtain ⟨i', y', z', h1, h2⟩ := e.rw_ b x i y z h hi
    exact m.rw_ b x i' y' z' h1 (fun q => by
      rcases List.mem_append.mp q with q | q
      · exact n q
      · rw [fr b q] at h
        cases h) h2
  th := fun b o h => by
    obtain ⟨o1, h1⟩ := e.th b o h
    exact m.th b o1 h1
  nw := fun b h => by
    rcases m.nw b (List.mem_append_left _ h) with q | q
    · rcases List.mem_append.mp q with q | q
      · exact .inl q
      · exact .inr (fr b q)
    · exact .inr (e.free q)
/-! ### between two rounds only what hangs, the width and the count matter -/
def WM.bare (M : WM) : WM := { M with told := none, lis := [] }
theorem kstep_bare {M : WM} {N : KM} (h : N.said = none) : kstep M.bare N = kstep M N := by
  rw [kstep_none h, kstep_none h]
  rfl
theorem kround_bare {j : Nat} {M M2 : WM} {N N2 : KM} {z : Res} (h : N.said = none) : KRound j M.bare N M2 N2 z ↔ KRound j M N M2 N2 z := by
  have e := kstep_bare (M := M) h
  constructor
  · intro r
    cases r with
    | last q =>
      have := KRound.last (M := M) (N := N) (by rw [← e]; exact q)
      rwa [← e] at this
    | more q t => exact .more (by rw [← e]; exact q) (by rw [← e]; exact t)
  · intro r
    cases r with
    | last q =>
      have := KRound.last (M := M.bare) (N := N) (by rw [e]; exact q)
      rwa [e] at this
    | more q t => exact .more (by rw [e]; exact q) (by rw [e]; exact t)
theorem WOk.bare {M : WM} (h : WOk M) : WOk M.bare := ⟨h.w1, h.w2, h.nd, h.len, h.sz, List.Pairwise.nil, fun x hx => absurd hx (by simp [WM.bare]), Nat.zero_le _, fun b hb => (by cases hb), fun _ => rfl⟩
theorem ended_done {N : KM} {w : Nat} {b : Bits} (h : (N.ended w b).2 ≠ .none) : (N.ended w b).1.said = none := by
  unfold KM.ended at h ⊢
  by_cases c : b.length < w
  · rw [if_pos c] at h
    exact absurd rfl h
  · rw [if_neg c]
theorem kstep_done {M : WM} {N : KM} (h : (kstep M N).2.2 ≠ .none) : (kstep M N).2.1.said = none := by
  cases hs : N.said with
  | none =>
    rw [kstep_none hs] at h ⊢
    exact ended_done h
  | some b =>
    rw [kstep_some hs] at h ⊢
    unfold stepL at h ⊢
    simp only at h ⊢
    split
    · rfl
    · rename_i c
      rw [if_neg c] at h
      exact ended_done h
theorem kround_done {j : Nat} {M M2 : WM} {N N2 : KM} {z : Res} (t : KRound j M N M2 N2 z) : N2.said = none := by
  induction t with
  | last h => exact kstep_done h
  | more _ _ ih => exact ih
/-- a tour between two rounds -/
structure TInv (n : Nat) (ls : List Bits) (M : WM) (N : KM) : Prop where
  g : GInv n ls M.bare N
  s : N.said = none
theorem TInv.round {n j : Nat} {ls : List Bits} {M M2 : WM} {N N2 : KM} {z : Res} (h : TInv n ls M N) (ho : N.rest ≠ []) (t : KRound j M N M2 N2 z) : TInv n ls M2 N2 ∧ M2.things = M.things ∧ M2.width = M.width := by
  have hov : N.over = false := by simp [KM.over, h.s, ho]
  have g2 := (h.g.round hov ((kround_bare h.s).mpr t)).1
  obtain ⟨_, _, _, e1, e2, e3⟩ := kround_sz t
  refine ⟨⟨⟨g2.hw, g2.n12, g2.l40, g2.hl, g2.ok.bare, g2.ki, ⟨fun b hb => ?_, g2.kp.lr⟩, g2.kl, fun x hx => absurd hx (by simp [WM.bare])⟩, ?_⟩, e2, e1⟩
  · rw [kround_done t] at hb
    cases hb
  · exact kround_done t
theorem TInv.other {n : Nat} {ls : List Bits} {M M' : WM} {N : KM} (h : TInv n ls M N) (hw : M'.width = n) (ok : WOk M') (kl : ∀ x ∈ M'.keys, x ∈ ls) : TInv n ls M' N :=
  ⟨⟨hw, h.g.n12, h.g.l40, h.g.hl, ok.bare, h.g.ki, ⟨fun b hb => (by rw [h.s] at hb; cases hb), fun y hy => by
    have := h.g.kp.lr y hy
    have e : M.bare.width = n := h.g.hw
    rw [e] at this
    show y.length ≤ M'.width
    rw [hw]
    exact this⟩, kl, fun x hx => absurd hx (by simp [WM.bare])⟩, h.s⟩
theorem TInv.sz {n : Nat} {ls : List Bits} {M : WM} {N : KM} (h : TInv n ls M N) : N.rest.length ≤ 8900 ∧ N.names.length ≤ 8900 ∧ N.seen.length ≤ 8900 := h.g.sz 8900 (by decide)
theorem TInv.lr {n : Nat} {ls : List Bits} {M : WM} {N : KM} (h : TInv n ls M N) : ∀ g ∈ N.rest, g.length ≤ M.width := h.g.kp.lr
def oDesk (CD e de a k : Addr) : Own where
  S := fun H => H e = some (.ins CD de (dfl a k))
  F := [e]
  loc := fun h s => h e List.mem_cons_self _ s
  al := fun s b hb => by
    rw [List.mem_singleton.mp hb]
    exact ⟨_, s, own_ins⟩
theorem WOk.put {M : WM} {x : Bits} {m : Nat} (h : WOk M) (hx : x ∈ M.keys) : WOk { M with things := aput M.things x false, many := m } := by
  have := h.set (c := false) hx
  exact ⟨this.w1, this.w2, this.nd, this.len, this.sz, this.lnd, this.llen, this.lsz, this.tl, this.tn⟩
theorem nsh_ne4 {xs : List V} (h : xs.length ≠ 4) : ¬ RowSh (.lst xs) := nsh_of fun a i m z e => by
  have := congrArg (fun o => match o with | HO.lst xs => xs.length | _ => 0) e
  exact h this
theorem dpt_list {n : Nat} {ds : List PyData} (h : ∀ x ∈ ds, PyData.depth x ≤ n) : PyData.depth (.list ds) ≤ n + 1 := by
  simp only [PyData.depth]
  have := dep_all h
  omega
theorem dpt_dbs (ls : List Bits) : PyData.depth (.list (ls.map db)) ≤ 1 := dpt_list fun x hx => by
  obtain ⟨l, _, rfl⟩ := List.mem_map.mp hx
  simp [db, PyData.depth]
/-- what a law compares of a wire: what hangs, what rings, how many looks -/
theorem dq_three {K : PySem.W.Frag} {H : Hp} {z pa pb : Addr} {la lb : List Bits} {m : Int} (hz : H z = some (.lst [.ref pa, .ref pb, .int m])) (ha : H pa = some (.lst (bvs la))) (hb : H pb = some (.lst (bvs lb))) (h1 : la.length ≤ 100000) (h2 : lb.length ≤ 100000) :
    Dq K H (.ref z) (.list [.list (la.map db), .list (lb.map db), .int m]) := .lst (SqL.of hz) (nsh_ne4 (show (3 : Nat) ≠ 4 by decide)) (by show 3 ≤ 100000; decide) (.cons (dq_bits (SqL.of ha) h1) (.cons (dq_bits (SqL.of hb) h2) (.cons (.int _) .nil)))
theorem dpt_three (la lb : List Bits) (m : Int) : PyData.depth (.list [.list (la.map db), .list (lb.map db), .int m]) < 7 := Nat.lt_of_le_of_lt (dpt_list (n := 1) fun x hx => by
  simp only [List.mem_cons, List.not_mem_nil, or_false] at hx
  rcases hx with rfl | rfl | rfl
  · exact dpt_dbs _
  · exact dpt_dbs _
  · simp [PyData.depth]) (by decide)
end Lw
end

section
/-! walks find all that stay; how many rounds; what a still wire tells -/
namespace Lw
open PySem L2
/-- those that answer a round of a kind -/
def kindL (M : WM) (c : Bool) : List Bits := (M.things.filter fun p => c || p.2).map (·.1)
/-- looked at, or found -/
def KM.Done (w : Nat) (N : KM) (c : Bits) : Prop := (c.length < w → c ∈ N.seen.map (·.1)) ∧ (¬ c.length < w → c ∈ N.names)
def BegS (S : Bits → Prop) (c : Bits) : Prop := c = [] ∨ ∃ x, S x ∧ c <+: x
structure KW (w : Nat) (S : Bits → Prop) (M : WM) (N : KM) : Prop where
  a : ∀ c, BegS S c → N.Done w c ∨ ∃ g ∈ N.pend, g <+: c
  l : ∀ b, N.said = some b → ∀ x, S x → b <+: x → x ∈ M.lis
section
variable {w : Nat} {S U : Bits → Prop} {M : WM} {N : KM}
theorem begS_len (hS : ∀ x, S x → x.length = w) {c : Bits} (h : BegS S c) : c.length ≤ w := by
  rcases h with rfl | ⟨x, hx, hp⟩
  · exact Nat.zero_le _
  · rw [← hS x hx]
    exact hp.length_le
theorem ended_done_ {b : Bits} (hS : ∀ x, S x → x.length = w) (h : ∀ c, BegS S c → N.Done w c ∨ ∃ g ∈ N.rest ++ [b], g <+: c) : ∀ c, BegS S c → (N.ended w b).1.Done w c ∨ ∃ g ∈ (N.ended w b).1.pend, g <+: c := by
  intro c hc
  unfold KM.ended
  by_cases hb : b.length < w
  · rw [if_pos hb]
    rcases h c hc with h | ⟨g, hg, hp⟩
    · exact .inl h
    · exact .inr ⟨g, by rw [pend_said rfl]; exact hg, hp⟩
  · rw [if_neg hb]
    rcases h c hc with h | ⟨g, hg, hp⟩
    · exact .inl ⟨h.1, fun q => List.mem_append_left _ (h.2 q)⟩
    · rcases List.mem_append.mp hg with hg | hg
      · exact .inr ⟨g, by rw [pend_none rfl]; exact hg, hp⟩
      · rw [List.mem_singleton.mp hg] at hp
        have h1 := begS_len hS hc
        have h2 := hp.length_le
        have e : b = c := List.IsPrefix.eq_of_length hp (by omega)
        exact .inl ⟨fun q => by omega, fun _ => by rw [← e]; simp⟩
theorem KW.stepB (h : KW w S M N) (hw : M.width = w) (hs : N.said = none) (hr : N.rest ≠ []) (hl : ∀ x, S x → x.length = w) (hS : ∀ x, S x → x ∈ kindL M N.kind) : KW w S (stepB M N (N.rest.getLastD [])).1 (stepB M N (N.rest.getLastD [])).2.1 := by
  have er : N.rest = N.rest.dropLast ++ [N.rest.getLastD []] := by
    have e := (List.dropLast_concat_getLast hr).symm
    have e2 : N.rest.getLastD [] = N.rest.getLast hr := by rw [List.getLastD_eq_getLast?, List.getLast?_eq_some_getLast hr]; rfl
    rw [e2]
    exact e
  unfold Lw.stepB
  refine ⟨?_, fun b hb x hx hp => ?_⟩
  · rw [hw]
    refine ended_done_ (N := { N with rest := N.rest.dropLast }) hl fun c hc => ?_
    rcases h.a c hc with h | ⟨g, hg, hp⟩
    · exact .inl h
    · exact .inr ⟨g, by rw [pend_none hs, er] at hg; exact hg, hp⟩
  · obtain ⟨rfl, _, _⟩ := ended_said b hb
    exact List.mem_filter.mpr ⟨hS x hx, decide_eq_true hp⟩
theorem KW.stepL {b : Bits} (h : KW w S M N) (hw : M.width = w) (hs : N.said = some b) (hbl : b.length < w) (hl : ∀ x, S x → x.length = w) : KW w S (stepL M N b).1 (stepL M N b).2.1 := by
  have nx : ∀ c, BegS S c → b <+: c → c = b ∨ ∃ t, b ++ [t] <+: c ∧ lookZ M.lis b t = true := by
    intro c hc hp
    obtain ⟨s, rfl⟩ := hp
    cases s with
    | nil => exact .inl (List.append_nil b)
    | cons t s =>
      have hq : b ++ [t] <+: b ++ t :: s := ⟨s, by simp⟩
      rcases hc with hc | ⟨x, hx, hp⟩
      · simp at hc
      · exact .inr ⟨t, hq, lookZ_ex.mpr ⟨x, h.l b hs x hx ((List.prefix_append b _).trans hp), hq.trans hp⟩⟩
  have dn : ∀ c, N.Done w c → ({ N with seen := N.seen ++ [(b, lookZ M.lis b false, lookZ M.lis b true)] } : KM).Done w c := fun c q => ⟨fun z => by rw [List.map_append]; exact List.mem_append_left _ (q.1 z), q.2⟩
  have db : ({ N with seen := N.seen ++ [(b, lookZ M.lis b false, lookZ M.lis b true)] } : KM).Done w b := ⟨fun _ => by simp, fun z => absurd hbl z⟩
  unfold Lw.stepL
  simp only
  by_cases hzo : (!lookZ M.lis b false && !lookZ M.lis b true) = true
  · rw [if_pos hzo]
    refine ⟨fun c hc => ?_, fun d hd => (by cases hd)⟩
    rw [pend_none rfl]
    rcases h.a c hc with q | ⟨g, hg, hp⟩
    · exact .inl (dn c q)
    · rw [pend_said hs] at hg
      rcases List.mem_append.mp hg with hg | hg
      · exact .inr ⟨g, hg, hp⟩
      · rw [List.mem_singleton.mp hg] at hp
        rcases nx c hc hp with rfl | ⟨t, _, ht⟩
        · exact .inl db
        · rw [Bool.and_eq_true] at hzo
          cases t
          · rw [ht] at hzo
            exact absurd hzo.1 (by decide)
          · rw [ht] at hzo
            exact absurd hzo.2 (by decide)
  · rw [if_neg hzo]
    simp only
    refine ⟨?_, fun d hd x hx hp => ?_⟩
    · rw [hw]
      refine ended_done_ hl fun c hc => ?_
      have key : ∀ t, lookZ M.lis b t = true → t = (!lookZ M.lis b false) ∨ (t = true ∧ (lookZ M.lis b false && lookZ M.lis b true) = true) := by
        intro t ht
        cases t with
        | false => rw [ht]; exact .inl rfl
        | true =>
          rw [ht]
          cases lookZ M.lis b false
          · exact .inl rfl
          · exact .inr ⟨rfl, rfl⟩
      by_cases hb2 : (lookZ M.lis b false && lookZ M.lis b true) = true
      · rw [if_pos hb2]
        rcases h.a c hc with q | ⟨g, hg, hp⟩
        · exact .inl (dn c q)
        · rw [pend_said hs] at hg
          rcases List.mem_append.mp hg with hg | hg
          · exact .inr ⟨g, by simp [hg], hp⟩
          · rw [List.mem_singleton.mp hg] at hp
            rcases nx c hc hp with rfl | ⟨t, hq, ht⟩
            · exact .inl db
            · rcases key t ht with rfl | ⟨rfl, _⟩
              · exact .inr ⟨_, by simp, hq⟩
              · exact .inr ⟨_, by simp, hq⟩
      · rw [if_neg hb2]
        rcases h.a c hc with q | ⟨g, hg, hp⟩
        · exact .inl (dn c q)
        · rw [pend_said hs] at hg
          rcases List.mem_append.mp hg with hg | hg
          · exact .inr ⟨g, by simp [hg], hp⟩
          · rw [List.mem_singleton.mp hg] at hp
            rcases nx c hc hp with rfl | ⟨t, hq, ht⟩
            · exact .inl db
            · rcases key t ht with rfl | ⟨rfl, q⟩
              · exact .inr ⟨_, by simp, hq⟩
              · exact absurd q hb2
    · obtain ⟨rfl, _, _⟩ := ended_said d hd
      exact List.mem_filter.mpr ⟨h.l b hs x hx (snoc_pre hp), decide_eq_true hp⟩
theorem KW.kstep (h : KW w S M N) (hp : KP M N) (hw : M.width = w) (ho : N.over = false) (hl : ∀ x, S x → x.length = w) (hS : ∀ x, S x → x ∈ kindL M N.kind) : KW w S (kstep M N).1 (kstep M N).2.1 := by
  cases hs : N.said with
  | none =>
    have hr : N.rest ≠ [] := fun e => by simp [KM.over, hs, e] at ho
    rw [kstep_none hs]
    exact h.stepB hw hs hr hl hS
  | some b =>
    rw [kstep_some hs]
    exact h.stepL hw hs (by rw [← hw]; exact (hp.ls b hs).1) hl
theorem kindL_step (c : Bool) : kindL (Lw.kstep M N).1 c = kindL M c := by unfold kindL; rw [(kstep_width M N).2]
theorem KW.round {j : Nat} {M1 : WM} {N1 : KM} {r : Res} (h : KW w S M N) (hp : KP M N) (hw : M.width = w) (ho : N.over = false) (hl : ∀ x, S x → x.length = w) (hS : ∀ x, S x → x ∈ kindL M N.kind) (t : KRound j M N M1 N1 r) : KW w S M1 N1 := by
  induction t with
  | last h2 => exact h.kstep hp hw ho hl hS
  | more h2 t ih =>
    refine ih (h.kstep hp hw ho hl hS) (hp.step ho) ((kstep_width _ _).1.trans hw) (kstep_gap hp h2).2 fun x hx => ?_
    rw [kindL_step, kstep_kind]
    exact hS x hx
theorem KW.run {j : Nat} {M1 : WM} {N1 : KM} (h : KW w S M N) (hp : KP M N) (hw : M.width = w) (hl : ∀ x, S x → x.length = w) (hS : ∀ x, S x → x ∈ kindL M N.kind) (t : KRun j M N M1 N1) : KW w S M1 N1 := by
  induction t with
  | last _ => exact h
  | more h2 t ih =>
    refine ih (h.kstep hp hw h2 hl hS) (hp.step h2) ((kstep_width _ _).1.trans hw) fun x hx => ?_
    rw [kindL_step, kstep_kind]
    exact hS x hx
theorem KW.new {c : Bool} : KW w S M ⟨c, [[]], none, [], []⟩ := ⟨fun d _ => .inr ⟨[], by simp [KM.pend], List.nil_prefix⟩, fun b hb => (by cases hb)⟩
/-- fewer that stay, others that hang -/
theorem KW.sub {S' : Bits → Prop} {M' : WM} (h : KW w S M N) (hs : ∀ x, S' x → S x) (hl : ∀ x, S' x → x ∈ M.lis → x ∈ M'.lis) : KW w S' M' N := ⟨fun c hc => h.a c (by
  rcases hc with rfl | ⟨x, hx, hp⟩
  · exact .inl rfl
  · exact .inr ⟨x, hs x hx, hp⟩), fun b hb x hx hp => hl x hx (h.l b hb x (hs x hx) hp)⟩
theorem over_pend (ho : N.over = true) : N.pend = [] := by
  unfold KM.over at ho
  rw [Bool.and_eq_true, decide_eq_true_iff, decide_eq_true_iff] at ho
  rw [pend_none ho.1, ho.2]
theorem KW.all (h : KW w S M N) (ho : N.over = true) (hl : ∀ x, S x → x.length = w) : ∀ x, S x → x ∈ N.names := fun x hx => by
  rcases h.a x (.inr ⟨x, hx, List.prefix_refl _⟩) with q | ⟨g, hg, _⟩
  · exact q.2 (by rw [hl x hx]; exact Nat.lt_irrefl _)
  · rw [over_pend ho] at hg
    cases hg
theorem KW.looked (h : KW w S M N) (ho : N.over = true) {c : Bits} (hc : BegS S c) (hw : c.length < w) : c ∈ N.seen.map (·.1) := by
  rcases h.a c hc with q | ⟨g, hg, _⟩
  · exact q.1 hw
  · rw [over_pend ho] at hg
    cases hg
end
/-! ### how many looks, what is found -/
section
variable {M : WM} {N : KM}
theorem kstep_many : (kstep M N).1.many + N.seen.length = M.many + (kstep M N).2.1.seen.length := by
  cases hs : N.said with
  | none =>
    rw [kstep_none hs]
    unfold stepB
    rw [ended_rest.2.1]
    rfl
  | some b =>
    rw [kstep_some hs]
    unfold stepL
    simp only
    split
    · simp [WM.look]
      omega
    · simp only
      rw [ended_rest.2.1]
      split <;> simp [WM.say, WM.look] <;> omega
theorem kround_many {j : Nat} {M1 : WM} {N1 : KM} {r : Res} (t : KRound j M N M1 N1 r) : M1.many + N.seen.length = M.many + N1.seen.length := by
  induction t with
  | last _ => exact kstep_many
  | more _ _ ih =>
    have := kstep_many (M := ‹WM›) (N := ‹KM›)
    rename_i n M M' N N' r h t
    have := kstep_many (M := M) (N := N)
    omega
theorem krun_many {j : Nat} {M1 : WM} {N1 : KM} (t : KRun j M N M1 N1) : M1.many + N.seen.length = M.many + N1.seen.length := by
  induction t with
  | last _ => rfl
  | more _ _ ih =>
    rename_i n M M' N N' h t
    have := kstep_many (M := M) (N := N)
    omega
def resN : Res → List Bits
  | .found x => [x]
  | _ => []
theorem ended_res {N : KM} {w : Nat} {b : Bits} : (N.ended w b).1.names = N.names ++ resN (N.ended w b).2 := by
  unfold KM.ended
  by_cases h : b.length < w
  · rw [if_pos h]
    simp [resN]
  · rw [if_neg h]
    rfl
theorem kstep_names : (kstep M N).2.1.names = N.names ++ resN (kstep M N).2.2 := by
  cases hs : N.said with
  | none =>
    rw [kstep_none hs]
    unfold stepB
    exact ended_res
  | some b =>
    rw [kstep_some hs]
    unfold stepL
    simp only
    split
    · simp [resN]
    · simp only
      rw [ended_res]
      split <;> rfl
theorem kround_names {j : Nat} {M1 : WM} {N1 : KM} {r : Res} (t : KRound j M N M1 N1 r) : N1.names = N.names ++ resN r := by
  induction t with
  | last _ => exact kstep_names
  | more h _ ih =>
    rename_i n M M' N N' r t
    rw [ih, kstep_names, h]
    simp [resN]
end
/-! ### how many rounds -/
/-- where the rounds came to an end -/
structure KD (U : Bits → Prop) (D : List Bits) (N : KM) : Prop where
  d : D.Pairwise Lft
  p : ∀ x ∈ D, ∀ g ∈ N.pend, Lft x g
  u : ∀ x ∈ D, U x
theorem ended_pend {N : KM} {w : Nat} {b g : Bits} (h : g ∈ (N.ended w b).1.pend) : g ∈ N.rest ∨ g = b := by
  unfold KM.ended at h
  by_cases c : b.length < w
  · rw [if_pos c, pend_said rfl] at h
    rcases List.mem_append.mp h with h | h
    · exact .inl h
    · exact .inr (List.mem_singleton.mp h)
  · rw [if_neg c, pend_none rfl] at h
    exact .inl h
theorem ended_found {N : KM} {w : Nat} {b x : Bits} (h : (N.ended w b).2 = .found x) : b = x := by
  unfold KM.ended at h
  by_cases c : b.length < w
  · rw [if_pos c] at h
    cases h
  · rw [if_neg c] at h
    injection h
theorem ended_lost {N : KM} {w : Nat} {b : Bits} (h : (N.ended w b).2 = .lost) : False := by
  unfold KM.ended at h
  by_cases c : b.length < w
  · rw [if_pos c] at h
    cases h
  · rw [if_neg c] at h
    cases h
section
variable {w : Nat} {U : Bits → Prop} {M : WM} {N : KM} {D : List Bits}
/-- what is pending behind a step lies within what was -/
theorem kstep_pend (ho : N.over = false) {g : Bits} (h : g ∈ (kstep M N).2.1.pend) : ∃ b ∈ N.pend, b <+: g := by
  cases hs : N.said with
  | none =>
    have hr : N.rest ≠ [] := fun e => by simp [KM.over, hs, e] at ho
    rw [kstep_none hs] at h
    unfold stepB at h
    rw [pend_none hs]
    rcases ended_pend h with h | h
    · exact ⟨g, (List.dropLast_sublist _).subset h, List.prefix_refl _⟩
    · exact ⟨g, by rw [h]; exact getLastD_mem hr, List.prefix_refl _⟩
  | some b =>
    rw [kstep_some hs] at h
    rw [pend_said hs]
    unfold stepL at h
    simp only at h
    split at h
    · rw [pend_none rfl] at h
      exact ⟨g, List.mem_append_left _ h, List.prefix_refl _⟩
    · rcases ended_pend h with h | h
      · split at h
        · rcases List.mem_append.mp h with h | h
          · exact ⟨g, List.mem_append_left _ h, List.prefix_refl _⟩
          · exact ⟨b, by simp, by rw [List.mem_singleton.mp h]; exact List.prefix_append _ _⟩
        · exact ⟨g, List.mem_append_left _ h, List.prefix_refl _⟩
      · exact ⟨b, by simp, by rw [h]; exact List.prefix_append _ _⟩
theorem kstep_found (ho : N.over = false) {x : Bits} (h : (kstep M N).2.2 = .found x) : ∃ b ∈ N.pend, b <+: x := by
  cases hs : N.said with
  | none =>
    have hr : N.rest ≠ [] := fun e => by simp [KM.over, hs, e] at ho
    rw [kstep_none hs] at h
    unfold stepB at h
    rw [pend_none hs]
    exact ⟨_, getLastD_mem hr, by rw [ended_found h]; exact List.prefix_refl _⟩
  | some b =>
    rw [kstep_some hs] at h
    rw [pend_said hs]
    unfold stepL at h
    simp only at h
    split at h
    · cases h
    · exact ⟨b, by simp, by rw [← ended_found h]; exact List.prefix_append _ _⟩
theorem kstep_lost (ho : N.over = false) (h : (kstep M N).2.2 = .lost) : ∃ b, N.said = some b ∧ (kstep M N).2.1.pend = N.rest := by
  cases hs : N.said with
  | none =>
    rw [kstep_none hs] at h
    unfold stepB at h
    exact (ended_lost h).elim
  | some b =>
    rw [kstep_some hs] at h ⊢
    unfold stepL at h ⊢
    simp only at h ⊢
    split at h
    · rename_i c
      rw [if_pos c]
      exact ⟨b, rfl, pend_none rfl⟩
    · exact (ended_lost h).elim
theorem KD.kstep (h : KD U D N) (ho : N.over = false) (ki : KI w U N) (ki2 : KI w U (kstep M N).2.1) : ∃ D', KD U D' (Lw.kstep M N).2.1 ∧ D'.length = D.length + (if (Lw.kstep M N).2.2 = .none then 0 else 1) := by
  have hp : ∀ x ∈ D, ∀ g ∈ (Lw.kstep M N).2.1.pend, Lft x g := fun x hx g hg => by
    obtain ⟨b, hb, hp⟩ := kstep_pend ho hg
    exact (h.p x hx b hb).pre hp
  cases hr : (Lw.kstep M N).2.2 with
  | none => exact ⟨D, ⟨h.d, hp, h.u⟩, by simp⟩
  | found x =>
    have hx : x ∈ (Lw.kstep M N).2.1.names := by
      rw [kstep_names, hr]
      simp [resN]
    refine ⟨D ++ [x], ⟨List.pairwise_append.mpr ⟨h.d, by simp, fun y hy z hz => ?_⟩, fun y hy g hg => ?_, fun y hy => ?_⟩, by simp⟩
    · rw [List.mem_singleton.mp hz]
      obtain ⟨b, hb, hp⟩ := kstep_found ho hr
      exact (h.p y hy b hb).pre hp
    · rcases List.mem_append.mp hy with hy | hy
      · exact hp y hy g hg
      · rw [List.mem_singleton.mp hy]
        exact ki2.nn x hx g hg
    · rcases List.mem_append.mp hy with hy | hy
      · exact h.u y hy
      · rw [List.mem_singleton.mp hy]
        exact (ki2.pn x hx).2
  | lost =>
    obtain ⟨b, hb, hpd⟩ := kstep_lost ho hr
    have ord := ki.ord
    rw [pend_said hb] at ord
    refine ⟨D ++ [b], ⟨List.pairwise_append.mpr ⟨h.d, by simp, fun y hy z hz => ?_⟩, fun y hy g hg => ?_, fun y hy => ?_⟩, by simp⟩
    · rw [List.mem_singleton.mp hz]
      exact h.p y hy b (by rw [pend_said hb]; simp)
    · rcases List.mem_append.mp hy with hy | hy
      · exact hp y hy g hg
      · rw [List.mem_singleton.mp hy]
        rw [hpd] at hg
        exact (List.pairwise_append.mp ord).2.2 g hg b (by simp)
    · rcases List.mem_append.mp hy with hy | hy
      · exact h.u y hy
      · rw [List.mem_singleton.mp hy]
        exact (ki.ps b hb).2
theorem KD.new {c : Bool} : KD U [] ⟨c, [[]], none, [], []⟩ := ⟨List.Pairwise.nil, fun x hx => absurd hx (by simp), fun x hx => absurd hx (by simp)⟩
end
def Apt (a b : Bits) : Prop := Lft a b ∨ Lft b a
theorem cones_le : ∀ (L ls : List Bits), L.Pairwise Apt → (∀ b ∈ L, ∃ x ∈ ls, b <+: x) → L.length ≤ ls.length
  | [], _, _, _ => Nat.zero_le _
  | a :: L, ls, h, hs => by
    obtain ⟨h1, h2⟩ := List.pairwise_cons.mp h
    obtain ⟨x, hx, hp⟩ := hs a List.mem_cons_self
    have := cones_le L (ls.erase x) h2 fun b hb => by
      obtain ⟨y, hy, hq⟩ := hs b (List.mem_cons_of_mem _ hb)
      refine ⟨y, (List.mem_erase_of_ne fun e => ?_).mpr hy, hq⟩
      subst e
      rcases List.prefix_or_prefix_of_prefix hp hq with q | q
      · rcases h1 b hb with z | z
        · exact z.np q
        · exact z.np2 q
      · rcases h1 b hb with z | z
        · exact z.np2 q
        · exact z.np q
    have e := List.length_erase_of_mem hx
    have hp : 0 < ls.length := List.length_pos_of_mem hx
    rw [List.length_cons]
    omega
theorem lft_nil {b : Bits} : ¬ Apt [] b := by
  rintro (h | h)
  · exact h.np List.nil_prefix
  · exact h.np2 List.nil_prefix
theorem apt_symm {a b : Bits} (h : Apt a b) : Apt b a := h.symm
theorem no_nil {L : List Bits} (h : L.Pairwise Apt) (h2 : 2 ≤ L.length) : ([] : Bits) ∉ L := by
  intro hm
  match L, h, h2, hm with
  | a :: b :: t, h, _, hm =>
    rcases List.mem_cons.mp hm with e | hm
    · rw [← e] at h
      exact lft_nil ((List.pairwise_cons.mp h).1 b List.mem_cons_self)
    · exact lft_nil (apt_symm ((List.pairwise_cons.mp h).1 [] hm))
theorem KD.le {w : Nat} {U : Bits → Prop} {N : KM} {D ls : List Bits} (h : KD U D N) (ki : KI w U N) (hU : ∀ b, U b → Beg ls b) : D.length + N.pend.length ≤ max 1 ls.length := by
  have hL : (D ++ N.pend).Pairwise Apt := List.pairwise_append.mpr ⟨h.d.imp fun z => .inl z, ki.ord.imp fun z => .inr z, fun a ha b hb => .inl (h.p a ha b hb)⟩
  have hB : ∀ b ∈ D ++ N.pend, Beg ls b := fun b hb => by
    rcases List.mem_append.mp hb with hb | hb
    · exact hU b (h.u b hb)
    · unfold KM.pend at hb
      rcases List.mem_append.mp hb with hb | hb
      · exact hU b (ki.pr b hb).2
      · cases hs : N.said with
        | none => rw [hs] at hb; cases hb
        | some c =>
          rw [hs] at hb
          rw [show b = c by simpa using hb]
          exact hU c (ki.ps c hs).2
  by_cases h2 : 2 ≤ (D ++ N.pend).length
  · have nn := no_nil hL h2
    have := cones_le (D ++ N.pend) ls hL fun b hb => by
      rcases hB b hb with rfl | z
      · exact absurd hb nn
      · exact z
    rw [List.length_append] at this
    omega
  · rw [List.length_append] at h2
    omega
theorem KI.mono {w : Nat} {U U' : Bits → Prop} {N : KM} (h : KI w U N) (hu : ∀ b, U b → U' b) : KI w U' N := ⟨fun g hg => ⟨(h.pr g hg).1, hu _ (h.pr g hg).2⟩, fun b hb => ⟨(h.ps b hb).1, hu _ (h.ps b hb).2⟩, fun e he => ⟨(h.pe e he).1, hu _ (h.pe e he).2⟩, fun x hx => ⟨(h.pn x hx).1, hu _ (h.pn x hx).2⟩, h.ord, h.sn, h.sd, h.nn, h.nr, h.rs⟩
theorem KD.mono {U U' : Bits → Prop} {D : List Bits} {N : KM} (h : KD U D N) (hu : ∀ b, U b → U' b) : KD U' D N := ⟨h.d, h.p, fun x hx => hu x (h.u x hx)⟩
theorem KW.between {w : Nat} {S S' : Bits → Prop} {M M' : WM} {N : KM} (h : KW w S M N) (hs : N.said = none) (hu : ∀ x, S' x → S x) : KW w S' M' N := ⟨fun c hc => h.a c (by
  rcases hc with rfl | ⟨x, hx, hp⟩
  · exact .inl rfl
  · exact .inr ⟨x, hu x hx, hp⟩), fun b hb => by rw [hs] at hb; cases hb⟩
theorem kind_keys {M : WM} {c : Bool} {x : Bits} (h : x ∈ kindL M c) : x ∈ M.keys := (begin_sub M c).subset h
/-- a list is told anew elsewhere -/
theorem Sts.newList {H H' : Hp} {l1 l2 : List Own} {p q : Addr} {ls ms : List Bits} (s : Sts H (l1 ++ oList p ls :: l2)) (e : Ext H H') (hq : H q = none) (h : H' q = some (.lst (bvs ms))) : Sts H' (l1 ++ oList q ms :: l2) :=
  Sts.step (W' := oList q ms) s h ((Step.of e).to fun b hb => .inr (by rw [List.mem_singleton.mp hb]; exact hq))
theorem w_eqDb {K : PySem.W.Frag} {H : Hp} {Q : VK} {x y : V} {d e : PyData} {b : Bool} (h1 : Dp K H x d) (h2 : Dp K H y e) (s1 : SeqAt.shaped d = true) (s2 : SeqAt.shaped e = true) (hb : PyData.eqv d e = b) (k : Q (.bl b) H) : rEqD K x y H Q := by
  subst hb
  exact w_eqD h1 h2 s1 s2 k
theorem w_neDb {K : PySem.W.Frag} {H : Hp} {Q : VK} {x y : V} {d e : PyData} {b : Bool} (h1 : Dp K H x d) (h2 : Dp K H y e) (s1 : SeqAt.shaped d = true) (s2 : SeqAt.shaped e = true) (hb : PyData.eqv d e = b) (k : Q (.bl (!b)) H) : rNeD K x y H Q := by
  subst hb
  exact w_neD h1 h2 s1 s2 k
end Lw
end

section
/-! what a walk tells of a wire on which nothing changes -/
namespace Lw
open PySem L2
theorem krun_bare {j : Nat} {M M2 : WM} {N N2 : KM} (h : N.said = none) (ho : N.over = false) (t : KRun j M.bare N M2 N2) : KRun j M N M2 N2 := by
  have e := kstep_bare (M := M) h
  cases t with
  | last q => rw [q] at ho; cases ho
  | more q t => exact .more q (by rw [← e]; exact t)
/-- a walk of a kind on a still wire; L: those that answer -/
structure KS (L : List Bits) (c : Bool) (M : WM) (N : KM) : Prop where
  ki : KI M.width (Beg L) N
  kp : KP M N
  kd : N.kind = c
  kl : kindL M c = L
  ll : N.said ≠ none → ∀ x ∈ M.lis, x ∈ L
  ok : WOk M
  kw : KW M.width (· ∈ L) M N
section
variable {L : List Bits} {c : Bool} {M : WM} {N : KM}
theorem KS.len (h : KS L c M N) : ∀ x ∈ L, x.length = M.width := fun x hx => by
  rw [← h.kl] at hx
  exact h.ok.len x (kind_keys hx)
theorem KS.kstep (h : KS L c M N) (ho : N.over = false) : KS L c (kstep M N).1 (kstep M N).2.1 where
  ki := by
    rw [(kstep_width M N).1]
    cases hs : N.said with
    | none =>
      have hr : N.rest ≠ [] := fun e => by simp [KM.over, hs, e] at ho
      rw [kstep_none hs]
      exact h.ki.stepB rfl hs hr
    | some b =>
      rw [kstep_some hs]
      refine h.ki.stepL rfl hs fun t ht => ?_
      obtain ⟨l, hl, hp⟩ := lookZ_ex.mp ht
      exact .inr ⟨l, h.ll (by rw [hs]; exact fun q => nomatch q) l hl, hp⟩
  kp := h.kp.step ho
  kd := (kstep_kind M N).trans h.kd
  kl := by rw [kindL_step]; exact h.kl
  ll := fun hn x hx => by
    cases hs : N.said with
    | none =>
      rw [kstep_none hs] at hx
      have := (List.mem_filter.mp hx).1
      rw [← h.kl, ← h.kd]
      exact this
    | some b =>
      rw [kstep_some hs] at hx
      unfold stepL at hx
      simp only at hx
      have q := h.ll (by rw [hs]; exact fun q => nomatch q)
      split at hx
      · exact q x hx
      · exact q x (List.mem_filter.mp hx).1
  ok := kstep_ok h.ok h.kp ho
  kw := by
    rw [(kstep_width M N).1]
    exact h.kw.kstep h.kp rfl ho h.len fun x hx => by rw [h.kd, h.kl]; exact hx
theorem KS.round {j : Nat} {M1 : WM} {N1 : KM} {r : Res} (h : KS L c M N) (ho : N.over = false) (t : KRound j M N M1 N1 r) : KS L c M1 N1 := by
  induction t with
  | last h2 => exact h.kstep ho
  | more h2 t ih => exact ih (h.kstep ho) (kstep_gap h.kp h2).2
theorem KS.run {j : Nat} {M1 : WM} {N1 : KM} (h : KS L c M N) (t : KRun j M N M1 N1) : KS L c M1 N1 := by
  induction t with
  | last _ => exact h
  | more h2 t ih => exact ih (h.kstep h2)
theorem KS.new (ok : WOk M) : KS (kindL M c) c M ⟨c, [[]], none, [], []⟩ where
  ki := ⟨fun g hg => by rw [List.mem_singleton.mp hg]; exact ⟨Nat.zero_le _, .inl rfl⟩, fun b hb => (by cases hb), fun e he => absurd he (by simp), fun x hx => absurd hx (by simp), by simp [KM.pend], fun e he => absurd he (by simp), by simp, fun x hx => absurd hx (by simp), List.Pairwise.nil, by simp⟩
  kp := ⟨fun b hb => (by cases hb), fun g hg => by rw [List.mem_singleton.mp hg]; exact Nat.zero_le _⟩
  kd := rfl
  kl := rfl
  ll := fun h => absurd rfl h
  ok := ok
  kw := KW.new
/-- where it has nowhere to go -/
structure Still (L : List Bits) (M M1 : WM) (N1 : KM) : Prop where
  nr : Rise N1.names
  nm : ∀ x, x ∈ N1.names ↔ x ∈ L
  th : M1.things = M.things
  wd : M1.width = M.width
  mn : M1.many = M.many + N1.seen.length
  sd : (N1.seen.map (·.1)).Nodup
  sm : ∀ b, b ∈ N1.seen.map (·.1) ↔ Beg L b ∧ b.length < M.width
  ok : WOk M1
  ov : N1.over = true
  sz : N1.names.length ≤ 41 ∧ N1.seen.length ≤ 441
theorem KS.names (h : KS L c M N) : ∀ x ∈ N.names, x ∈ L := fun x hx => by
  obtain ⟨h1, h2⟩ := h.ki.pn x hx
  rcases h2 with rfl | ⟨y, hy, hp⟩
  · have := h.ok.w1
    have h1 : 0 = M.width := h1
    omega
  · have e := List.IsPrefix.eq_of_length hp (by rw [h1, h.len y hy])
    rw [e]
    exact hy
theorem KS.still {j : Nat} {M1 : WM} {N1 : KM} (h : KS L c M1 N1) (ho : N1.over = true) (hz : L.length ≤ 40) (th : M1.things = M.things) (wd : M1.width = M.width) (mn : M1.many = M.many + N1.seen.length) : Still L M M1 N1 := by
  have nm : ∀ x, x ∈ N1.names ↔ x ∈ L := fun x => ⟨h.names x, h.kw.all ho h.len x⟩
  have sm : ∀ b, b ∈ N1.seen.map (·.1) ↔ Beg L b ∧ b.length < M.width := fun b => by
    constructor
    · intro hb
      obtain ⟨e, he, rfl⟩ := List.mem_map.mp hb
      obtain ⟨a1, a2⟩ := h.ki.pe e he
      exact ⟨a2, by rw [← wd]; exact a1⟩
    · rintro ⟨a1, a2⟩
      exact h.kw.looked ho a1 (by rw [wd]; exact a2)
  refine ⟨h.ki.nr, nm, th, wd, mn, h.ki.sd, sm, h.ok, ho, ?_, ?_⟩
  · exact Nat.le_trans (nodup_le _ L (rise_nodup h.ki.nr) fun x hx => (nm x).mp hx) (by omega)
  · have h1 := nodup_le (N1.seen.map (·.1)) (begs M.width L) h.ki.sd fun b hb => by
      obtain ⟨a1, a2⟩ := (sm b).mp hb
      exact beg_mem a1 a2
    rw [List.length_map, begs_len] at h1
    have h2 : L.length * (M.width - 1) ≤ 40 * 11 := Nat.mul_le_mul hz (by have := h.ok.w2; omega)
    omega
theorem still_run (ok : WOk M) (hz : M.things.length ≤ 40) (c : Bool) : ∃ j M1 N1, KRun j M ⟨c, [[]], none, [], []⟩ M1 N1 ∧ j ≤ 883 ∧ Still (kindL M c) M M1 N1 := by
  have hk : M.keys.length ≤ 40 := by
    unfold WM.keys
    rw [List.length_map]
    exact hz
  have g : GInv M.width M.keys M.bare ⟨c, [[]], none, [], []⟩ := GInv.new c rfl ok.w2 hk ok.len ok.bare (fun x hx => hx) (fun x hx => absurd hx (by simp [WM.bare]))
  obtain ⟨j, M1, N1, hr, hj, _⟩ := g.run
  have hr := krun_bare rfl (by rfl) hr
  have hm := krun_many hr
  obtain ⟨_, _, _, e1, e2, e3⟩ := krun_sz hr
  have hL : (kindL M c).length ≤ 40 := by
    unfold kindL
    rw [List.length_map]
    exact Nat.le_trans (List.length_filter_le _ _) hz
  refine ⟨j, M1, N1, hr, ?_, ((KS.new (c := c) ok).run hr).still (j := j) e3 hL e2 e1 (by simpa using hm)⟩
  have : (⟨c, [[]], none, [], []⟩ : KM).mu = 883 := rfl
  omega
end
/-- the beginnings met: as many as were looked at -/
theorem Still.met {L : List Bits} {M M1 : WM} {N1 : KM} (h : Still L M M1 N1) {us : List Bits} (hu : Rise us) (hm : ∀ b, b ∈ us ↔ Beg L b ∧ b.length < M.width) : us.length = N1.seen.length := by
  have h1 := nodup_le us (N1.seen.map (·.1)) (rise_nodup hu) fun b hb => (h.sm b).mpr ((hm b).mp hb)
  have h2 := nodup_le (N1.seen.map (·.1)) us h.sd fun b hb => (hm b).mpr ((h.sm b).mp hb)
  rw [List.length_map] at h1 h2
  omega
theorem Still.sorted {L ms : List Bits} {M M1 : WM} {N1 : KM} (h : Still L M M1 N1) (hr : Rise ms) (hp : ms.Perm L) : N1.names = ms := rise_ext h.nr hr fun x => by rw [h.nm x, hp.mem_iff]
/-! a keeper -/
def kpf (a kp : Addr) : List (Str × V) := [("bus", .ref a), ("kept", .ref kp)]
structure ClP (K : PySem.W.Frag) (CP : Addr) : Prop where
  cl : Cls K CP
  n_bus : NoAttr K CP "bus"
  n_kept : NoAttr K CP "kept"
section
variable {K : PySem.W.Frag} {CP e de a kp : Addr} {H : Hp} {Q : VK}
end
def oKeep (CP e de a kp : Addr) (ks : List Bits) : Own where
  S := fun H => H e = some (.ins CP de (kpf a kp)) ∧ H kp = some (.lst (bvs ks))
  F := [e, kp]
  loc := fun h s => ⟨h e (by simp) _ s.1, h kp (by simp) _ s.2⟩
  al := fun s b hb => by
    simp only [List.mem_cons, List.not_mem_nil, or_false] at hb
    rcases hb with rfl | rfl
    · exact ⟨_, s.1, own_ins⟩
    · exact ⟨_, s.2, own_bvs _⟩
/-! dicts whose values are all True -/
def oSet (p : Addr) (ks : List Bits) : Own where
  S := fun H => H p = some (.dK (tK V.bl (liK ks)))
  F := [p]
  loc := fun h s => h p List.mem_cons_self _ s
  al := fun s b hb => by
    rw [List.mem_singleton.mp hb]
    exact ⟨_, s, own_dK⟩
theorem Beg.mono {ls ls' : List Bits} (h : ∀ x ∈ ls, x ∈ ls') {b : Bits} (hb : Beg ls b) : Beg ls' b := by
  rcases hb with rfl | ⟨x, hx, hp⟩
  · exact .inl rfl
  · exact .inr ⟨x, h x hx, hp⟩
theorem GInv.grow {n : Nat} {ls ls' : List Bits} {M : WM} {N : KM} (g : GInv n ls M N) (h : ∀ x ∈ ls, x ∈ ls') (l40 : ls'.length ≤ 40) (hl : ∀ x ∈ ls', x.length = n) : GInv n ls' M N :=
  ⟨g.hw, g.n12, l40, hl, g.ok, g.ki.mono fun b hb => hb.mono h, g.kp, fun x hx => h x (g.kl x hx), fun x hx => h x (g.ll x hx)⟩
theorem over_iff {N : KM} : N.over = true ↔ N.said = none ∧ N.rest = [] := by
  unfold KM.over
  rw [Bool.and_eq_true, decide_eq_true_iff, decide_eq_true_iff]
/-! d.get(k, x) -/
def GetK (a : Addr) (y z : V) (H : Hp) (Q : VK) : Prop := ∃ o, DGet H a y o ∧ Q (o.getD z) H
def GetD (ty tx : TE) (σ : St) (x : V) (H : Hp) (Q : VK) : Prop := ∃ a, x = .ref a ∧ IsD H a ∧ ty σ H fun y H2 => tx σ H2 fun z H3 => GetK a y z H3 Q
/-- those that a walk may come upon, of a kind -/
structure KU (n : Nat) (Ev : List Bits) (M : WM) (N : KM) : Prop where
  ki : KI n (Beg Ev) N
  ll : N.said ≠ none → ∀ x ∈ M.lis, x ∈ Ev
  rg : ∀ x ∈ kindL M N.kind, x ∈ Ev
theorem KU.kstep {n : Nat} {Ev : List Bits} {M : WM} {N : KM} (h : KU n Ev M N) (hw : M.width = n) (ho : N.over = false) : KU n Ev (kstep M N).1 (kstep M N).2.1 where
  ki := by
    cases hs : N.said with
    | none =>
      have hr : N.rest ≠ [] := fun e => by simp [KM.over, hs, e] at ho
      rw [kstep_none hs]
      exact h.ki.stepB hw hs hr
    | some b =>
      rw [kstep_some hs]
      refine h.ki.stepL hw hs fun t ht => ?_
      obtain ⟨l, hl, hp⟩ := lookZ_ex.mp ht
      exact .inr ⟨l, h.ll (by rw [hs]; exact fun q => nomatch q) l hl, hp⟩
  ll := fun hn x hx => by
    cases hs : N.said with
    | none =>
      rw [kstep_none hs] at hx
      exact h.rg x (List.mem_filter.mp hx).1
    | some b =>
      rw [kstep_some hs] at hx
      unfold stepL at hx
      simp only at hx
      have q := h.ll (by rw [hs]; exact fun q => nomatch q)
      split at hx
      · exact q x hx
      · exact q x (List.mem_filter.mp hx).1
  rg := fun x hx => by
    rw [kindL_step, kstep_kind] at hx
    exact h.rg x hx
theorem KU.new {n : Nat} {c : Bool} {Ev : List Bits} {M : WM} (h : ∀ x ∈ kindL M c, x ∈ Ev) : KU n Ev M ⟨c, [[]], none, [], []⟩ :=
  ⟨⟨fun g hg => by rw [List.mem_singleton.mp hg]; exact ⟨Nat.zero_le _, .inl rfl⟩, fun b hb => (by cases hb), fun e he => absurd he (by simp), fun x hx => absurd hx (by simp), by simp [KM.pend], fun e he => absurd he (by simp), by simp, fun x hx => absurd hx (by simp), List.Pairwise.nil, by simp⟩, fun h => absurd rfl h, h⟩
theorem KU.names {n : Nat} {Ev : List Bits} {M : WM} {N : KM} (h : KU n Ev M N) (hn : 1 ≤ n) (hl : ∀ x ∈ Ev, x.length = n) : ∀ x ∈ N.names, x ∈ Ev := fun x hx => by
  obtain ⟨h1, h2⟩ := h.ki.pn x hx
  rcases h2 with rfl | ⟨y, hy, hp⟩
  · have h1 : 0 = n := h1
    omega
  · have e := List.IsPrefix.eq_of_length hp (by rw [h1, hl y hy])
    rw [e]
    exact hy
end Lw
end

section
/-! texts: sorted, any number of them; sets of them -/
namespace Lu
open PySem PySem.Spec PyProof.Rows L2 Lw
abbrev tx (v : Value) : Str := PyProof.Rows.strOf v
def ltT (v u : Value) : Bool := decide ((tx v).cps.toList < (tx u).cps.toList)
section
variable {prog : Program} {w : World} {A : Around} {E : Value → Shared → Prop} {s : Shared}
end
/-! ### sorted of a list, of a dict's keys -/
def rSortT (K : PySem.W.Frag) : List V → Hp → VK → Prop := fun vs H Q => ∃ (a : Addr) (xs : List Str), vs = [V.ref a] ∧ SqL K H a (xs.map V.str) ∧ ∀ (ys : List Str) (p : Addr), ys.Perm xs → sortedS ys = true → H p = none → Q (.ref p) (upd H p (.lst (ys.map V.str)))
def rSortDT : List V → Hp → VK → Prop := fun vs H Q => ∃ (a : Addr) (kvs : List (Key × V)) (ks : List Str), vs = [.ref a] ∧ Rd H a (.dK kvs) ∧ kvs.map (·.1) = ks.map Sum.inr ∧ ks.length ≤ 100000 ∧ ∀ ys p, ys.Perm ks → sortedS ys = true → H p = none → Q (.ref p) (upd H p (.lst (ys.map V.str)))
section
variable {X : Cx}
end
/-! ### sets of texts -/
/-- the set of the texts xs at a; it can be walked -/
def TSet (w : World) (h : Heap) (a : Addr) (xs : List Str) : Prop :=
  ∃ o es ep t, h.get? a = some o ∧ o.ExactSet ∧ o.data = .set es ep t ∧ (∀ e ∈ es.toList, ∃ x k, e.2 = Value.str x k ∧ e.1 = hashStr w x) ∧ (es.toList.map fun e => tx e.2).Perm xs ∧ xs.Nodup ∧
    es.size < scanBound ∧ t.fits es.size = true ∧ Ris t.place.toList ∧ (w.params.followText "set-order" = true ∨ t.led = true)
theorem TSet.at {w : World} {h h' : Heap} {a : Addr} {xs : List Str} (R : TSet w h a xs) (k : ∀ o, h.get? a = some o → h'.get? a = some o) : TSet w h' a xs := by
  obtain ⟨o, es, ep, t, ho, r⟩ := R
  exact ⟨o, es, ep, t, k o ho, r⟩
def SetS (w : World) (a : Addr) (xs : List Str) : HO := .ext fun h => TSet w h a xs
/-- a set's object, nothing in it -/
abbrev noneIn (w : World) : Obj := { cls := .type "set", dict := none, data := .set #[] 0 (.fresh 0 0 (!w.params.followText "set-order")) }
section
variable {P : Program} {w : World} {A : Around} {E : Value → Shared → Prop} {s : Shared} {a : Addr} {xs : List Str}
end
def rSetT (K : PySem.W.Frag) (w : World) : List V → Hp → VK → Prop := fun vs H Q => ∃ (a : Addr) (ys : List Str), vs = [V.ref a] ∧ SqL K H a (ys.map V.str) ∧ ys.length ≤ 4000 ∧
  ∀ (xs : List Str) (p : Addr), xs.Nodup → (∀ z, z ∈ xs ↔ z ∈ ys) → H p = none → Q (.ref p) (upd H p (SetS w p xs))
def rSortSetT (w : World) : List V → Hp → VK → Prop := fun vs H Q => ∃ (a : Addr) (xs : List Str), vs = [V.ref a] ∧ H a = some (SetS w a xs) ∧
  ∀ (ys : List Str) (p : Addr), ys.Perm xs → sortedS ys = true → H p = none → Q (.ref p) (upd H p (.lst (ys.map V.str)))
def rLenSetT (w : World) : List V → Hp → VK → Prop := fun vs H Q => ∃ (a : Addr) (xs : List Str), vs = [V.ref a] ∧ H a = some (SetS w a xs) ∧ Q (.int (xs.length : Int)) H
section
variable {X : Cx}
end
/-! ### the same, told of texts of signs 0 and 1 -/
section
variable {X : Cx} {K : PySem.W.Frag} {w : World} {H : Hp} {Q : VK}
/-- rising, not strictly -/
def RiseE (ls : List (List Bool)) : Prop := ls.Pairwise fun a b => blt b a = false
end
end Lu
end

section
/-! sorted keys of a dict, any number; what rounds tell of a still wire -/
namespace Lw
open PySem L2
/-! ### rounds on a still wire -/
theorem low_seg : ∀ {ds ns : List Bits}, Rise ds → Rise ns → (∀ x ∈ ns, x ∈ ds) → (∀ y ∈ ds, y ∈ ns ∨ ∀ x ∈ ns, blt x y = true) → ns = ds.take ns.length
  | ds, [], _, _, _, _ => by simp
  | [], n :: ns, _, _, h, _ => absurd (h n List.mem_cons_self) (by simp)
  | d :: ds, n :: ns, hd, hn, hs, hl => by
    obtain ⟨d1, d2⟩ := List.pairwise_cons.mp hd
    obtain ⟨n1, n2⟩ := List.pairwise_cons.mp hn
    have e : d = n := by
      rcases List.mem_cons.mp (hs n List.mem_cons_self) with h | h
      · exact h.symm
      · have h1 := d1 n h
        rcases hl d List.mem_cons_self with q | q
        · rcases List.mem_cons.mp q with q | q
          · exact q
          · have := n1 d q
            rw [blt_asymm h1] at this
            cases this
        · have := q n List.mem_cons_self
          rw [blt_asymm h1] at this
          cases this
    subst e
    rw [List.length_cons, List.take_succ_cons]
    congr 1
    have ndd := (List.nodup_cons.mp (rise_nodup hd)).1
    have ndn := (List.nodup_cons.mp (rise_nodup hn)).1
    refine low_seg d2 n2 (fun x hx => ?_) fun y hy => ?_
    · rcases List.mem_cons.mp (hs x (List.mem_cons_of_mem _ hx)) with h | h
      · exact absurd (h ▸ hx) ndn
      · exact h
    · rcases hl y (List.mem_cons_of_mem _ hy) with q | q
      · rcases List.mem_cons.mp q with q | q
        · exact absurd (q ▸ hy) ndd
        · exact .inl q
      · exact .inr fun x hx => q x (List.mem_cons_of_mem _ hx)
section
variable {L : List Bits} {c : Bool} {M : WM} {N : KM}
/-- what was found so far of those that answer, rising -/
theorem KS.seg {due : List Bits} (h : KS L c M N) (hd : Rise due) (hp : due.Perm L) : N.names = due.take N.names.length := by
  refine low_seg hd h.ki.nr (fun x hx => hp.mem_iff.mpr (h.names x hx)) fun y hy => ?_
  have hyL := hp.mem_iff.mp hy
  rcases h.kw.a y (.inr ⟨y, hyL, List.prefix_refl _⟩) with q | ⟨g, hg, hp⟩
  · exact .inl (q.2 (by rw [h.len y hyL]; exact Nat.lt_irrefl _))
  · exact .inr fun x hx => ((h.ki.nn x hx g hg).pre hp).blt
/-- somebody answers at all that is pending -/
def Ans (L : List Bits) (N : KM) : Prop := ∀ g ∈ N.pend, ∃ x ∈ L, g <+: x
theorem Ans.kstep (h : KS L c M N) (ho : N.over = false) (a : Ans L N) : Ans L (kstep M N).2.1 ∧ (kstep M N).2.2 ≠ .lost := by
  cases hs : N.said with
  | none =>
    have hr : N.rest ≠ [] := fun e => by simp [KM.over, hs, e] at ho
    refine ⟨fun g hg => ?_, fun hl => ?_⟩
    · rw [kstep_none hs] at hg
      unfold stepB at hg
      rcases ended_pend hg with hg | hg
      · exact a g (by rw [pend_none hs]; exact (List.dropLast_sublist _).subset hg)
      · exact a g (by rw [pend_none hs, hg]; exact getLastD_mem hr)
    · rw [kstep_none hs] at hl
      unfold stepB at hl
      exact ended_lost hl
  | some b =>
    obtain ⟨x, hx, hbx⟩ := a b (by rw [pend_said hs]; simp)
    have hbl := (h.ki.ps b hs).1
    have hxl := h.len x hx
    have hlis := h.kw.l b hs x hx hbx
    obtain ⟨t, ht⟩ : ∃ t, lookZ M.lis b t = true := by
      obtain ⟨s, rfl⟩ := hbx
      cases s with
      | nil => simp at hxl; omega
      | cons t s => exact ⟨t, lookZ_ex.mpr ⟨_, hlis, ⟨s, by simp⟩⟩⟩
    have hin : ∀ t, lookZ M.lis b t = true → ∃ x ∈ L, b ++ [t] <+: x := fun t ht => by
      obtain ⟨l, hl, hp⟩ := lookZ_ex.mp ht
      exact ⟨l, h.ll (by rw [hs]; exact fun q => nomatch q) l hl, hp⟩
    have hzo : ¬ (!lookZ M.lis b false && !lookZ M.lis b true) = true := fun q => by
      rw [Bool.and_eq_true] at q
      cases t
      · rw [ht] at q; exact absurd q.1 (by decide)
      · rw [ht] at q; exact absurd q.2 (by decide)
    have hc : lookZ M.lis b (!lookZ M.lis b false) = true := by
      cases e : lookZ M.lis b false with
      | true => exact e
      | false =>
        cases t
        · rw [e] at ht; cases ht
        · exact ht
    refine ⟨fun g hg => ?_, fun hl => ?_⟩
    · rw [kstep_some hs] at hg
      unfold stepL at hg
      simp only at hg
      rw [if_neg hzo] at hg
      rcases ended_pend hg with hg | hg
      · split at hg
        · rename_i hb2
          rcases List.mem_append.mp hg with hg | hg
          · exact a g (by rw [pend_said hs]; exact List.mem_append_left _ hg)
          · rw [List.mem_singleton.mp hg]
            exact hin true (Bool.and_eq_true_iff.mp hb2).2
        · exact a g (by rw [pend_said hs]; exact List.mem_append_left _ hg)
      · rw [hg]
        exact hin _ hc
    · rw [kstep_some hs] at hl
      unfold stepL at hl
      simp only at hl
      rw [if_neg hzo] at hl
      exact ended_lost hl
theorem Ans.round {j : Nat} {M1 : WM} {N1 : KM} {r : Res} (h : KS L c M N) (ho : N.over = false) (a : Ans L N) (t : KRound j M N M1 N1 r) : Ans L N1 ∧ r ≠ .lost := by
  induction t with
  | last h2 => exact Ans.kstep h ho a
  | more h2 t ih => exact ih (h.kstep ho) (kstep_gap h.kp h2).2 (Ans.kstep h ho a).1
theorem Ans.new {c : Bool} (h : L ≠ []) : Ans L ⟨c, [[]], none, [], []⟩ := fun g hg => by
  have hg : g = [] := by simpa [KM.pend] using hg
  obtain ⟨x, l, e⟩ := List.exists_cons_of_ne_nil h
  exact ⟨x, by rw [e]; exact List.mem_cons_self, by rw [hg]; exact List.nil_prefix⟩
theorem KD.sround {j : Nat} {D : List Bits} {M1 : WM} {N1 : KM} {r : Res} (d : KD (Beg L) D N) (h : KS L c M N) (ho : N.over = false) (t : KRound j M N M1 N1 r) : ∃ D', KD (Beg L) D' N1 ∧ D'.length = D.length + 1 := by
  induction t generalizing D with
  | last h2 =>
    rename_i M N
    have k2 := (h.kstep ho).ki
    rw [(kstep_width M N).1] at k2
    obtain ⟨D', a, b⟩ := d.kstep ho h.ki k2
    rw [if_neg h2] at b
    exact ⟨D', a, b⟩
  | more h2 t ih =>
    rename_i n M M' N N' r
    have k2 := (h.kstep ho).ki
    rw [(kstep_width M N).1] at k2
    obtain ⟨D', a, b⟩ := d.kstep ho h.ki k2
    rw [if_pos h2] at b
    obtain ⟨D2, e1, e2⟩ := ih a (h.kstep ho) (kstep_gap h.kp h2).2
    exact ⟨D2, e1, by omega⟩
end
/-- between two rounds of a walk on a still wire: m0 looks ahead of it, j rounds so far -/
structure WS (due : List Bits) (c : Bool) (M0 : WM) (M : WM) (N : KM) (j : Nat) : Prop where
  ks : KS (kindL M0 c) c M N
  sn : N.said = none
  th : M.things = M0.things
  wd : M.width = M0.width
  mn : M.many = M0.many + N.seen.length
  kd : ∃ D, KD (Beg (kindL M0 c)) D N ∧ D.length = j
  an : due ≠ [] → Ans (kindL M0 c) N ∧ N.names.length = j
  nl : due = [] → N.names = []
  j0 : j = 0 → N.rest ≠ []
section
variable {due : List Bits} {c : Bool} {M0 M : WM} {N : KM} {j : Nat}
theorem WS.new (ok : WOk M0) (hp : due.Perm (kindL M0 c)) : WS due c M0 M0 ⟨c, [[]], none, [], []⟩ 0 where
  ks := KS.new ok
  sn := rfl
  th := rfl
  wd := rfl
  mn := rfl
  kd := ⟨[], KD.new, rfl⟩
  an := fun h => ⟨Ans.new fun e => h (by
    have := hp.length_eq
    rw [e] at this
    exact List.length_eq_zero_iff.mp this), rfl⟩
  nl := fun _ => rfl
  j0 := fun _ => by simp
theorem WS.le (h : WS due c M0 M N j) (hp : due.Perm (kindL M0 c)) : j + N.rest.length ≤ max 1 due.length := by
  obtain ⟨D, d1, d2⟩ := h.kd
  have := d1.le h.ks.ki (fun b hb => hb)
  rw [pend_none h.sn, d2, ← hp.length_eq] at this
  exact this
theorem WS.round {i : Nat} {M1 : WM} {N1 : KM} {r : Res} (h : WS due c M0 M N j) (hd : Rise due) (hp : due.Perm (kindL M0 c)) (ho : N.rest ≠ []) (t : KRound i M N M1 N1 r) :
    WS due c M0 M1 N1 (j + 1) ∧ (if due = [] then r = .lost else ∃ x, due[j]? = some x ∧ r = .found x) := by
  have hov : N.over = false := by simp [KM.over, h.sn, ho]
  have k1 := h.ks.round hov t
  obtain ⟨D, d1, d2⟩ := h.kd
  obtain ⟨D2, e1, e2⟩ := d1.sround h.ks hov t
  obtain ⟨_, _, _, f1, f2, f3⟩ := kround_sz t
  have hm := kround_many t
  have hmn := h.mn
  have hn := kround_names t
  have hsn := kround_done t
  have hnl : due = [] → N1.names = [] := fun e => List.eq_nil_iff_forall_not_mem.mpr fun x hx => by
    have := hp.mem_iff.mpr (k1.names x hx)
    rw [e] at this
    cases this
  have han : due ≠ [] → Ans (kindL M0 c) N1 ∧ r ≠ .lost := fun e => Ans.round h.ks hov (h.an e).1 t
  have hfound : due ≠ [] → ∃ x, r = .found x := fun e => by
    cases r with
    | none => exact absurd rfl f3
    | lost => exact absurd rfl (han e).2
    | found x => exact ⟨x, rfl⟩
  refine ⟨⟨k1, hsn, f2.trans h.th, f1.trans h.wd, by omega, ⟨D2, e1, by omega⟩, fun e => ⟨(han e).1, ?_⟩, hnl, fun e => by omega⟩, ?_⟩
  · obtain ⟨x, rfl⟩ := hfound e
    rw [hn]
    simp [resN, (h.an e).2]
  · by_cases e : due = []
    · rw [if_pos e]
      cases r with
      | none => exact absurd rfl f3
      | lost => rfl
      | found x =>
        have := hnl e
        rw [hn] at this
        simp [resN] at this
    · rw [if_neg e]
      obtain ⟨x, rfl⟩ := hfound e
      refine ⟨x, ?_, rfl⟩
      have h1 := k1.seg hd hp
      have h2 : N1.names.length = j + 1 := by rw [hn]; simp [resN, (h.an e).2]
      have h3 : N1.names[j]? = some x := by
        rw [hn, List.getElem?_append_right (by rw [(h.an e).2]; exact Nat.le_refl _), (h.an e).2]
        simp [resN]
      rw [h1, h2, List.getElem?_take] at h3
      simpa using h3
/-- where it has nowhere to go -/
theorem WS.still (h : WS due c M0 M N j) (hd : Rise due) (hp : due.Perm (kindL M0 c)) (hz : due.length ≤ 40) (hr : N.rest = []) : Still (kindL M0 c) M0 M N ∧ N.names = due ∧ j = max 1 due.length := by
  have ho : N.over = true := over_iff.mpr ⟨h.sn, hr⟩
  have S := h.ks.still (j := 0) ho (by rw [← hp.length_eq]; exact hz) h.th h.wd h.mn
  have hnm := S.sorted hd hp
  refine ⟨S, hnm, ?_⟩
  have hle := h.le hp
  rw [hr] at hle
  by_cases e : due = []
  · have hj : j ≠ 0 := fun e => h.j0 e hr
    rw [e] at hle ⊢
    simp at hle ⊢
    omega
  · have h1 := (h.an e).2
    rw [hnm] at h1
    have : 0 < due.length := List.length_pos_iff.mpr e
    omega
end
theorem ext_news {H H1 H' : Hp} {G G' : List Addr} (fr : ∀ b ∈ G, H b = none) (e : Ext H H1) (s : Step G G' H1 H') : Ext H H' where
  st := fun b o hb n => s.st b o (e.st b o hb n) (fun q => by rw [fr b q] at hb; cases hb) n
  rw_ := fun b x i m z hb hi => by
    obtain ⟨i', m', z', h1, h2⟩ := e.rw_ b x i m z hb hi
    exact s.rw_ b x i' m' z' h1 (fun q => by rw [fr b q] at hb; cases hb) h2
  th := fun b o hb => by
    obtain ⟨o1, h1⟩ := e.th b o hb
    exact s.th b o1 h1
theorem KS.sz {L : List Bits} {c : Bool} {M : WM} {N : KM} (h : KS L c M N) (hz : L.length ≤ 40) : N.names.length ≤ 40 ∧ N.seen.length ≤ 441 := by
  refine ⟨Nat.le_trans (nodup_le _ L (rise_nodup h.ki.nr) h.names) hz, ?_⟩
  have h1 := nodup_le (N.seen.map (·.1)) (begs M.width L) h.ki.sd fun b hb => by
    obtain ⟨e, he, rfl⟩ := List.mem_map.mp hb
    obtain ⟨a1, a2⟩ := h.ki.pe e he
    exact beg_mem a2 a1
  rw [List.length_map, begs_len] at h1
  have h2 : L.length * (M.width - 1) ≤ 40 * 11 := Nat.mul_le_mul hz (by have := h.ok.w2; omega)
  omega
/-- three pairs of a kind and a list -/
def oKinds (z t1 t2 t3 p q : Addr) : Own where
  S := fun H => H z = some (.lst [.ref t1, .ref t2, .ref t3]) ∧ H t1 = some (.tup [.str "all", .ref p]) ∧ H t2 = some (.tup [.str "alarm", .ref q]) ∧ H t3 = some (.tup [.str "all", .ref p])
  F := [z, t1, t2, t3]
  loc := fun h s => ⟨h z (by simp) _ s.1, h t1 (by simp) _ s.2.1, h t2 (by simp) _ s.2.2.1, h t3 (by simp) _ s.2.2.2⟩
  al := fun s b hb => by
    simp only [List.mem_cons, List.not_mem_nil, or_false] at hb
    rcases hb with rfl | rfl | rfl | rfl
    · exact ⟨_, s.1, own_refs [t1, t2, t3]⟩
    · exact ⟨_, s.2.1, own_tup⟩
    · exact ⟨_, s.2.2.1, own_tup⟩
    · exact ⟨_, s.2.2.2, own_tup⟩
end Lw
end

section
/-! looks, and what they show: plain part -/
namespace Lw
open PySem L2
abbrev Look := Bits × Bool × Bool
def askedB (L : List Look) (q : Bits) : Bool := L.any fun e => decide (q <+: e.1)
/-- a look at q tells that something, or nothing, is behind it with this bit -/
def yesB (L : List Look) (q : Bits) (c : Bool) : Bool := L.any fun e => decide (e.1 = q) && (if c then e.2.2 else e.2.1)
def noB (L : List Look) (q : Bits) (c : Bool) : Bool := L.any fun e => decide (e.1 = q) && !(if c then e.2.2 else e.2.1)
def bareB (L : List Look) (q : Bits) : Bool := L.any fun e => (!e.2.1 && decide (q = e.1 ++ [false])) || (!e.2.2 && decide (q = e.1 ++ [true]))
def fullB (L : List Look) (q : Bits) : Bool := !q.isEmpty && L.any fun e => (e.2.1 && decide (q <+: e.1 ++ [false])) || (e.2.2 && decide (q <+: e.1 ++ [true]))
/-- how many numbers may begin with q, two for more; h: bits behind q -/
def cnt (L : List Look) : Nat → Bits → Nat
  | 0, q => if bareB L q then 0 else 1
  | h + 1, q => if bareB L q then 0 else if askedB L q then min 2 (cnt L h (q ++ [false]) + cnt L h (q ++ [true])) else 2
def cin (L : List Look) : Nat → Bits → Nat
  | 0, _ => 1
  | h + 1, q => if askedB L q then min 2 (cnt L h (q ++ [false]) + cnt L h (q ++ [true])) else 2
def both : Option (List Bits) → Option (List Bits) → Option (List Bits)
  | some x, some y => some (x ++ y)
  | _, _ => none
/-- all numbers that begin with q, none if they may be these or others -/
def frc (L : List Look) : Nat → Bits → Bool → Option (List Bits)
  | 0, q, f => if cnt L 0 q = 0 then some [] else if f || (decide (cnt L 0 q = 1) && fullB L q) then some [q] else none
  | h + 1, q, f => if cnt L (h + 1) q = 0 then some [] else if askedB L q then both (frc L h (q ++ [false]) (f || (decide (cnt L (h + 1) q = 1) && fullB L q))) (frc L h (q ++ [true]) (f || (decide (cnt L (h + 1) q = 1) && fullB L q))) else none
def fin_ (L : List Look) : Nat → Bits → Bool → Option (List Bits)
  | 0, q, f => if f then some [q] else none
  | h + 1, q, f => if askedB L q then both (frc L h (q ++ [false]) f) (frc L h (q ++ [true]) f) else none
section
variable {L : List Look} {h : Nat} {q p : Bits} {c f : Bool}
theorem cin_succ : cin L (h + 1) q = if askedB L q then min 2 (cnt L h (q ++ [false]) + cnt L h (q ++ [true])) else 2 := rfl
theorem fin_succ : fin_ L (h + 1) q f = if askedB L q then both (frc L h (q ++ [false]) f) (frc L h (q ++ [true]) f) else none := rfl
theorem cnt_cin : cnt L h q = if bareB L q then 0 else cin L h q := by cases h <;> rfl
theorem cin_le : cin L h q ≤ 2 := by
  cases h with
  | zero => exact (by decide : 1 ≤ 2)
  | succ h =>
    rw [cin_succ]
    split
    · exact Nat.min_le_left _ _
    · exact Nat.le_refl _
theorem cnt_le : cnt L h q ≤ 2 := by
  rw [cnt_cin]
  split
  · exact Nat.zero_le _
  · exact cin_le
theorem frc_fin : frc L h q f = if cnt L h q = 0 then some [] else fin_ L h q (f || (decide (cnt L h q = 1) && fullB L q)) := by cases h <;> rfl
theorem both_some {x y : Option (List Bits)} : (both x y).isSome = (x.isSome && y.isSome) := by cases x <;> cases y <;> rfl
/-- within q, behind it, something must hang -/
def HF (L : List Look) (q : Bits) : Bool := fullB L (q ++ [false]) || fullB L (q ++ [true])
/-- .. where nothing may -/
def TI (L : List Look) : Nat → Bits → Bool
  | 0, _ => false
  | h + 1, q => (fullB L (q ++ [false]) && decide (cnt L h (q ++ [false]) = 0)) || (fullB L (q ++ [true]) && decide (cnt L h (q ++ [true]) = 0)) || TI L h (q ++ [false]) || TI L h (q ++ [true])
theorem full_up {d : Bool} (h : fullB L (q ++ [c] ++ [d]) = true) : fullB L (q ++ [c]) = true := by
  unfold fullB at h ⊢
  rw [Bool.and_eq_true, List.any_eq_true] at h ⊢
  obtain ⟨_, e, he, h2⟩ := h
  refine ⟨by simp, e, he, ?_⟩
  rw [Bool.or_eq_true, Bool.and_eq_true, Bool.and_eq_true, decide_eq_true_eq, decide_eq_true_eq] at h2 ⊢
  have up : ∀ {x : Bits}, q ++ [c] ++ [d] <+: x → q ++ [c] <+: x := fun h => (List.prefix_append _ _).trans h
  exact h2.imp (fun ⟨a, b⟩ => ⟨a, up b⟩) (fun ⟨a, b⟩ => ⟨a, up b⟩)
theorem full_asked (h : fullB L (q ++ [c]) = true) : askedB L q = true := by
  unfold fullB at h
  rw [Bool.and_eq_true, List.any_eq_true] at h
  obtain ⟨_, e, he, h2⟩ := h
  unfold askedB
  rw [List.any_eq_true]
  refine ⟨e, he, decide_eq_true ?_⟩
  have key : ∀ {d : Bool}, q ++ [c] <+: e.1 ++ [d] → q <+: e.1 := fun {d} h => by
    rcases List.prefix_concat_iff.mp h with h | h
    · have := congrArg List.length h
      obtain ⟨h3, _⟩ := List.append_inj h (by simpa using this)
      rw [h3]
      exact List.prefix_refl _
    · exact (List.prefix_append _ _).trans h
  rw [Bool.or_eq_true, Bool.and_eq_true, Bool.and_eq_true, decide_eq_true_eq, decide_eq_true_eq] at h2
  exact h2.elim (fun ⟨_, b⟩ => key b) (fun ⟨_, b⟩ => key b)
theorem full_len {w : Nat} (hl : ∀ e ∈ L, e.1.length < w) (h : fullB L q = true) : q.length ≤ w := by
  unfold fullB at h
  rw [Bool.and_eq_true, List.any_eq_true] at h
  obtain ⟨_, e, he, h2⟩ := h
  have := hl e he
  rw [Bool.or_eq_true, Bool.and_eq_true, Bool.and_eq_true, decide_eq_true_eq, decide_eq_true_eq] at h2
  rcases h2 with ⟨_, b⟩ | ⟨_, b⟩
  all_goals
    have := b.length_le
    rw [List.length_append] at this
    simp only [List.length_cons, List.length_nil] at this
    omega
theorem full_ne (h : fullB L q = true) : q ≠ [] := by
  rintro rfl
  cases h
theorem bare_is : bareB L (q ++ [c]) = noB L q c := by
  unfold bareB noB
  congr 1
  funext e
  have k : ∀ d : Bool, decide (q ++ [c] = e.1 ++ [d]) = (decide (e.1 = q) && decide (c = d)) := fun d => by
    rw [Bool.eq_iff_iff, Bool.and_eq_true, decide_eq_true_eq, decide_eq_true_eq, decide_eq_true_eq]
    constructor
    · intro h
      obtain ⟨h1, h2⟩ := List.append_inj' h rfl
      exact ⟨h1.symm, by simpa using h2⟩
    · rintro ⟨rfl, rfl⟩
      rfl
  rw [k, k]
  cases c <;> cases decide (e.1 = q) <;> simp
theorem full_is : fullB L (q ++ [c]) = (yesB L q c || HF L (q ++ [c])) := by
  rw [Bool.eq_iff_iff, Bool.or_eq_true]
  constructor
  · intro h
    unfold fullB at h
    rw [Bool.and_eq_true, List.any_eq_true] at h
    obtain ⟨_, e, he, h2⟩ := h
    rw [Bool.or_eq_true, Bool.and_eq_true, Bool.and_eq_true, decide_eq_true_eq, decide_eq_true_eq] at h2
    have key : ∀ {d : Bool}, (if d then e.2.2 else e.2.1) = true → q ++ [c] <+: e.1 ++ [d] → yesB L q c = true ∨ HF L (q ++ [c]) = true := fun {d} hd h => by
      obtain ⟨r, hr⟩ := h
      cases r with
      | nil =>
        rw [List.append_nil] at hr
        obtain ⟨h1, h2⟩ := List.append_inj' hr rfl
        have h2 : c = d := by simpa using h2
        subst h2
        refine .inl ?_
        unfold yesB
        rw [List.any_eq_true]
        exact ⟨e, he, by rw [Bool.and_eq_true, decide_eq_true_eq]; exact ⟨h1.symm, hd⟩⟩
      | cons x r =>
        refine .inr ?_
        have hx : fullB L (q ++ [c] ++ [x]) = true := by
          unfold fullB
          rw [Bool.and_eq_true, List.any_eq_true]
          refine ⟨by simp, e, he, ?_⟩
          rw [Bool.or_eq_true, Bool.and_eq_true, Bool.and_eq_true, decide_eq_true_eq, decide_eq_true_eq]
          have hp : q ++ [c] ++ [x] <+: e.1 ++ [d] := ⟨r, by rw [← hr]; simp⟩
          cases d
          · exact .inl ⟨hd, hp⟩
          · exact .inr ⟨hd, hp⟩
        unfold HF
        rw [Bool.or_eq_true]
        cases x
        · exact .inl hx
        · exact .inr hx
    exact h2.elim (fun ⟨a, b⟩ => key (d := false) a b) (fun ⟨a, b⟩ => key (d := true) a b)
  · rintro (h | h)
    · unfold yesB at h
      rw [List.any_eq_true] at h
      obtain ⟨e, he, h2⟩ := h
      rw [Bool.and_eq_true, decide_eq_true_eq] at h2
      obtain ⟨rfl, h2⟩ := h2
      unfold fullB
      rw [Bool.and_eq_true, List.any_eq_true]
      refine ⟨by simp, e, he, ?_⟩
      rw [Bool.or_eq_true, Bool.and_eq_true, Bool.and_eq_true, decide_eq_true_eq, decide_eq_true_eq]
      cases c
      · exact .inl ⟨h2, List.prefix_refl _⟩
      · exact .inr ⟨h2, List.prefix_refl _⟩
    · unfold HF at h
      rw [Bool.or_eq_true] at h
      exact h.elim full_up full_up
theorem HF_asked (h : HF L q = true) : askedB L q = true := by
  unfold HF at h
  rw [Bool.or_eq_true] at h
  exact h.elim full_asked full_asked
theorem HF_leaf {w : Nat} (hl : ∀ e ∈ L, e.1.length < w) (hq : q.length = w) : HF L q = false := by
  cases e : HF L q with
  | false => rfl
  | true =>
    unfold HF at e
    rw [Bool.or_eq_true] at e
    rcases e with h | h
    all_goals
      have := full_len hl h
      rw [List.length_append] at this
      simp only [List.length_cons, List.length_nil] at this
      omega
theorem TI_HF : ∀ {h : Nat} {q : Bits}, TI L h q = true → HF L q = true
  | 0, q, h => by cases h
  | n + 1, q, h => by
    unfold TI at h
    unfold HF
    rw [Bool.or_eq_true]
    simp only [Bool.or_eq_true, Bool.and_eq_true] at h
    rcases h with ((h | h) | h) | h
    · exact .inl h.1
    · exact .inr h.1
    · have := TI_HF h
      rw [full_is, this, Bool.or_true]
      exact .inl rfl
    · have := TI_HF h
      rw [full_is (c := true), this, Bool.or_true]
      exact .inr rfl
/-- something must hang where nothing may -/
theorem HF_zero {w : Nat} (hl : ∀ e ∈ L, e.1.length < w) (hh : h + q.length = w) (h1 : HF L q = true) (h2 : cin L h q = 0) : TI L h q = true := by
  cases h with
  | zero => cases h2
  | succ h =>
    rw [cin_succ, if_pos (HF_asked h1)] at h2
    have e0 : cnt L h (q ++ [false]) = 0 := by omega
    have e1 : cnt L h (q ++ [true]) = 0 := by omega
    unfold TI
    unfold HF at h1
    rw [Bool.or_eq_true] at h1
    rcases h1 with h | h
    · simp [h, e0]
    · simp [h, e1]
theorem fin_true : ∀ {h : Nat} {q : Bits}, cin L h q = 1 → (fin_ L h q true).isSome = true
  | 0, q, _ => rfl
  | n + 1, q, h => by
    rw [cin_succ] at h
    split at h
    · rename_i ha
      rw [fin_succ, if_pos ha, both_some]
      have key : ∀ c, cnt L n (q ++ [c]) = 0 ∨ cnt L n (q ++ [c]) = 1 → (frc L n (q ++ [c]) true).isSome = true := fun c hc => by
        rw [frc_fin]
        rcases hc with hc | hc
        · rw [if_pos hc]
          rfl
        · rw [if_neg (by omega)]
          have : cin L n (q ++ [c]) = 1 := by
            rw [cnt_cin] at hc
            split at hc
            · cases hc
            · exact hc
          exact fin_true this
      have a0 := key false (by omega)
      have a1 := key true (by omega)
      rw [a0, a1]
      rfl
    · cases h
theorem fin_noHF {w : Nat} (hl : ∀ e ∈ L, e.1.length < w) : ∀ {h : Nat} {q : Bits}, HF L q = false → cin L h q ≠ 0 → fin_ L h q false = none
  | 0, q, _, _ => rfl
  | n + 1, q, hf, hc => by
    rw [cin_succ] at hc
    rw [fin_succ]
    split at hc
    · rename_i ha
      rw [if_pos ha]
      unfold HF at hf
      rw [Bool.or_eq_false_iff] at hf
      have key : ∀ c, fullB L (q ++ [c]) = false → cnt L n (q ++ [c]) ≠ 0 → frc L n (q ++ [c]) false = none := fun c hc h0 => by
        rw [frc_fin, if_neg h0, hc, Bool.and_false, Bool.false_or]
        have h2 : HF L (q ++ [c]) = false := by
          rw [full_is, Bool.or_eq_false_iff] at hc
          exact hc.2
        refine fin_noHF hl h2 fun h => h0 ?_
        rw [cnt_cin, h]
        split <;> rfl
      by_cases h0 : cnt L n (q ++ [false]) = 0
      · rw [key true hf.2 (by omega)]
        cases frc L n (q ++ [false]) false <;> rfl
      · rw [key false hf.1 h0]
        rfl
    · rename_i ha
      rw [if_neg ha]
theorem fin_one (h1 : cin L (h + 1) q = 1) (h2 : HF L q = true) (h3 : TI L (h + 1) q = false) : (fin_ L (h + 1) q false).isSome = true := by
    rw [cin_succ, if_pos (HF_asked h2)] at h1
    rw [fin_succ, if_pos (HF_asked h2), both_some]
    unfold TI at h3
    simp only [Bool.or_eq_false_iff, Bool.and_eq_false_iff, decide_eq_false_iff_not] at h3
    unfold HF at h2
    rw [Bool.or_eq_true] at h2
    have z : ∀ c, cnt L h (q ++ [c]) = 0 → (frc L h (q ++ [c]) false).isSome = true := fun c hc => by
      rw [frc_fin, if_pos hc]
      rfl
    have o : ∀ c, fullB L (q ++ [c]) = true → cnt L h (q ++ [c]) = 1 → (frc L h (q ++ [c]) false).isSome = true := fun c hf hc => by
      rw [frc_fin, if_neg (by omega), hf, decide_eq_true hc]
      have : cin L h (q ++ [c]) = 1 := by
        rw [cnt_cin] at hc
        split at hc
        · cases hc
        · exact hc
      exact fin_true this
    rcases h2 with h2 | h2
    · have : ¬ cnt L h (q ++ [false]) = 0 := fun e => by
        rcases h3.1.1.1 with h | h
        · rw [h2] at h; cases h
        · exact h e
      rw [o false h2 (by omega), z true (by omega)]
      rfl
    · have : ¬ cnt L h (q ++ [true]) = 0 := fun e => by
        rcases h3.1.1.2 with h | h
        · rw [h2] at h; cases h
        · exact h e
      rw [o true h2 (by omega), z false (by omega)]
      rfl
end
/-! ### the law's counting -/
def ansB (L : List Look) (q : Bits) (z o : Bool) : Bool := L.all fun e => !decide (e.1 = q) || (decide (e.2.1 = z) && decide (e.2.2 = o))
def pk (p : Nat × Nat) (z : Bool) : Nat := if z then p.2 else p.1
def wsum (L : List Look) (q : Bits) (a b : Nat × Nat) (z o : Bool) : Nat := if ansB L q z o then pk a z * pk b o else 0
def ways (L : List Look) : Nat → Bits → Nat × Nat
  | 0, _ => (1, 1)
  | h + 1, q => if askedB L q then (min 2 (wsum L q (ways L h (q ++ [false])) (ways L h (q ++ [true])) false false),
      min 2 (wsum L q (ways L h (q ++ [false])) (ways L h (q ++ [true])) false true + wsum L q (ways L h (q ++ [false])) (ways L h (q ++ [true])) true false + wsum L q (ways L h (q ++ [false])) (ways L h (q ++ [true])) true true)) else (1, 2)
def those (L : List Look) : Nat → Bits → List Bits
  | 0, q => [q]
  | h + 1, q => if 0 < wsum L q (ways L h (q ++ [false])) (ways L h (q ++ [true])) false true then those L h (q ++ [true])
      else if 0 < wsum L q (ways L h (q ++ [false])) (ways L h (q ++ [true])) true false then those L h (q ++ [false])
      else if 0 < wsum L q (ways L h (q ++ [false])) (ways L h (q ++ [true])) true true then those L h (q ++ [false]) ++ those L h (q ++ [true]) else []
section
variable {L : List Look} {h : Nat} {q p : Bits} {c f z o : Bool}
def okB (L : List Look) (q : Bits) (c z : Bool) : Bool := if z then !noB L q c else !yesB L q c
theorem TI_succ : TI L (h + 1) q = ((fullB L (q ++ [false]) && decide (cnt L h (q ++ [false]) = 0)) || (fullB L (q ++ [true]) && decide (cnt L h (q ++ [true]) = 0)) || TI L h (q ++ [false]) || TI L h (q ++ [true])) := rfl
/-- what a child brings: nothing of it, something of it -/
def wE (L : List Look) (h : Nat) (q : Bits) (c : Bool) : Nat := if yesB L q c then 0 else (ways L h (q ++ [c])).1
def wX (L : List Look) (h : Nat) (q : Bits) (c : Bool) : Nat := if noB L q c then 0 else (ways L h (q ++ [c])).2
def wayF (L : List Look) (h : Nat) (q : Bits) : Nat × Nat := (if HF L q then 0 else 1, if TI L h q then 0 else if HF L q then (if (fin_ L h q false).isSome then 1 else 2) else cin L h q)
/-- a child, by its formula -/
theorem child {w : Nat} (hl : ∀ e ∈ L, e.1.length < w) (hh : h + 1 + q.length = w) (e : ways L h (q ++ [c]) = wayF L h (q ++ [c])) :
    (fullB L (q ++ [c]) = true ∧ wE L h q c = 0 ∧ wX L h q c = if cnt L h (q ++ [c]) = 0 ∨ TI L h (q ++ [c]) = true then 0 else if (frc L h (q ++ [c]) false).isSome then 1 else 2) ∨
    (fullB L (q ++ [c]) = false ∧ wE L h q c = 1 ∧ wX L h q c = cnt L h (q ++ [c]) ∧ (frc L h (q ++ [c]) false).isSome = decide (cnt L h (q ++ [c]) = 0) ∧ TI L h (q ++ [c]) = false) := by
  have hl1 : h + (q ++ [c]).length = w := by
    rw [List.length_append]
    simp only [List.length_cons, List.length_nil]
    omega
  unfold wE wX
  rw [e]
  unfold wayF
  have hb : bareB L (q ++ [c]) = noB L q c := bare_is
  have hc : cnt L h (q ++ [c]) = if noB L q c then 0 else cin L h (q ++ [c]) := by rw [cnt_cin, hb]
  cases hF : fullB L (q ++ [c]) with
  | true =>
    refine .inl ⟨rfl, ?_, ?_⟩
    · rw [full_is] at hF
      cases hy : yesB L q c with
      | true => rfl
      | false =>
        rw [hy, Bool.false_or] at hF
        simp [hF]
    · cases hn : noB L q c with
      | true =>
        rw [hn] at hc
        simp only [if_true] at hc ⊢
        rw [if_pos (.inl hc)]
      | false =>
        rw [hn] at hc
        simp only [Bool.false_eq_true, if_false] at hc ⊢
        cases hT : TI L h (q ++ [c]) with
        | true => simp
        | false =>
          simp only [Bool.false_eq_true, if_false, or_false]
          by_cases h0 : cnt L h (q ++ [c]) = 0
          · rw [if_pos h0]
            cases hH : HF L (q ++ [c]) with
            | true =>
              have := HF_zero hl hl1 hH (by omega)
              rw [hT] at this
              cases this
            | false =>
              simp only [Bool.false_eq_true, if_false]
              omega
          · rw [if_neg h0, frc_fin, if_neg h0, hF, Bool.and_true, Bool.false_or]
            have hle := cin_le (L := L) (h := h) (q := q ++ [c])
            by_cases h1 : cnt L h (q ++ [c]) = 1
            · rw [decide_eq_true h1, fin_true (by omega)]
              cases hH : HF L (q ++ [c]) with
              | true =>
                simp only [if_true]
                have : (fin_ L h (q ++ [c]) false).isSome = true := by
                  cases h with
                  | zero =>
                    rw [HF_leaf hl (by omega)] at hH
                    cases hH
                  | succ h => exact fin_one (by omega) hH hT
                rw [this]
                rfl
              | false =>
                simp only [Bool.false_eq_true, if_false, if_true]
                omega
            · rw [decide_eq_false h1]
              cases hH : HF L (q ++ [c]) with
              | true => rfl
              | false =>
                rw [fin_noHF hl hH (by omega)]
                simp only [Bool.false_eq_true, if_false, Option.isSome_none]
                omega
  | false =>
    have hF2 := hF
    rw [full_is, Bool.or_eq_false_iff] at hF2
    have hT : TI L h (q ++ [c]) = false := by
      cases hT : TI L h (q ++ [c]) with
      | false => rfl
      | true =>
        have := TI_HF hT
        rw [hF2.2] at this
        cases this
    refine .inr ⟨rfl, ?_, ?_, ?_, hT⟩
    · rw [hF2.1, hF2.2]
      rfl
    · rw [hT, hF2.2, hc]
      cases noB L q c <;> rfl
    · rw [frc_fin]
      by_cases h0 : cnt L h (q ++ [c]) = 0
      · rw [if_pos h0, decide_eq_true h0]
        rfl
      · rw [if_neg h0, decide_eq_false h0, hF, Bool.and_false, Bool.false_or, fin_noHF hl hF2.2 (fun e => h0 (by rw [hc, e]; split <;> rfl))]
        rfl
end
theorem TI_of {L : List Look} {w : Nat} (hl : ∀ e ∈ L, e.1.length < w) : ∀ {r p : Bits} {h : Nat}, r ≠ [] → h + p.length = w → fullB L (p ++ r) = true → cnt L (w - (p ++ r).length) (p ++ r) = 0 → TI L h p = true
  | [], _, _, h, _, _, _ => absurd rfl h
  | c :: r, p, h, _, hh, h1, h2 => by
    have hlen := full_len hl h1
    rw [List.length_append, List.length_cons] at hlen
    obtain ⟨n, rfl⟩ : ∃ n, h = n + 1 := ⟨h - 1, by omega⟩
    have hn : n + (p ++ [c]).length = w := by
      rw [List.length_append]
      simp only [List.length_cons, List.length_nil]
      omega
    have e : p ++ c :: r = p ++ [c] ++ r := by simp
    rw [e] at h1 h2
    rw [TI_succ]
    by_cases hr : r = []
    · subst hr
      rw [List.append_nil] at h1 h2
      have : w - (p ++ [c]).length = n := by omega
      rw [this] at h2
      cases c <;> simp [h1, h2]
    · have := TI_of hl hr hn h1 h2
      cases c <;> simp [this]
theorem TI_ex {L : List Look} {w : Nat} : ∀ {h : Nat} {p : Bits}, h + p.length = w → TI L h p = true → ∃ q, fullB L q = true ∧ cnt L (w - q.length) q = 0
  | 0, p, _, h => by cases h
  | n + 1, p, hh, h => by
    have hn : ∀ c, n + (p ++ [c]).length = w := fun c => by
      rw [List.length_append]
      simp only [List.length_cons, List.length_nil]
      omega
    have he : ∀ c, w - (p ++ [c]).length = n := fun c => by have := hn c; omega
    rw [TI_succ] at h
    simp only [Bool.or_eq_true, Bool.and_eq_true, decide_eq_true_eq] at h
    rcases h with ((h | h) | h) | h
    · exact ⟨_, h.1, by rw [he]; exact h.2⟩
    · exact ⟨_, h.1, by rw [he]; exact h.2⟩
    · exact TI_ex (hn false) h
    · exact TI_ex (hn true) h
theorem torn_iff {L : List Look} {w : Nat} (hl : ∀ e ∈ L, e.1.length < w) : (∃ q, fullB L q = true ∧ cnt L (w - q.length) q = 0) ↔ TI L w [] = true :=
  ⟨fun ⟨q, h1, h2⟩ => TI_of (r := q) (p := []) hl (full_ne h1) (by simp) h1 h2, TI_ex (by simp)⟩
/-! ### the law's counting, as it goes -/
def ansA (L : List Look) (q : Bits) : List (Bool × Bool) := ([(false, false), (false, true), (true, false), (true, true)] : List (Bool × Bool)).filter fun p => ansB L q p.1 p.2
def accS (a b : Nat × Nat) (s : Nat × Nat) (p : Bool × Bool) : Nat × Nat := if p.1 || p.2 then (s.1, s.2 + pk a p.1 * pk b p.2) else (s.1 + pk a p.1 * pk b p.2, s.2)
def accW (a b : Nat × Nat) (A : List (Bool × Bool)) : Nat × Nat := A.foldl (accS a b) (0, 0)
end Lw
end

section
/-! a paper in the heap -/
namespace Lw
open PySem L2
def vN (n : Nat) : V := .int (n : Int)
def pfl (w : Nat) (f b s k : Addr) : List (Str × V) := [("width", .int (w : Int)), ("full", .ref f), ("bare", .ref b), ("asked", .ref s), ("known", .ref k)]
structure ClPa (K : PySem.W.Frag) (CP : Addr) : Prop where
  cl : Cls K CP
  n_width : NoAttr K CP "width"
  n_full : NoAttr K CP "full"
  n_bare : NoAttr K CP "bare"
  n_asked : NoAttr K CP "asked"
  n_known : NoAttr K CP "known"
section
variable {K : PySem.W.Frag} {CP a dx f b s k : Addr} {w : Nat} {H : Hp} {Q : VK}
end
/-- what was reckoned -/
structure KnOk (w : Nat) (L : List Look) (kn : List (Bits × Nat)) : Prop where
  nd : (kn.map (·.1)).Nodup
  ok : ∀ p ∈ kn, askedB L p.1 = true ∧ bareB L p.1 = false ∧ p.1.length < w ∧ p.2 = cnt L (w - p.1.length) p.1
/-- a paper, as far as it is asked -/
structure PCt (CP a dx f b s k : Addr) (w : Nat) (L : List Look) (H : Hp) : Prop where
  ob : H a = some (.ins CP dx (pfl w f b s k))
  ba : ∃ ks, H b = some (.dK (tK V.bl (liK ks))) ∧ ∀ q, q ∈ ks ↔ bareB L q = true
  as_ : ∃ ks, H s = some (.dK (tK V.bl (liK ks))) ∧ (∀ q, q ∈ ks ↔ askedB L q = true) ∧ ks.length ≤ 3000
  kn : ∃ kn, H k = some (.dK (tK vN kn)) ∧ KnOk w L kn
  w1 : 1 ≤ w
  w2 : w ≤ 12
  hl : ∀ e ∈ L, e.1.length < w
  nb : k ≠ b
  ns : k ≠ s
  nf : k ≠ f
  fb : f ≠ b
  fs : f ≠ s
def Full (f : Addr) (L : List Look) (H : Hp) : Prop := ∃ ks, H f = some (.dK (tK V.bl (liK ks))) ∧ (∀ q, q ∈ ks ↔ fullB L q = true) ∧ ks.length ≤ 3000
section
variable {CP a dx f b s k : Addr} {w : Nat} {L : List Look} {H H' : Hp}
theorem PCt.ext (h : PCt CP a dx f b s k w L H) (e : Ext H H') : PCt CP a dx f b s k w L H' := by
  obtain ⟨ks, h1, h2⟩ := h.ba
  obtain ⟨ks2, h3, h4⟩ := h.as_
  obtain ⟨kn, h5, h6⟩ := h.kn
  exact ⟨e.st _ _ h.ob nsh_ins, ⟨ks, e.st _ _ h1 nsh_dK, h2⟩, ⟨ks2, e.st _ _ h3 nsh_dK, h4⟩, ⟨kn, e.st _ _ h5 nsh_dK, h6⟩, h.w1, h.w2, h.hl, h.nb, h.ns, h.nf, h.fb, h.fs⟩
theorem Full.ext (h : Full f L H) (e : Ext H H') : Full f L H' := by
  obtain ⟨ks, h1, h2⟩ := h
  exact ⟨ks, e.st _ _ h1 nsh_dK, h2⟩
theorem Full.step {F' : List Addr} (h : Full f L H) (n : k ≠ f) (e : Step [k] F' H H') : Full f L H' := by
  obtain ⟨ks, h1, h2⟩ := h
  exact ⟨ks, e.st _ _ h1 (by simpa using fun e => n e.symm) nsh_dK, h2⟩
theorem PCt.na (h : PCt CP a dx f b s k w L H) : k ≠ a := by
  obtain ⟨kn, h5, _⟩ := h.kn
  rintro rfl
  rw [h.ob] at h5
  cases h5
end
theorem PCt.congr {CP a dx f b s k : Addr} {w : Nat} {L : List Look} {H H' : Hp} (h : PCt CP a dx f b s k w L H) (e : ∀ x, x = a ∨ x = b ∨ x = s ∨ x = k → H' x = H x) : PCt CP a dx f b s k w L H' := by
  obtain ⟨ks, h1, h2⟩ := h.ba
  obtain ⟨ks2, h3, h4⟩ := h.as_
  obtain ⟨kn, h5, h6⟩ := h.kn
  exact ⟨by rw [e a (by simp)]; exact h.ob, ⟨ks, by rw [e b (by simp)]; exact h1, h2⟩, ⟨ks2, by rw [e s (by simp)]; exact h3, h4⟩, ⟨kn, by rw [e k (by simp)]; exact h5, h6⟩, h.w1, h.w2, h.hl, h.nb, h.ns, h.nf, h.fb, h.fs⟩
/-- a new number reckoned -/
theorem PCt.put {CP a dx f b s k : Addr} {w : Nat} {L : List Look} {H : Hp} (h : PCt CP a dx f b s k w L H) {kn : List (Bits × Nat)} (hk : H k = some (.dK (tK vN kn))) (ok : KnOk w L kn) {q : Bits} (h1 : askedB L q = true) (h2 : bareB L q = false) (h3 : q.length < w) :
    KnOk w L (aput kn q (cnt L (w - q.length) q)) ∧ PCt CP a dx f b s k w L (upd H k (.dK (tK vN (aput kn q (cnt L (w - q.length) q))))) ∧ q ∈ (aput kn q (cnt L (w - q.length) q)).map (·.1) := by
  have hok : KnOk w L (aput kn q (cnt L (w - q.length) q)) ∧ q ∈ (aput kn q (cnt L (w - q.length) q)).map (·.1) := by
    by_cases hq : q ∈ kn.map (·.1)
    · refine ⟨⟨by rw [aput_keys hq]; exact ok.nd, fun p hp => ?_⟩, by rw [aput_keys hq]; exact hq⟩
      unfold aput at hp
      rw [if_pos hq] at hp
      obtain ⟨p0, hp0, e⟩ := List.mem_map.mp hp
      by_cases e2 : p0.1 = q
      · rw [if_pos e2] at e
        rw [← e]
        exact ⟨e2 ▸ h1, e2 ▸ h2, e2 ▸ h3, by rw [e2]⟩
      · rw [if_neg e2] at e
        rw [← e]
        exact ok.ok p0 hp0
    · rw [aput_new hq]
      refine ⟨⟨?_, fun p hp => ?_⟩, by simp⟩
      · rw [List.map_append]
        exact List.nodup_append.mpr ⟨ok.nd, by simp, fun x hx y hy e => by
          simp at hy
          subst hy
          subst e
          exact hq hx⟩
      · rcases List.mem_append.mp hp with hp | hp
        · exact ok.ok p hp
        · rw [List.mem_singleton.mp hp]
          exact ⟨h1, h2, h3, rfl⟩
  obtain ⟨ks, b1, b2⟩ := h.ba
  obtain ⟨ks2, a1, a2⟩ := h.as_
  exact ⟨hok.1, ⟨by rw [upd_ne h.na.symm]; exact h.ob, ⟨ks, by rw [upd_ne h.nb.symm]; exact b1, b2⟩, ⟨ks2, by rw [upd_ne h.ns.symm]; exact a1, a2⟩, ⟨_, upd_same, hok.1⟩, h.w1, h.w2, h.hl, h.nb, h.ns, h.nf, h.fb, h.fs⟩, hok.2⟩
theorem KnOk.len {w : Nat} {L : List Look} {kn : List (Bits × Nat)} (h : KnOk w L kn) {ks : List Bits} (hs : ∀ q, q ∈ ks ↔ askedB L q = true) (hz : ks.length ≤ 3000) : kn.length ≤ 3000 := by
  have := nodup_le (kn.map (·.1)) ks h.nd fun x hx => by
    obtain ⟨p, hp, rfl⟩ := List.mem_map.mp hx
    exact (hs _).mpr (h.ok p hp).1
  rw [List.length_map] at this
  omega
theorem KnOk.get {w : Nat} {L : List Look} {kn : List (Bits × Nat)} (h : KnOk w L kn) {q : Bits} (hq : q ∈ kn.map (·.1)) : alook kn q = some (cnt L (w - q.length) q) := by
  obtain ⟨p, hp, rfl⟩ := List.mem_map.mp hq
  obtain ⟨p1, p2⟩ := p
  have := (h.ok _ hp).2.2.2
  have this : p2 = cnt L (w - p1.length) p1 := this
  subst this
  exact alook_of h.nd hp
/-! ### a look in a list -/
def lookV (e : Look) : List V := [.str (B e.1), .bl e.2.1, .bl e.2.2]
/-- a text, a number or a truth -/
def FlatB (v : V) : Prop := FlatV v ∨ ∃ c, v = .bl c
def lkOk (w : Nat) : List V → Bool
  | [.str x, .bl _, .bl _] => bitsS x && decide (x.length < w)
  | _ => false
def badLk (w : Nat) (n : Nat) : List (List V) → Option Nat
  | [] => none
  | xs :: r => if 100 ≤ n ∨ lkOk w xs = false then some n else badLk w (n + 1) r
def toDB : V → PyData
  | .bl c => .bool c
  | v => toD v
theorem FlatB.ok {v : V} (h : FlatB v) : PyData.canLay0 (toDB v) = true ∧ ∀ x, toDB v = .str x → x.length ≤ 100000 := by
  rcases h with (⟨x, rfl, h, hz⟩ | ⟨i, rfl⟩) | ⟨c, rfl⟩
  · exact ⟨h, fun y e => by cases e; exact hz⟩
  · exact ⟨rfl, fun y e => by cases e⟩
  · exact ⟨rfl, fun y e => by cases e⟩
/-! ### what one look brings -/
/-! ### sequences beside what is written -/
section
variable {K : PySem.W.Frag} {F F' : List Addr} {H H' : Hp} {p : Addr} {xs : List V}
end
/-- fewer places changed than told -/
theorem Step.sub {F G : List Addr} {H H' : Hp} (s : Step F F H H') (h : ∀ x ∈ F, x ∈ G) : Step G G H H' := ⟨fun b o hb n ns => s.st b o hb (fun q => n (h b q)) ns, fun b a i m z hb n hi => s.rw_ b a i m z hb (fun q => n (h b q)) hi, s.th, fun b hb => .inl hb⟩
/-! ### looks as data -/
def lookD (e : Look) : PyData := .tuple [db e.1, .bool e.2.1, .bool e.2.2]
theorem paired_map {α β γ : Type} {r : α → γ → Prop} {f : β → γ} : ∀ {l : List α} {m : List β}, Paired r l (m.map f) ↔ Paired (fun a b => r a (f b)) l m
  | [], [] => ⟨fun _ => .nil, fun _ => .nil⟩
  | [], b :: m => ⟨fun h => (by cases h), fun h => (by cases h)⟩
  | a :: l, [] => ⟨fun h => (by cases h), fun h => (by cases h)⟩
  | a :: l, b :: m => by
    rw [List.map_cons]
    constructor
    · intro h
      cases h with
      | cons h t => exact .cons h (paired_map.mp t)
    · intro h
      cases h with
      | cons h t => exact .cons h (paired_map.mpr t)
/-- a list of looks in the heap -/
def LooksAt (K : PySem.W.Frag) (H : Hp) (a : Addr) (L : List Look) : Prop := ∃ ts : List Addr, SqL K H a (ts.map V.ref) ∧ Paired (fun t e => SqT K H t (lookV e)) ts L
theorem LooksAt.steps {K : PySem.W.Frag} {H : Hp} {a : Addr} {L : List Look} (h : LooksAt K H a L) : StepsAt K H a (L.map lookV) := by
  obtain ⟨ts, h1, h2⟩ := h
  exact ⟨ts, h1, paired_map.mpr h2⟩
theorem LooksAt.ext {K : PySem.W.Frag} {H H1 : Hp} {a : Addr} {L : List Look} (h : LooksAt K H a L) (e : Ext H H1) : LooksAt K H1 a L := by
  obtain ⟨ts, h1, h2⟩ := h
  exact ⟨ts, e.seq (nsh_refs _) h1, paired_mono (fun t xs h => e.tup h) h2⟩
end Lw
end

section
/-! comprehensions whose items are new objects; what is known of them is told with the list that is made -/
namespace Lw
open PySem L2
section
variable {σ : L2.St} {H : Hp} {Q : VK} {g : TG} {tt : TT} {te : TE} {vs : List Nat} {j : Nat} {J : It} {n : Nat} {Y : Nat → V → Prop}
/-- .. the items that pass a test -/
theorem lcFy {β : Type} {gv : β → V} {bs : List β} (f : β → Bool) (src : Src J bs.length (fun i x => (bs.map gv)[i]? = some x) H) (nsh : ∀ l : List β, ¬ RowSh (.lst (l.map gv))) (hz : bs.length ≤ 100000) (hw : ∀ x, wipe ((wipe σ vs).set j (some x)) vs = wipe σ vs)
    (hs : ∀ b H' (NF : Hp → Prop) (NE : VK), b ∈ bs → Ext H H' → (f b = false → ∀ H2, Ext H' H2 → NF H2) → (f b = true → ∀ H2, Ext H' H2 → NE (gv b) H2) →
      tt ((wipe σ vs).set j (some (gv b))) H' fun c H3 => if c = true then te ((wipe σ vs).set j (some (gv b))) H3 NE else NF H3)
    (hd : ∀ D H', H D = none → Ext H H' → H' D = some (.lst ((bs.filter f).map gv)) → Q (.ref D) H') : LcB J (gName j) tt te vs σ H Q := by
  refine lcF src (fun i acc => acc = ((bs.take i).filter f).map gv) rfl (fun i acc h => by rw [h]; exact nsh _) hz hw (fun i x acc H' NF NE hi hY ha e kF kE => ?_) fun D acc H' ha hD e hDa _ => ?_
  · rw [List.getElem?_map] at hY
    cases hb : bs[i]? with
    | none => rw [hb] at hY; cases hY
    | some b =>
      rw [hb] at hY
      cases hY
      have htk : bs.take (i + 1) = bs.take i ++ [b] := by rw [List.take_succ, hb]; rfl
      refine hs b H' NF NE (List.mem_of_getElem? hb) e (fun hf H2 e2 => kF H2 e2 ?_) fun hf H2 e2 => kE _ H2 e2 ?_
      · rw [ha, htk, List.filter_append]
        simp [hf]
      · rw [ha, htk, List.filter_append]
        simp [hf]
  · refine hd D H' hD e ?_
    rw [hDa, ha, List.take_length]
theorem lcFx {K : PySem.W.Frag} {β : Type} {a : Addr} {gv : β → V} {bs : List β} (f : β → Bool) (hseq : SqL K H a (bs.map gv)) (nsh : ∀ l : List β, ¬ RowSh (.lst (l.map gv))) (hz : bs.length ≤ 100000) (hw : ∀ x, wipe ((wipe σ vs).set j (some x)) vs = wipe σ vs)
    (hs : ∀ b H' (NF : Hp → Prop) (NE : VK), b ∈ bs → Ext H H' → (f b = false → ∀ H2, Ext H' H2 → NF H2) → (f b = true → ∀ H2, Ext H' H2 → NE (gv b) H2) →
      tt ((wipe σ vs).set j (some (gv b))) H' fun c H3 => if c = true then te ((wipe σ vs).set j (some (gv b))) H3 NE else NF H3)
    (hd : ∀ D H', H D = none → Ext H H' → H' D = some (.lst ((bs.filter f).map gv)) → Q (.ref D) H') : LcB (Itl K a) (gName j) tt te vs σ H Q :=
  lcFy f (by have := src_lst hseq (nsh bs); rwa [List.length_map] at this) nsh hz hw hs hd
end
end Lw
end

section
/-! lambdas as values: made, kept in lists, handed to a def that calls them; one parameter with the default 0 -/
namespace Lw
open PySem PySem.Spec PyProof.Rows L2 LamX
/-- captured names, globals, parameters of its own that the maker (whose names are N) does not have -/
structure LamD (N : List Str) (sc scope : Scope) : Prop where
  kind : scope.kind = .function
  co : scope.isCoroutine = false
  gen : scope.isGenerator = false
  nocell : ∀ y ∈ scope.names, y.2 ≠ .cell
  own : ∀ y ∈ scope.names, y.2 = .local → y.1 ∉ N
  free : ∀ y ∈ scope.names, y.2 = .free → sc.names.lookup y.1 = some .cell ∨ sc.names.lookup y.1 = some .free
def lamDB (N : List Str) (sc scope : Scope) : Bool :=
  decide (scope.kind = .function) && !scope.isCoroutine && !scope.isGenerator && scope.names.all fun y => !decide (y.2 = .cell) && (!decide (y.2 = .local) || !decide (y.1 ∈ N)) && (!decide (y.2 = .free) || decide (sc.names.lookup y.1 = some .cell) || decide (sc.names.lookup y.1 = some .free))
theorem lamD_by {N : List Str} {sc scope : Scope} (h : lamDB N sc scope = true) : LamD N sc scope := by
  unfold lamDB at h
  simp only [Bool.and_eq_true, Bool.or_eq_true, Bool.not_eq_true', decide_eq_true_eq, decide_eq_false_iff_not, List.all_eq_true] at h
  obtain ⟨⟨⟨a1, a2⟩, a3⟩, a4⟩ := h
  exact ⟨a1, a2, a3, fun y hy => (a4 y hy).1.1, fun y hy e => (a4 y hy).1.2.resolve_left fun z => z e, fun y hy e => by
    rcases (a4 y hy).2 with (z | z) | z
    · exact (z e).elim
    · exact .inl z
    · exact .inr z⟩
theorem LamD.has {X : Cx} {scope : Scope} (L : LamD X.N X.env.scope scope) (ok : X.Ok) : ∀ y ∈ scope.names, y.2 = .free → ∃ c, X.env.cells.lookup y.1 = some c := fun y hy e => (L.free y hy e).elim (fun z => ok.has _ (.inl z)) fun z => ok.has _ (.inr z)
/-- the function object at f -/
def LamO (f : Addr) (q : Str) (params : Arguments) (body : Expr) (scope : Scope) (cl : List (Str × Addr)) (dV : Value) (c' : Addr) : HO :=
  .ext fun h => ∃ doc pm ctv : Value, h.get? f = some (PySem.W.kdv_obj "<lambda>" q params (.expr body) scope cl dV doc pm c' ctv)
/-- its default: none, or 0 -/
def DflO (H : Hp) (dV : Value) : Prop := dV = .none ∨ ∃ T, dV = .ref T ∧ H T = some (.tup [.int 0])
/-- what a call without arguments binds -/
def BndO (q : Str) (params : Arguments) (body : Expr) (scope : Scope) (cl : List (Str × Addr)) (dV : Value) (c' : Addr) : Prop :=
  ∀ (s : Shared) (doc pm ctv : Value), (∀ T, dV = .ref T → ∃ o tk n, s.heap.get? T = some o ∧ o.data = .seq #[Value.int 0 tk] n) → ∃ binds, BindsTo s (PySem.W.kdv_fn "<lambda>" q params (.expr body) scope cl dV doc pm (.ref c') ctv) ⟨[], []⟩ binds ∧ ∀ y ∈ binds, scope.names.lookup y.1 = some .local
/-- at f stands a lambda of the def X that does t -/
structure Lam (X : Cx) (k : Nat) (H : Hp) (f : Addr) (t : XK → TE) : Prop where
  ex : ∃ (params : Arguments) (body : Expr) (scope : Scope) (dV : Value) (c' : Addr), LamD X.N X.env.scope scope ∧ H f = some (LamO f (X.env.qual ++ "<lambda>") params body scope (cloFrom X.env.cells scope.names []) dV c') ∧ H c' = some (CodeO c' (X.env.qual ++ "<lambda>")) ∧ DflO H dV ∧
    BndO (X.env.qual ++ "<lambda>") params body scope (cloFrom X.env.cells scope.names []) dV c' ∧
    ∀ (A : Around) (outer : List Env) (s : Shared) (H : Hp) (E : XK) (f c' : Addr), Room k (A.deeper (lamEnv X scope s.heap.objs.size f c')) → PE (lamCx X A outer s H E scope f c') body (t E)
theorem Lam.st {X : Cx} {k : Nat} {H H' : Hp} {f : Addr} {t : XK → TE} (h : Lam X k H f t) (st : ∀ b o, H b = some o → ((∃ φ, o = .ext φ) ∨ ∃ xs, o = .tup xs) → H' b = some o) : Lam X k H' f t := by
  obtain ⟨params, body, scope, dV, c', a1, a2, a3, a4, a5, a6⟩ := h.ex
  refine ⟨params, body, scope, dV, c', a1, st _ _ a2 (.inl ⟨_, rfl⟩), st _ _ a3 (.inl ⟨_, rfl⟩), ?_, a5, a6⟩
  rcases a4 with e | ⟨T, e, hT⟩
  · exact .inl e
  · exact .inr ⟨T, e, st _ _ hT (.inr ⟨_, rfl⟩)⟩
section
variable {X : Cx} {pins : List (Addr × Obj)} {σ : L2.St} {H HZ : Hp} {s s1 : Shared}
/-- the last part of the making: the code object is new, or found in the table; the function object is known from now on -/
theorem lam_tail {T : List (Addr × Str)} {c P : Addr} {params : Arguments} {body : Expr} {scope : Scope} {dV : Value} {pos : Pos} {E : Value → Shared → Prop} {Q : Value → Shared → Prop} (I : Inv X pins σ H s) (TB : TabB X.base X.mg c P) (hcode : X.env.code = .ref c)
    (hmem : (P, X.env.qual ++ "<lambda>") ∈ T) (huni : ∀ p ∈ T, p.1 = P → p.2 = X.env.qual ++ "<lambda>") (hT : Tabs T H) (hfree : ∀ y ∈ scope.names, y.2 = .free → ∃ c, X.env.cells.lookup y.1 = some c)
    (go : ∀ (f c' : Addr) (H1 : Hp) (s' : Shared), Inv X pins σ H1 s' → ExtN H H1 → Tabs T H1 → H f = none → H1 f = some (LamO f (X.env.qual ++ "<lambda>") params body scope (cloFrom X.env.cells scope.names []) dV c') → H1 c' = some (CodeO c' (X.env.qual ++ "<lambda>")) → Q (.ref f) s') :
    wpAny (model X.prog X.w) X.A (makeTail "<lambda>" (X.env.qual ++ "<lambda>") params (.expr body) scope X.env dV .none none pos pos.line) Q E s := by
  obtain ⟨ps, hP, ht, known⟩ := hT _ hmem
  have bP : s.heap.BuiltinsAt X.mg P := TB.bm.keeps I.bk
  have raw : s.heap.get? P = some { cls := .none, data := .fields ps } := I.hok P _ hP
  -- the function object, laid last
  have last : ∀ {H1 : Hp} {h1 : Heap} {t1 : Nat} {c' : Addr} {doc pm ctv : Value}, Inv X pins σ H1 { s with heap := h1, toks := t1 } → ExtN H H1 → Tabs T H1 → H h1.objs.size = none → H1 c' = some (CodeO c' (X.env.qual ++ "<lambda>")) →
      Q (.ref h1.objs.size) { s with heap := h1.push (PySem.W.kdv_obj "<lambda>" (X.env.qual ++ "<lambda>") params (.expr body) scope (cloFrom X.env.cells scope.names []) dV doc pm c' ctv), toks := t1 } := fun {H1 h1 t1 c' doc pm ctv} I1 eN T1 nf hc => by
    have nf1 : H1 h1.objs.size = none := I1.hok.fresh (Nat.le_refl _)
    have got : (h1.push (PySem.W.kdv_obj "<lambda>" (X.env.qual ++ "<lambda>") params (.expr body) scope (cloFrom X.env.cells scope.names []) dV doc pm c' ctv)).get? h1.objs.size = some (PySem.W.kdv_obj "<lambda>" (X.env.qual ++ "<lambda>") params (.expr body) scope (cloFrom X.env.cells scope.names []) dV doc pm c' ctv) := Heap.get?_push_size _ rfl
    have I2 := I1.laid (a := h1.objs.size) (t' := t1) (o := LamO h1.objs.size (X.env.qual ++ "<lambda>") params body scope (cloFrom X.env.cells scope.names []) dV c') (fun b u e => Heap.get?_push_of_some _ e) (Nat.le_refl _)
      ⟨⟨doc, pm, ctv, got⟩, ⟨_, got⟩, fun h1 h2 ⟨d, p, t, z⟩ st => ⟨d, p, t, st _ z⟩⟩
    have keep : ∀ b o, H1 b = some o → upd H1 h1.objs.size (LamO h1.objs.size (X.env.qual ++ "<lambda>") params body scope (cloFrom X.env.cells scope.names []) dV c') b = some o := fun b o e => by rw [upd_ne (ne_of_none e nf1)]; exact e
    exact go _ c' _ _ I2 (eN.trans (ExtN.of keep)) (T1.ext keep) nf upd_same (keep _ _ hc)
  cases hc : codeAmong pos ps.toList with
  | none =>
    refine PySem.W.kdv_makeTail (mg := X.mg) (c := c) (P := P) (ps := ps) (closure_ok hfree) I.ok.glob (I.mod.glob.keeps I.bk) hcode (TB.code.keeps I.bk) raw ht hc TB.gP bP fun c' ctv doc h' tk hx hge hlt hrec htb => ?_
    obtain ⟨c2, oc, vs, t, e2, o1, o2, o3⟩ := hrec
    cases e2
    have nC : H c' = none := I.hok.fresh hge
    have I1 := inv_table (t' := tk) (more := #[rawInt pos.line, rawInt pos.col, .ref c']) (h' := h') (q := X.env.qual ++ "<lambda>") I hP (fun b o hb e => hx b o hb e) htb hge ⟨oc, vs, t, o1, o2, o3⟩
    have grown : (ps ++ #[rawInt pos.line, rawInt pos.col, .ref c']).toList = ps.toList ++ [rawInt pos.line, rawInt pos.col, .ref c'] := by simp
    have eN : ExtN H (upd (upd H P (.tbl (ps ++ #[rawInt pos.line, rawInt pos.col, .ref c']))) c' (CodeO c' (X.env.qual ++ "<lambda>"))) := fun b o e n => by
      have n2 : b ≠ P := fun z => n ps (Option.some.inj (e.symm.trans (z ▸ hP)))
      rw [upd_ne (ne_of_none e nC), upd_ne n2, e]
    refine last I1 eN (fun p hp => ?_) (I.hok.fresh (Nat.le_trans hge (Nat.le_of_lt hlt))) upd_same
    by_cases hb : p.1 = P
    · rw [huni p hp hb, hb]
      refine ⟨_, (upd_ne (ne_of_none hP nC)).trans upd_same, grown ▸ PySem.TriplesOk_snoc _ _ _ _ ht, fun at_ cv hcv => ?_⟩
      rw [grown] at hcv
      rcases among_app _ ht hcv with z | rfl
      · obtain ⟨c0, e1, e2⟩ := known at_ cv z
        exact ⟨c0, e1, eN _ _ e2 codeO_ne⟩
      · exact ⟨c', rfl, upd_same⟩
    · obtain ⟨qs, b1, b2, b3⟩ := hT p hp
      refine ⟨qs, (upd_ne (ne_of_none b1 nC)).trans ((upd_ne hb).trans b1), b2, fun at_ cv hcv => ?_⟩
      obtain ⟨c0, e1, e2⟩ := b3 at_ cv hcv
      exact ⟨c0, e1, eN _ _ e2 codeO_ne⟩
  | some cv =>
    obtain ⟨c', rfl, hco⟩ := known pos cv hc
    refine PySem.W.kdv_makeTailHit (mg := X.mg) (c := c) (P := P) (ps := ps) (closure_ok hfree) I.ok.glob (I.mod.glob.keeps I.bk) hcode (TB.code.keeps I.bk) raw ht hc bP fun ctv doc h' tk hx hsz => ?_
    exact last (I.kept hx) (ExtN.refl H) hT (I.hok.fresh hsz) hco
def tLamV (X : Cx) (T : List (Addr × Str)) (k : Nat) (t : XK → TE) : TE := fun σ H Q => Tabs T H ∧ ∀ (f : Addr) (H1 : Hp), ExtN H H1 → Tabs T H1 → H f = none → Lam X k H1 f t → Q (.ref f) H1
/-- lambda: body -/
theorem pe_lam0 {T : List (Addr × Str)} {c P : Addr} {k : Nat} {params : Arguments} {body : Expr} {scope : Scope} {t : XK → TE} {lpos : Pos} (TB : TabB X.base X.mg c P) (hcode : X.env.code = .ref c) (hmT : (P, X.env.qual ++ "<lambda>") ∈ T) (hu : ∀ p ∈ T, p.1 = P → p.2 = X.env.qual ++ "<lambda>")
    (L : LamD X.N X.env.scope scope) (hdef : defaultsOf params X.env = ([], [])) (hb : ∀ (q : Str) (cl : List (Str × Addr)) (doc pm cv ctv : Value), bindArgs (PySem.W.kdv_fn "<lambda>" q params (.expr body) scope cl .none doc pm cv ctv) ⟨[], []⟩ = pure [])
    (hbody : ∀ (A : Around) (outer : List Env) (s : Shared) (H : Hp) (E : XK) (f c' : Addr), Room k (A.deeper (lamEnv X scope s.heap.objs.size f c')) → PE (lamCx X A outer s H E scope f c') body (t E)) : PE X (.Lambda params body scope lpos) (tLamV X T k t) := by
  refine ⟨fun pins s σ H Q I ⟨hT, h⟩ => PySem.W.kla_eval hdef ?_⟩
  rw [makeFunction_eq]
  simp only [List.zip_nil_right, List.filterMap_nil, List.isEmpty_nil, if_true, pure_bind]
  refine lam_tail (dV := .none) I TB hcode hmT hu hT (L.has I.ok) fun f c' H1 s' I1 eN T1 nf hf hc => ⟨.ref f, H1, I1, rfl, h f H1 eN T1 nf ⟨params, body, scope, .none, c', L, hf, hc, .inl rfl, fun s doc pm ctv _ => ⟨[], BindsTo.of_eq (hb _ _ _ _ _ _), fun y hy => absurd hy (by simp)⟩, hbody⟩⟩
/-- lambda p=0: body -/
theorem pe_lam1 {T : List (Addr × Str)} {c P : Addr} {k : Nat} {params : Arguments} {body : Expr} {scope : Scope} {t : XK → TE} {lpos dp : Pos} {j : Tok} {p : Str} (TB : TabB X.base X.mg c P) (hcode : X.env.code = .ref c) (hmT : (P, X.env.qual ++ "<lambda>") ∈ T) (hu : ∀ p ∈ T, p.1 = P → p.2 = X.env.qual ++ "<lambda>")
    (L : LamD X.N X.env.scope scope) (hd : params.defaults = [.Constant (.int 0) j dp]) (hk : params.kw_defaults = []) (hl : scope.names.lookup p = some .local)
    (hb : ∀ (q : Str) (cl : List (Str × Addr)) (T : Addr) (doc pm cv ctv : Value), ∃ kk : Option (Array Value) → Sem (List (Str × Value)), bindArgs (PySem.W.kdv_fn "<lambda>" q params (.expr body) scope cl (.ref T) doc pm cv ctv) ⟨[], []⟩ = (seqItems? (.ref T) >>= kk) ∧ ∀ v, kk (some #[v]) = pure [(p, v)])
    (hbody : ∀ (A : Around) (outer : List Env) (s : Shared) (H : Hp) (E : XK) (f c' : Addr), Room k (A.deeper (lamEnv X scope s.heap.objs.size f c')) → PE (lamCx X A outer s H E scope f c') body (t E)) : PE X (.Lambda params body scope lpos) (tLamV X T k t) := by
  refine ⟨fun pins s σ H Q I ⟨hT, h⟩ => PySem.W.kdv_lam (by rw [hd]; rfl) hk ?_⟩
  rw [hd]
  refine PySem.W.kdv_all1 (thn ((pe_int (X := X)).run pins s σ H (fun v H1 => v = .int 0 ∧ H1 = H) I ⟨rfl, rfl⟩) fun u s1 ⟨v, H1, I1, r1, q1⟩ => ?_)
  obtain ⟨rfl, rfl⟩ := q1
  refine PySem.W.kdv_all0 ?_
  obtain ⟨tk, rfl⟩ := r1
  rw [makeFunction_eq]
  simp only [List.zip_nil_right, List.filterMap_nil, List.isEmpty_nil, List.isEmpty_cons, Bool.false_eq_true, if_false, if_true, pure_bind]
  refine wpAny_bind (wpAny_newTextTuple ?_)
  have nT : H1 s1.heap.objs.size = none := I1.hok.fresh (Nat.le_refl _)
  have I2 := I1.laid (a := s1.heap.objs.size) (t' := s1.toks) (o := .tup [.int 0]) (h' := s1.heap.push { cls := .type "tuple", data := .seq [Value.int 0 tk].toArray }) (fun b u e => Heap.get?_push_of_some _ e) (Nat.le_refl _) ⟨by decide, [Value.int 0 tk], .cons ⟨tk, rfl⟩ .nil, _, Heap.get?_push_size _ rfl, rfl, _, rfl⟩
  have keep : ∀ b o, H1 b = some o → upd H1 s1.heap.objs.size (.tup [.int 0]) b = some o := fun b o e => by rw [upd_ne (ne_of_none e nT)]; exact e
  refine lam_tail (dV := .ref s1.heap.objs.size) I2 TB hcode hmT hu (hT.ext keep) (L.has I.ok) fun f c' H3 s' I3 eN T1 nf hf hc => ⟨.ref f, H3, I3, rfl, h f H3 ((ExtN.of keep).trans eN) T1 ?_ ⟨params, body, scope, .ref s1.heap.objs.size, c', L, hf, hc, .inr ⟨_, rfl, eN _ _ upd_same (fun ps z => by cases z)⟩, fun s doc pm ctv hs => ?_, hbody⟩⟩
  · cases e : H1 f with
    | none => rfl
    | some o => rw [keep _ _ e] at nf; cases nf
  · obtain ⟨o, tk2, n, o1, o2⟩ := hs _ rfl
    obtain ⟨kk, k1, k2⟩ := hb (X.env.qual ++ "<lambda>") (cloFrom X.env.cells scope.names []) s1.heap.objs.size doc pm (.ref c') ctv
    refine ⟨[(p, .int 0 tk2)], BindsTo.of_defaults rfl o1 o2 k1 (k2 _), fun y hy => ?_⟩
    rw [List.mem_singleton.mp hy]
    exact hl
/-- the lambda's body is entered -/
theorem lam_startD {A : Around} {outer : List Env} {E : XK} {scope : Scope} {f c' : Addr} {h₁ : Heap} {tk : Nat} {m : Str → Option Value} (I : Inv X pins σ H s) (L : LamD X.N X.env.scope scope) (e0 : Env0 X.prog X.w X.K X.mg X.base A outer s1 HZ) (hd : A.handled = none)
    {fs : List Addr} (un : Un fs [] H HZ s.heap s1.heap) (hns : h₁.Ns s1.heap.objs.size m) (kp : ∀ b o, s1.heap.get? b = some o → h₁.get? b = some o) :
    Inv (lamCx X A outer s1 HZ E scope f c') [] σ HZ { s1 with heap := h₁, toks := tk } := by
  have avail := L.has I.ok
  have down : ∀ {y c}, (cloFrom X.env.cells scope.names []).lookup y = some c → X.env.cells.lookup y = some c := fun {y c} e => by
    rcases cloFrom_mem (PySem.mem_of_lookup e) with hm | ⟨h1, h2⟩
    · cases hm
    · obtain ⟨c1, hc⟩ := avail _ h1 rfl
      have hc : X.env.cells.lookup y = some c1 := hc
      have e2 : c = c1 := by
        rw [h2, hc] <;> rfl
      exact e2 ▸ hc
  have look : ∀ {y}, scope.names.lookup y = some .free → ∃ c, (cloFrom X.env.cells scope.names []).lookup y = some c := fun {y} hl => mem_lookup (cloFrom_has (cells := X.env.cells) (acc := []) (show (y, NameKind.free) ∈ scope.names from PySem.mem_of_lookup hl))
  have cellK : ∀ {c : Addr} {v : Option Value}, H c = none → s.heap.IsCell c v → h₁.IsCell c v := fun {c v} n ⟨o, ho, hd⟩ => by
    obtain ⟨sl, q⟩ := un.any ho n (by simp)
    exact ⟨_, kp _ _ q, hd⟩
  have noX : ∀ b : Addr, b ∉ (lamCx X A outer s1 HZ E scope f c').ex := fun b z => (List.not_mem_nil z).elim
  have okk : (lamCx X A outer s1 HZ E scope f c').Ok := ⟨e0.mod, L.kind, rfl, rfl, Nat.le_refl _, fun y z c e1 e2 => I.ok.inj y z c (down e1) (down e2), fun y hy => (show scope.names.lookup y = some .cell ∨ scope.names.lookup y = some .free from hy).elim (fun z => absurd rfl (L.nocell _ (PySem.mem_of_lookup z))) look,
    fun y c z _ => (show False from by have z : false = true := z; cases z).elim, fun _ => hd, Around.frames_deeper e0.frames, .inr ⟨rfl, rfl⟩, fun b z => absurd z (noX b), e0.bs, e0.bsz, fun b _ _ => noX b, fun b z => absurd z (noX b), e0.funs, e0.frf⟩
  refine ⟨okk, rfl, e0.bare, Un.kept kp, ⟨m, hns, fun i y v e1 e2 e3 => ?_⟩, fun y c e => ?_, e0.hok.fresh (Nat.le_refl _), fun y c e => ?_, fun q hq => absurd (show q ∈ ([] : List (Addr × Obj)) ++ [] from hq) (by simp), e0.hok.kept kp, I.len⟩
  · have e1 : X.N[i]? = some y := e1
    have e3 : Vis scope y := e3
    rcases e3 with z | z | z
    · exact absurd (List.mem_of_getElem? e1) (L.own _ (PySem.mem_of_lookup z) rfl)
    · exact absurd rfl (L.nocell _ (PySem.mem_of_lookup z))
    · obtain ⟨mX, _, hl⟩ := I.loc
      have fr := L.free _ (PySem.mem_of_lookup z) rfl
      obtain ⟨w', r, q⟩ := hl i y v e1 e2 (fr.elim (fun z => .inr (.inl z)) fun z => .inr (.inr z))
      obtain ⟨c2, h2⟩ := look z
      refine ⟨w', r, .inr ⟨.inr z, c2, h2, ?_⟩⟩
      rcases q with ⟨loc, _⟩ | ⟨_, c3, e', z'⟩
      · have loc : X.env.scope.names.lookup y = some .local := loc
        rcases fr with fr | fr <;> rw [show X.env.scope.names.lookup y = _ from fr] at loc <;> cases loc
      · rw [down h2] at e'
        cases e'
        exact cellK (I.freeC y _ (down h2)) z'
  · obtain ⟨w', z⟩ := I.cell y c (down e)
    exact ⟨w', cellK (I.freeC y c (down e)) z⟩
  · obtain ⟨v, o, ho, hd⟩ := I.cell y c (down e)
    exact un.free c o ho (I.freeC y c (down e)) (by simp)
/-- a(), in the def that got the lambda -/
theorem pe_actD {stk : List Env} {CXg : CXT} {Eg : XK} {Ng : List Str} {qg : Str} {sg : Scope} {g f c' : Addr} {cdg dV : Value} {params : Arguments} {body : Expr} {scope : Scope} {k i : Nat} {a : Str} {pn : List (Addr × Obj)} {xe : Value → Shared → Prop} {W : WX} {E : XK} {tb : TE} {p1 p2 : Pos}
    (I : Inv X pins σ H s) (L : LamD X.N X.env.scope scope) (hB : BndO (X.env.qual ++ "<lambda>") params body scope (cloFrom X.env.cells scope.names []) dV c')
    (tk : Takes ((cxOf CXg X.prog X.w X.K X.mg X.base Ng qg sg g cdg X.A stk s H Eg).tr pn xe) W) (hW : ∀ cls d σ' H', E cls d H' → W cls d σ' H') (hr : Room (k + 1) (X.A.deeper (envOfC qg sg s.heap.objs.size g cdg)))
    (hbody : ∀ (A : Around) (outer : List Env) (s : Shared) (H : Hp), Room k (A.deeper (lamEnv X scope s.heap.objs.size f c')) → PE (lamCx X A outer s H E scope f c') body tb)
    (hN : Ng[i]? = some a) (hv : Vis sg a) (hd : (a == ("__debug__" : Str)) = false := by decide) (hcd : (a == ("__classdict__" : Str)) = false := by decide) :
    PE ((cxOf CXg X.prog X.w X.K X.mg X.base Ng qg sg g cdg X.A stk s H Eg).tr pn xe) (.Call (.Name a p1) [] [] p2)
      (fun σZ HZ Q => σZ[i]? = some (some (.ref f)) ∧ (HZ f = some (LamO f (X.env.qual ++ "<lambda>") params body scope (cloFrom X.env.cells scope.names []) dV c') ∧ HZ c' = some (CodeO c' (X.env.qual ++ "<lambda>")) ∧ DflO HZ dV) ∧ tb σ HZ Q) := by
  refine ⟨fun pinsZ sZ σZ HZ Q IZ ⟨hs, ⟨hf, hc, hD⟩, ht⟩ => ?_⟩
  refine wpAny_Call_Name_kw (thn ((pe_var (pos := p1) (i := i) hN hv hd hcd).run pinsZ sZ σZ HZ (fun v H1 => v = .ref f ∧ H1 = HZ) IZ ⟨.ref f, hs, rfl, rfl⟩) fun u s1 ⟨v, H1, I1, r1, ev, eH⟩ => ?_)
  subst ev
  rw [eH] at I1
  obtain rfl : u = Value.ref f := r1
  obtain ⟨⟨doc, pm, ctv, of1⟩, _, _⟩ := I1.hok f _ hf
  refine PySem.W.callWith_F0 ⟨_, _, _, _, of1⟩ ?_
  have un : Un (frs stk) [] H HZ s.heap s1.heap := I1.base
  obtain ⟨⟨oc, vs, t, hoc, hdc, hvc⟩, _, _⟩ := I1.hok c' _ hc
  obtain ⟨binds, bt, bl⟩ := hB s1 doc pm ctv fun T eT => by
    rcases hD with e | ⟨T2, e, hT⟩
    · rw [e] at eT; cases eT
    · rw [e] at eT
      cases eT
      obtain ⟨_, its, rv, o, o1, _, n, o3⟩ := I1.hok T _ hT
      obtain ⟨x, rfl, hx⟩ : ∃ x, its = [x] ∧ RelV (.int 0) x := by
        cases rv with
        | cons r0 rr =>
          cases rr with
          | nil => exact ⟨_, rfl, r0⟩
      obtain ⟨tk0, rfl⟩ := hx
      exact ⟨o, tk0, n, o1, o3⟩
  have rc : codeAny (model X.prog X.w) (X.A.deeper (envOfC qg sg s.heap.objs.size g cdg)) (.call (.ref f) ⟨[], []⟩) (CR (L2.CX X.prog X.w) (envOfC qg sg s.heap.objs.size g cdg :: stk) X.prog X.w HZ s1 Q E) s1 := by
    refine PySem.W.kla_callFunE hr.depth of1 rfl L.co L.gen rfl ⟨c', oc, vs, t, rfl, hoc, hdc, hvc⟩ (bt _ _ _ _ ?_)
    refine wpAny_newFunctionEnv L.nocell bl (fun h₁ hns hsb => ⟨I1.nolimit.fresh _ hsb, ?_⟩) L.kind
    show codeAny _ _ (.expr body (lamEnv X scope s1.heap.objs.size f c')) _ _
    have J : Inv (lamCx X (X.A.deeper (envOfC qg sg s.heap.objs.size g cdg)) (envOfC qg sg s.heap.objs.size g cdg :: stk) s1 HZ E scope f c') [] σ HZ { s1 with heap := h₁, toks := s1.toks + binds.length } :=
      lam_startD I L I1.env0 hr.hd un hns fun b o e => hsb.extBut b o (Nat.ne_of_lt (Heap.lt_size e)) (Heap.get?_push_of_some _ e)
    refine PySem.W.kla_codeExpr (wpAny_mono ((hbody _ _ s1 HZ (hr.deeper _)).run [] _ _ HZ Q J ht) (fun v s' ⟨w', H', J', rv, q⟩ => ⟨w', H', J'.os, J'.bare, J'.base, J'.hok, rv, q⟩) fun e s' hq => hq)
  have hx : Passes (L2.CX X.prog X.w) ((cxOf CXg X.prog X.w X.K X.mg X.base Ng qg sg g cdg X.A stk s H Eg).tr pn xe) E := passes_call tk hW
  refine wpAny_call (codeAny_mono rc fun r s' hq => ?_)
  match r, hq with
  | .error e, hq => exact hx pinsZ σZ HZ s1 e s' I1 hq
  | .ok (.ret u), hq => exact I1.after hq
  | .ok .next, hq => exact hq.elim
  | .ok .brk, hq => exact hq.elim
  | .ok .cont, hq => exact hq.elim
/-- the def that calls what it got, whatever is known of it -/
def GivesR (X : Cx) (Ng : List Str) (x : Str) (sg : Scope) (g : Addr) (cdg : Value) (bg : List Stmt) (a : Str) (TT : (XK → Hp → VK → Prop) → Hp → VK → Prop) : Prop :=
  ∀ (R : Hp → Prop) (f : Addr) (s : Shared) (H : Hp) (Q : VK) (tl : XK → Hp → VK → Prop),
    (∀ (W : WX) (pn : List (Addr × Obj)) (xe : Value → Shared → Prop) (E : XK) (p1 p2 : Pos), Takes ((cxOf C8.CX0 X.prog X.w X.K X.mg X.base Ng x sg g cdg X.A X.stack s H C8.E0).tr pn xe) W → (∀ cls d σ' H', E cls d H' → W cls d σ' H') →
      PE ((cxOf C8.CX0 X.prog X.w X.K X.mg X.base Ng x sg g cdg X.A X.stack s H C8.E0).tr pn xe) (.Call (.Name a p1) [] [] p2) (fun σZ HZ Q => σZ[0]? = some (some (.ref f)) ∧ R HZ ∧ tl E HZ Q)) →
    R H → TT tl H Q → ∃ t, PSs (cxOf C8.CX0 X.prog X.w X.K X.mg X.base Ng x sg g cdg X.A X.stack s H C8.E0).nox bg t ∧ t { nx := fun _ H' => Q .non H', rt := Q } (L2.start Ng [.ref f]) H
def tWork (X : Cx) (k : Nat) (TT : (XK → Hp → VK → Prop) → Hp → VK → Prop) (te : TE) : TE := fun σ H Q => te σ H fun v H1 => ∃ (f : Addr) (t : XK → TE), v = .ref f ∧ Lam X k H1 f t ∧ TT (fun E H' Q' => t E σ H' Q') H1 Q
/-- x(e): e is a lambda -/
theorem pe_work {TT : (XK → Hp → VK → Prop) → Hp → VK → Prop} {x a : Str} {g : Addr} {k : Nat} {pg : Arguments} {bg : List Stmt} {sg : Scope} {dV kV doc pm cdv ct oc : Value} {an od : Option Addr} {osl : Array (Option Value)} {Ng : List Str}
    {e : Expr} {te : TE} {p pos : Pos} (hg : Gl X x) (hm : X.mg x = some (.ref g)) (hk : PySem.W.keepIn X.K (.ref g) = true)
    (lk : X.K.lookup g = some ⟨oc, od, .func (PySem.W.fnOf x x pg bg sg dV kV doc pm an cdv ct), osl⟩) (hcg : PySem.W.codeIn X.K cdv x = true) (hb : L2.Binds X.K (PySem.W.fnOf x x pg bg sg dV kV doc pm an cdv ct) [a] []) (Sg : FnScope Ng [a] sg) (hNg : Ng[0]? = some a) (hva : Vis sg a)
    (hG : GivesR X Ng x sg g cdv bg a TT) (hr : Room (k + 2) X.A) (he : PE X e te) (hs : starEach [e] X.env = (false, eval e X.env) :: starEach [] X.env := by rfl)
    (hdb : (x == ("__debug__" : Str)) = false := by decide) (hd : (a == ("__debug__" : Str)) = false := by decide) (hcd : (a == ("__classdict__" : Str)) = false := by decide) :
    PE X (.Call (.Name x p) [e] [] pos) (tWork X k TT te) := by
  refine ⟨fun pins s σ H Q I h => wpAny_Call_Name_kw (ld_glob I hg hm ?_ hdb)⟩
  refine PySem.W.callWith_K (h₀ := X.base) I.ok.mod.kin hk ?_ hs (by rfl)
  rw [hs]
  show wpAny _ _ (spliced ((false, eval e X.env) :: backTo pos (starEach [] X.env))) _ _ s
  refine Calls.spliced_cons (thn (he.run pins s σ H _ I h) fun u s' ⟨v, H1, I1, r1, f, t, ev, M, hT⟩ => ?_)
  subst ev
  obtain rfl : u = Value.ref f := r1
  refine Calls.spliced_nil ⟨I1.kIn, ?_⟩
  obtain ⟨params, body, scope, dL, c', L, m1, m2, m3, hB, hbody⟩ := M.ex
  have rc : codeAny (model X.prog X.w) X.A (.call (.ref g) ⟨[.ref f], []⟩) (CR C8.CX0 X.stack X.prog X.w H1 s' Q C8.E0) s' := by
    refine run_ofS (N := Ng) (ps := [a]) (us := [.ref f]) (vs := [.ref f]) lk hcg Sg hr I1.env0 (hb s' [.ref f] I1.kIn rfl) (.cons rfl .nil) rfl fun hr' => ?_
    obtain ⟨t', ht', hq'⟩ := hG (fun HZ => HZ f = some (LamO f (X.env.qual ++ "<lambda>") params body scope (cloFrom X.env.cells scope.names []) dL c') ∧ HZ c' = some (CodeO c' (X.env.qual ++ "<lambda>")) ∧ DflO HZ dL) f s' H1 Q (fun E H' Q' => t E σ H' Q')
      (fun W pn xe E p1 p2 tk hW => pe_actD (i := 0) I1 L hB tk hW hr' (fun A outer s H hr2 => hbody A outer s H E f c' hr2) hNg hva hd hcd) ⟨m1, m2, m3⟩ hT
    exact ⟨t', ht'.nox, hq'⟩
  refine wpAny_call (codeAny_mono rc fun r s2 hq => ?_)
  match r, hq with
  | .error e, hq => exact (show False from hq).elim
  | .ok (.ret u), hq => exact I1.after hq
  | .ok .next, hq => exact hq.elim
  | .ok .brk, hq => exact hq.elim
  | .ok .cont, hq => exact hq.elim
end
end Lw
namespace Lw
open PySem L2
/-- a wire and an own wire, as a def goes on -/
structure In2 (K : PySem.W.Frag) (TT : List (Addr × Str)) (r CW a dx t d tm : Addr) (F0 : List Addr) (H0 : Hp) (l lm : Addr) (M Mm : WM) (H : Hp) : Prop where
  row : RowOk K H r
  st : Sts H [oWire CW a dx t l M, oM d tm lm Mm]
  tab : LamX.Tabs TT H
  m : StepN TT F0 ([a, t, l] ++ [d, tm, lm]) H0 H
section
variable {K : PySem.W.Frag} {TT : List (Addr × Str)} {r CW a dx t d tm l lm l' lm' : Addr} {F0 : List Addr} {H0 H H' : Hp} {M Mm M' : WM}
theorem In2.ext (h : In2 K TT r CW a dx t d tm F0 H0 l lm M Mm H) (e : Ext H H') : In2 K TT r CW a dx t d tm F0 H0 l lm M Mm H' := ⟨e.rowOk h.row, h.st.ext e, tabs_ext h.tab e, h.m.trans (StepN.ofExt e)⟩
theorem In2.lam (h : In2 K TT r CW a dx t d tm F0 H0 l lm M Mm H) (eN : LamX.ExtN H H') (T : LamX.Tabs TT H') : In2 K TT r CW a dx t d tm F0 H0 l lm M Mm H' := ⟨RowOk.lam eN h.row, h.st.lam eN, T, h.m.trans (StepN.lam eN T)⟩
theorem In2.one (h : In2 K TT r CW a dx t d tm F0 H0 l lm M Mm H) (W : WAt CW a dx t l' M' H') (s : Step [a, t, l] [a, t, l'] H H') : In2 K TT r CW a dx t d tm F0 H0 l' lm M' Mm H' :=
  ⟨Sts.row (l1 := []) (l2 := [_]) (W' := oWire CW a dx t l' M') h.st s h.row, h.st.one (A' := oWire CW a dx t l' M') W s, Sts.tabs (l1 := []) (l2 := [_]) (W' := oWire CW a dx t l' M') h.st s h.tab, h.m.trans (StepN.of (s.wide [d, tm, lm]) (Sts.al2 (l1 := []) (l2 := []) h.st))⟩
theorem In2.other (h : In2 K TT r CW a dx t d tm F0 H0 l lm M Mm H) (W : MAt d tm lm' M' H') (s : Step [d, tm, lm] [d, tm, lm'] H H') : In2 K TT r CW a dx t d tm F0 H0 l lm' M M' H' :=
  ⟨Sts.row (l1 := [_]) (l2 := []) (W' := oM d tm lm' M') h.st s h.row, h.st.other (B' := oM d tm lm' M') W s, Sts.tabs (l1 := [_]) (l2 := []) (W' := oM d tm lm' M') h.st s h.tab, h.m.trans (StepN.of (s.wideL [a, t, l]) (Sts.al2 (l1 := []) (l2 := []) h.st))⟩
theorem In2.W (h : In2 K TT r CW a dx t d tm F0 H0 l lm M Mm H) : WAt CW a dx t l M H := h.st.fst
theorem In2.G (h : In2 K TT r CW a dx t d tm F0 H0 l lm M Mm H) : MAt d tm lm Mm H := h.st.snd
end
end Lw
namespace Lw
open PySem L2
theorem pss_lock {X : Cx} {sts : List Stmt} {t : TS} (h : PSs X sts t) : PSs X sts (tLock t) := ⟨fun pins s σ H D I ⟨d, u, hd, mu, hw⟩ => by
  obtain ⟨od, I1⟩ := I.lock hd mu
  have back := I.nofrz hd mu
  refine thn (h.run pins s σ _ _ I1 (hw od)) fun f s1 q => ?_
  match f, q with
  | .next, ⟨σ', H', I2, e, q⟩ => exact ⟨σ', _, I2.unlock e back, q⟩
  | .brk, ⟨σ', H', I2, e, q⟩ => exact ⟨σ', _, I2.unlock e back, q⟩
  | .cont, ⟨σ', H', I2, e, q⟩ => exact ⟨σ', _, I2.unlock e back, q⟩
  | .ret v, ⟨x, σ', H', I2, r, e, q⟩ => exact ⟨x, σ', _, I2.unlock e back, r, q⟩⟩
/-- the rest of a law: its script is locked -/
theorem pss_lk {X : Cx} {sts : List Stmt} {t : TS} (h : PSs X sts t) : PSs X sts (fun D σ H => t D σ H ∨ tLock t D σ H) := ⟨fun pins s σ H D I hw => hw.elim (fun q => h.run pins s σ H D I q) fun q => (pss_lock h).run pins s σ H D I q⟩
theorem lk_byS {K : PySem.W.Frag} {TT : List (Addr × Str)} {t : TS} {D : Ends} {σ : St} {H : Hp} {r a : Addr} {ns : List Int} (hr : H r = some (row a 0 0 0)) (hs : SqL K H a (ns.map V.int)) (tab : LamX.Tabs TT H)
    (main : ∀ z H1 D', LG K TT z r H1 → (∀ H', LG K TT z r H' → D'.rt (.bl true) H') → t D' σ H1) (hD : ∀ H', D.rt (.bl true) H') : t D σ H ∨ tLock t D σ H := by
  have plain : Scr K H a (ns.map V.int) → t D σ H := fun h => main none H D ⟨⟨a, 0, 0, 0, ns, hr, Int.le_refl 0, h⟩, tab, fun a o u q => (by cases q)⟩ fun H' _ => hD H'
  rcases hs with (h | ⟨o, h⟩) | h
  · have nar : r ≠ a := fun e => by
      rw [e, h] at hr
      exact nsh_ints ns ⟨_, _, _, _, Option.some.inj hr⟩
    refine .inr ⟨a, _, h, True.intro, fun od => main (some (a, od, .lst (ns.map V.int))) _ _ ⟨⟨a, 0, 0, 0, ns, by rw [upd_ne nar]; exact hr, Int.le_refl 0, .inl ⟨od, upd_same⟩⟩, tabs_by tab fun b o hb hx => ?_, fun a2 o u q => ?_⟩ fun H' lg => ⟨lg.frz _ _ _ rfl, hD _⟩⟩
    · have nb : b ≠ a := fun e => by
        rw [e, h] at hb
        cases hb
        rcases hx with ⟨ps, q⟩ | ⟨x, q⟩ <;> cases q
      rw [upd_ne nb]
      exact hb
    · cases q
      exact upd_same
  · exact .inl (plain (.inl ⟨o, h⟩))
  · exact .inl (plain (.inr fun H' => .inr h))
end Lw
end

section
/-! a block sees its def's own state -/
namespace Lw
open PySem PySem.Spec PyProof.Rows L2 LamX
/-- what is known of a def where a block of it starts, its iterator's places fp -/
def AtStart (X : Cx) (σ : L2.St) (s : Shared) (H : Hp) (fp : List Addr) : Prop := ∃ pins, Inv X pins σ H s ∧ ∀ b ∈ fp, FpOk X pins H b ∧ b < s.heap.objs.size
theorem AtStart.back {X : Cx} {σ σb : L2.St} {s0 s : Shared} {H0 H : Hp} {fp : List Addr} {scope : Scope} {ce : Env} {pb : List (Addr × Obj)} (h : AtStart X σ s0 H0 fp) (J : Inv (X.blk s0 H0 scope ce fp) pb σb H s) : ∃ pins, Inv X pins σ H s := by
  obtain ⟨pins, I, f⟩ := h
  refine ⟨pins, I.call' (ch := fp) J.os J.base J.hok J.bare fun b hb => ?_⟩
  obtain ⟨⟨_, f1, _, f3, f4, f5⟩, _⟩ := f b hb
  exact ⟨f3, f1, f4, f5⟩
/-- x(e) in a block: e is a lambda of the def -/
def tWorkB (X : Cx) (σ : L2.St) (k : Nat) (TT : (XK → Hp → VK → Prop) → Hp → VK → Prop) (te : TE) : TE := fun σb H Q => te σb H fun v H1 => ∃ (f : Addr) (t : XK → TE), v = .ref f ∧ Lam X k H1 f t ∧ TT (fun E H' Q' => t E σ H' Q') H1 Q
theorem pe_workB {X : Cx} {σ : L2.St} {s0 : Shared} {H0 : Hp} {fp : List Addr} {bsc : Scope} {ce : Env} {TT : (XK → Hp → VK → Prop) → Hp → VK → Prop} {x a : Str} {g : Addr} {k : Nat} {pg : Arguments} {bg : List Stmt} {sg : Scope} {dV kV doc pm cdv ct oc : Value} {an od : Option Addr} {osl : Array (Option Value)} {Ng : List Str}
    {e : Expr} {te : TE} {p pos : Pos} (st : AtStart X σ s0 H0 fp) (hg : Gl (X.blk s0 H0 bsc ce fp) x) (hm : X.mg x = some (.ref g)) (hk : PySem.W.keepIn X.K (.ref g) = true)
    (lk : X.K.lookup g = some ⟨oc, od, .func (PySem.W.fnOf x x pg bg sg dV kV doc pm an cdv ct), osl⟩) (hcg : PySem.W.codeIn X.K cdv x = true) (hb : L2.Binds X.K (PySem.W.fnOf x x pg bg sg dV kV doc pm an cdv ct) [a] []) (Sg : FnScope Ng [a] sg) (hNg : Ng[0]? = some a) (hva : Vis sg a)
    (hG : GivesR (X.blk s0 H0 bsc ce fp) Ng x sg g cdv bg a TT) (hr : Room (k + 2) X.A) (he : PE (X.blk s0 H0 bsc ce fp) e te) (hs : starEach [e] ce = (false, eval e ce) :: starEach [] ce := by rfl)
    (hdb : (x == ("__debug__" : Str)) = false := by decide) (hd : (a == ("__debug__" : Str)) = false := by decide) (hcd : (a == ("__classdict__" : Str)) = false := by decide) :
    PE (X.blk s0 H0 bsc ce fp) (.Call (.Name x p) [e] [] pos) (tWorkB X σ k TT te) := by
  refine ⟨fun pins s σb H Q I h => wpAny_Call_Name_kw (ld_glob I hg hm ?_ hdb)⟩
  refine PySem.W.callWith_K (h₀ := X.base) I.ok.mod.kin hk ?_ hs (by rfl)
  rw [show (X.blk s0 H0 bsc ce fp).env = ce from rfl, hs]
  show wpAny _ _ (spliced ((false, eval e ce) :: backTo pos (starEach [] ce))) _ _ s
  refine Calls.spliced_cons (thn (he.run pins s σb H _ I h) fun u s' ⟨v, H1, I1, r1, f, t, ev, M, hT⟩ => ?_)
  subst ev
  obtain rfl : u = Value.ref f := r1
  refine Calls.spliced_nil ⟨I1.kIn, ?_⟩
  obtain ⟨params, body, scope, dL, c', L, m1, m2, m3, hB, hbody⟩ := M.ex
  obtain ⟨pd, ID⟩ := st.back I1
  have rc : codeAny (model X.prog X.w) X.A (.call (.ref g) ⟨[.ref f], []⟩) (CR C8.CX0 (X.blk s0 H0 bsc ce fp).stack X.prog X.w H1 s' Q C8.E0) s' := by
    refine run_ofS (N := Ng) (ps := [a]) (us := [.ref f]) (vs := [.ref f]) lk hcg Sg hr I1.env0 (hb s' [.ref f] I1.kIn rfl) (.cons rfl .nil) rfl fun hr' => ?_
    obtain ⟨t', ht', hq'⟩ := hG (fun HZ => HZ f = some (LamO f (X.env.qual ++ "<lambda>") params body scope (cloFrom X.env.cells scope.names []) dL c') ∧ HZ c' = some (CodeO c' (X.env.qual ++ "<lambda>")) ∧ DflO HZ dL) f s' H1 Q (fun E H' Q' => t E σ H' Q')
      (fun W pn xe E p1 p2 tk hW => pe_actD (X := X) (i := 0) ID L hB tk hW hr' (fun A outer s H hr2 => hbody A outer s H E f c' hr2) hNg hva hd hcd) ⟨m1, m2, m3⟩ hT
    exact ⟨t', ht'.nox, hq'⟩
  refine wpAny_call (codeAny_mono rc fun r s2 hq => ?_)
  match r, hq with
  | .error e, hq => exact (show False from hq).elim
  | .ok (.ret u), hq => exact I1.after hq
  | .ok .next, hq => exact hq.elim
  | .ok .brk, hq => exact hq.elim
  | .ok .cont, hq => exact hq.elim
end Lw

namespace Lw
open PySem PySem.Spec PyProof.Rows L2
section
variable {X : Cx}
/-- the pieces of a list comprehension whose block starts at a known state of its def -/
structure BlkP (X : Cx) (σ : L2.St) (tg elt : Expr) (ifs : List Expr) (scope : Scope) (g : TG) (tt : TT) (te : TE) : Prop where
  tgt : ∀ (s : Shared) (H : Hp) (C : Addr) (cl : List (Str × Addr)) (fp : List Addr), AtStart X σ s H fp → PG (X.blk s H scope (compEnvC scope cl C X.env) fp) tg g
  tst : ∀ (s : Shared) (H : Hp) (C : Addr) (cl : List (Str × Addr)) (fp : List Addr), AtStart X σ s H fp → PTs (X.blk s H scope (compEnvC scope cl C X.env) fp) ifs tt
  elm : ∀ (s : Shared) (H : Hp) (C : Addr) (cl : List (Str × Addr)) (fp : List Addr), AtStart X σ s H fp → PE (X.blk s H scope (compEnvC scope cl C X.env) fp) elt te
theorem compB {pins : List (Addr × Obj)} {s : Shared} {σ : L2.St} {H : Hp} {Q : VK} {elt tg iter : Expr} {ifs : List Expr} {scope : Scope} {own : List (Str × Nat)} {pos pos' : Pos} {wi : L2.TI} {g : TG} {tt : TT} {te : TE} {Qf : Value → Shared → Prop}
    (hc : X.calm = true) (hN : X.N.Nodup) (I : Inv X pins σ H s) (hi : PI X tg iter wi) (ok : BlkOk X.N X.env.scope scope own) (bp : BlkP X σ tg elt ifs scope g tt te)
    (hs : ∀ x, foldedSetIterable iter X.env x = pure x) (h : tLc wi g tt te (own.map (·.2)) σ H Q)
    (post : ∀ L C z m H', Inv X pins σ H' z → Q (.ref L) H' → z.heap.Ns C m → FpOk X pins H' C → compPost (model X.prog X.w) X.A X.xe none Qf (.ref L) C (.ok .next) z) :
    wpAny (model X.prog X.w) X.A (comprehension (.ListComp elt [⟨tg, iter, ifs, 0⟩] scope pos) scope X.env pos' (newList []) false (eval iter X.env) none) Qf X.xe s := by
  have caps : ∀ y ∈ scope.names, y.2 = .free → ∃ c, X.env.cells.lookup y.1 = some c := fun y hy e => (ok.free y hy e).elim (fun k => I.ok.has _ (.inl k)) fun k => I.ok.has _ (.inr k)
  refine wpAny_comprehension_free (use := none) rfl hs (closure_ok caps) ok.kind (fun y hy e => e ▸ ok.uniq y hy) (thn (hi.run pins s σ H _ I h) fun _ s1 hx => thn hx fun _ sA hA => ?_)
  obtain ⟨it, fp, tn, J, HA, rfl, IA, T, stA, fA, q⟩ := hA
  refine wpAny_newObj_type (newEnv_comp ?_) (by show 0 ≤ sizeLine; decide)
  obtain ⟨L, hL⟩ : ∃ L, L = sA.heap.objs.size := ⟨_, rfl⟩
  rw [← hL]
  have nL : HA L = none := IA.hok.fresh (Nat.le_of_eq hL.symm)
  obtain ⟨W, ⟨m0, w0⟩, turn⟩ := q L nL
  obtain ⟨sB, hsB⟩ : ∃ z : Shared, z = { sA with heap := sA.heap.push { cls := .type "list", data := .seq ([] : List Value).toArray } } := ⟨_, rfl⟩
  rw [← hsB]
  have hB : sB.heap = sA.heap.push { cls := .type "list", data := .seq ([] : List Value).toArray } := by rw [hsB]
  have IB : Inv X pins σ (upd HA L (.lst [])) sB := by
    rw [hsB]
    exact IA.laid (t' := sA.toks) (fun b o e => Heap.get?_push_of_some _ e) (Nat.le_of_eq hL.symm) ⟨Nat.zero_le _, [], 0, .nil, by rw [hL]; exact Heap.get?_push_size _ rfl⟩
  have fB : ∀ b ∈ fp, FpOk X pins (upd HA L (.lst [])) b ∧ b < sB.heap.objs.size := fun b hb => by
    obtain ⟨o, e, _⟩ := T.obj _ _ stA b hb
    have hlt := Heap.lt_size e
    exact ⟨⟨by rw [upd_ne (by rw [hL]; exact Nat.ne_of_lt hlt)]; exact (fA b hb).1, (fA b hb).2⟩, by rw [hB, Heap.size_push]; exact Nat.lt_succ_of_lt hlt⟩
  have stB : tn 0 sB.heap := T.keep _ _ _ stA fun b _ o e => by rw [hB]; exact Heap.get?_push_of_some _ e
  have at0 : AtStart X σ sB (upd HA L (.lst [])) fp := ⟨pins, IB, fB⟩
  have IC := block_start IB ok hN fB
  have pg := bp.tgt sB (upd HA L (.lst [])) sB.heap.objs.size (cellsFrom (sB.heap.objs.size + 1) scope.names (cloFrom X.env.cells scope.names [])) fp at0
  have pt := bp.tst sB (upd HA L (.lst [])) sB.heap.objs.size (cellsFrom (sB.heap.objs.size + 1) scope.names (cloFrom X.env.cells scope.names [])) fp at0
  have pe := bp.elm sB (upd HA L (.lst [])) sB.heap.objs.size (cellsFrom (sB.heap.objs.size + 1) scope.names (cloFrom X.env.cells scope.names [])) fp at0
  show codeAny _ _ (.compStart (.ListComp elt [⟨tg, iter, ifs, 0⟩] scope pos) 0 (.ref it) (.ref L) (compEnvC scope (cellsFrom (sB.heap.objs.size + 1) scope.names (cloFrom X.env.cells scope.names [])) sB.heap.objs.size X.env)) (compPost (model X.prog X.w) X.A X.xe none Qf (.ref L) sB.heap.objs.size) { sB with heap := pushCells (sB.heap.push { cls := .type "dict", data := .dict #[] }) scope.names }
  have nfp : ∀ b ∈ fp, (upd HA L (.lst [])) b = none := fun b hb => (fB b hb).1.1
  generalize hce : compEnvC scope (cellsFrom (sB.heap.objs.size + 1) scope.names (cloFrom X.env.cells scope.names [])) sB.heap.objs.size X.env = ce at IC pg pt pe ⊢
  have cL : ce.locals = sB.heap.objs.size := by rw [← hce]; rfl
  generalize upd HA L (.lst []) = HB at IB IC pg pt pe w0 nfp fB at0
  generalize hsC : ({ sB with heap := pushCells (sB.heap.push { cls := .type "dict", data := .dict #[] }) scope.names } : Shared) = sC at IC ⊢
  have stC : tn 0 sC.heap := T.keep _ _ _ stB fun b _ o e => by rw [← hsC]; exact pushCells_keeps _ _ _ _ (Heap.get?_push_of_some _ e)
  have still : ∀ {τ : L2.St} {H' : Hp} {z : Shared}, Inv (X.blk sB HB scope ce fp) [] τ H' z → (∀ b ∈ fp, H' b = none) → ∀ b ∈ fp, FpOk (X.blk sB HB scope ce fp) [] H' b := fun {τ H' z} I' hn b hb =>
    ⟨hn b hb, (I'.ok.exf b hb).1, I'.ok.exfs b hb, .inl hb, fun x c e => (I'.ok.exf b hb).2 x c e, fun p hp => (List.not_mem_nil (show p ∈ ([] : List (Addr × Obj)) from hp)).elim⟩
  have loop : codeAny (model X.prog X.w) X.A (.compLoop (.ListComp elt [⟨tg, iter, ifs, 0⟩] scope pos) 0 (.ref it) (.ref L) ce) (compPost (model X.prog X.w) X.A X.xe none Qf (.ref L) sB.heap.objs.size) sC := by
    refine compLoop_any (fun n z => ∃ i H', Inv (X.blk sB HB scope ce fp) [] (wipe σ (own.map (·.2))) H' z ∧ tn i z.heap ∧ (∀ b ∈ fp, H' b = none) ∧ W i n H') ?_ m0 ⟨0, HB, IC, stC, nfp, w0⟩
    rintro n sD ⟨i, HD, ID, stD, nD, wD⟩
    rcases turn i n HD wD with ⟨stop, qq⟩ | ⟨go, Nx, hNx, step⟩
    · refine thnF (T.done (X.blk sB HB scope ce fp) rfl rfl rfl hc i [] sD _ HD (fun _ _ => False) ID (still ID nD) stD stop) fun r sE ⟨hr, IE⟩ => ?_
      subst hr
      have back : Inv X pins σ HD sE := IB.call' (ch := fp) IE.os IE.base IE.hok IE.bare fun b hb => by
        obtain ⟨⟨_, z1, _, z3, z4, z5⟩, _⟩ := fB b hb
        exact ⟨z3, z1, z4, z5⟩
      have nC : HD ce.locals = none := IE.free
      obtain ⟨m, hn, _⟩ := IE.loc
      have hn : sE.heap.Ns ce.locals m := hn
      rw [cL] at hn nC
      exact post L sB.heap.objs.size sE m HD back qq hn (IB.fpOk (Nat.le_refl _) nC)
    · refine thnF (T.item (X.blk sB HB scope ce fp) rfl rfl rfl hc i [] sD _ HD (fun _ _ => False) ID (still ID nD) stD go) fun r sE ⟨u, hr, hE⟩ => ?_
      subst hr
      refine thnF hE fun _ sF ⟨x, HF, IF, rF, yF, stF, nF⟩ => ?_
      refine thnF (pg.run _ sF _ HF x u _ (IF.pinned (still IF nF) (T.obj _ _ stF)) rF (step x HF yF)) fun _ sG ⟨τ, HG, IG, hw, qG⟩ => ?_
      refine thnF (pt.run _ sG τ HG _ IG qG) fun b sI ⟨HI, II, qI⟩ => ?_
      have fin : ∀ {z : Shared} {H' : Hp}, Inv (X.blk sB HB scope ce fp) ([] ++ pinsAt fp sF.heap) τ H' z → Nx H' → ∃ m, m < n ∧ ∃ i H', Inv (X.blk sB HB scope ce fp) [] (wipe σ (own.map (·.2))) H' z ∧ tn i z.heap ∧ (∀ b ∈ fp, H' b = none) ∧ W i m H' := fun {z H'} I' nx => by
        obtain ⟨m', hm, w'⟩ := hNx H' nx
        have at' : ∀ b ∈ fp, ∀ o, sF.heap.get? b = some o → z.heap.get? b = some o ∧ H' b = none := fun b hb o e => by
          obtain ⟨y1, y2, _⟩ := I'.pin (b, o) (List.mem_append_right _ (List.mem_append_right _ (mem_pinsAt hb e)))
          exact ⟨y1, y2⟩
        refine ⟨m', hm, i + 1, H', (I'.unpinned (pins := [])).weak (by rw [← hw, wipe_length]) (fun j v e => ?_), T.keep _ _ _ stF fun b hb o e => (at' b hb o e).1, fun b hb => ?_, w'⟩
        · rw [← hw] at e
          exact (wipe_some e).1
        · obtain ⟨o, e, _⟩ := T.obj _ _ stF b hb
          exact (at' b hb o e).2
      cases b with
      | false =>
        simp only [Bool.false_eq_true, if_false] at qI ⊢
        exact fin II qI
      | true =>
        simp only [if_true] at qI ⊢
        refine thnF (pe.run _ sI τ HI _ II qI) fun y sJ ⟨yv, HJ, IJ, rJ, acc, hLJ, hz, nx⟩ => ?_
        exact app_ok (X := X.blk sB HB scope ce fp) IJ hLJ hz rJ fun z Iz => fin Iz nx
  exact codeAny_compStart_list loop (T.self X.A 0 _ _ _ stC loop)
/-- a list comprehension, as a value -/
theorem pe_lcB {elt tg iter : Expr} {ifs : List Expr} {scope : Scope} {own : List (Str × Nat)} {pos : Pos} {wi : L2.TI} {g : TG} {tt : L2.St → TT} {te : L2.St → TE} (hc : X.calm = true) (hN : X.N.Nodup) (hi : PI X tg iter wi) (ok : BlkOk X.N X.env.scope scope own)
    (hg : ∀ (s : Shared) (H : Hp) (C : Addr) (cl : List (Str × Addr)) (fp : List Addr), PG (X.blk s H scope (compEnvC scope cl C X.env) fp) tg g)
    (ht : ∀ (σ : L2.St) (s : Shared) (H : Hp) (C : Addr) (cl : List (Str × Addr)) (fp : List Addr), AtStart X σ s H fp → PTs (X.blk s H scope (compEnvC scope cl C X.env) fp) ifs (tt σ))
    (he : ∀ (σ : L2.St) (s : Shared) (H : Hp) (C : Addr) (cl : List (Str × Addr)) (fp : List Addr), AtStart X σ s H fp → PE (X.blk s H scope (compEnvC scope cl C X.env) fp) elt (te σ)) (hs : ∀ x, foldedSetIterable iter X.env x = pure x := by intro _; rfl) :
    PE X (.ListComp elt [⟨tg, iter, ifs, 0⟩] scope pos) (fun σ H Q => tLc wi g (tt σ) (te σ) (own.map (·.2)) σ H Q) := by
  refine ⟨fun pins s σ H Q I h => ?_⟩
  rw [eval_ListComp]
  refine compB hc hN I hi ok ⟨fun s H C cl fp _ => hg s H C cl fp, ht σ, he σ⟩ hs h fun L C z m H' I' q hn f => ⟨m, hn, fun h2 sb => ?_⟩
  obtain ⟨f0, f1, _, f3, f4, f5⟩ := f
  exact ⟨.ref L, H', I'.turned (t' := z.toks) (fun b o hb e => (sb.2 b hb).trans e) f0 f1 f3 f4 f5, rfl, q⟩
end
end Lw
end

section
/-! lambdas that a def returns: the def has ended, its one cell is told by the heap -/
namespace Lw
open PySem PySem.Spec PyProof.Rows L2 LamX
/-- a cell that holds v -/
def CelO (c : Addr) (v : V) : HO := .ext fun h => ∃ u, L2.RelV v u ∧ h.IsCell c (some u)
def lessC (c : Addr) (H : Hp) : Hp := fun b => if b = c then none else H b
def plusC (c : Addr) (v : V) (H : Hp) : Hp := upd H c (CelO c v)
section
variable {P : Program} {w : World} {c : Addr} {v : V} {H H' : Hp} {h h' B : Heap} {fs : List Addr}
theorem less_at : lessC c H c = none := by unfold lessC; rw [if_pos rfl]
theorem less_ne {b : Addr} (n : b ≠ c) : lessC c H b = H b := by unfold lessC; rw [if_neg n]
theorem less_of {b : Addr} {o : HO} (e : lessC c H b = some o) : b ≠ c ∧ H b = some o := by
  by_cases n : b = c
  · rw [n, less_at] at e
    cases e
  · rw [less_ne n] at e
    exact ⟨n, e⟩
theorem less_keep {b : Addr} {o : HO} (hc : H c = some (CelO c v)) (e : H b = some o) (n : o ≠ CelO c v) : lessC c H b = some o := by
  have nb : b ≠ c := fun q => by
    rw [q, hc] at e
    exact n (Option.some.inj e).symm
  rw [less_ne nb]
  exact e
theorem less_none {b : Addr} (e : H b = none) : lessC c H b = none := by
  by_cases n : b = c
  · rw [n]; exact less_at
  · rw [less_ne n]; exact e
theorem hok_less (ok : HOk P w H h) (hc : H c = some (CelO c v)) : HOk P w (lessC c H) h := fun b o e => by
  obtain ⟨n, e⟩ := less_of e
  exact (ok b o e).stay (fun _ _ _ q => q) (fun d q => less_keep hc q (fun z => by cases z)) fun d xs q => less_keep hc q (fun z => by cases z)
theorem cel_ok (ok : HOk P w H h) (hc : H c = some (CelO c v)) : ∃ u, L2.RelV v u ∧ h.IsCell c (some u) := (ok c _ hc).1
theorem hok_plus (ok : HOk P w H' h') (hn : H' c = none) (cel : ∃ u, L2.RelV v u ∧ h'.IsCell c (some u)) : HOk P w (plusC c v H') h' := fun b o e => by
  by_cases n : b = c
  · rw [n] at e ⊢
    have e : some (CelO c v) = some o := by rw [← e]; exact upd_same.symm
    cases e
    obtain ⟨u, r, ob, ho, hd⟩ := cel
    refine ⟨⟨u, r, ob, ho, hd⟩, ⟨ob, ho⟩, fun h1 h2 ⟨u, r, ob, ho, hd⟩ st => ⟨u, r, ob, st _ ho, hd⟩⟩
  · have e : H' b = some o := by rw [← e]; exact (upd_ne n).symm
    exact (ok b o e).stay (fun _ _ _ q => q) (fun d q => (upd_ne (ne_of_none q hn)).trans q) fun d xs q => (upd_ne (ne_of_none q hn)).trans q
theorem ext_plus (hc : H c = some (CelO c v)) (e : Ext (lessC c H) H') : Ext H (plusC c v H') where
  st := fun b o q n => by
    by_cases nb : b = c
    · rw [nb, hc] at q
      rw [nb, ← q]
      exact upd_same
    · exact (upd_ne nb).trans (e.st b o ((less_ne nb).trans q) n)
  rw_ := fun b a i m z q hi => by
    have nb : b ≠ c := fun y => by
      rw [y, hc] at q
      cases q
    obtain ⟨i', m', z', q1, q2⟩ := e.rw_ b a i m z ((less_ne nb).trans q) hi
    exact ⟨i', m', z', (upd_ne nb).trans q1, q2⟩
  th := fun b o q => by
    by_cases nb : b = c
    · exact ⟨CelO c v, by rw [nb]; exact upd_same⟩
    · obtain ⟨o', q'⟩ := e.th b o ((less_ne nb).trans q)
      exact ⟨o', (upd_ne nb).trans q'⟩
theorem un_plus (hc : H c = some (CelO c v)) (cel : ∃ u, L2.RelV v u ∧ h.IsCell c (some u)) (u : Un fs [] (lessC c H) H' h h') : Un fs [] H (plusC c v H') h h' := by
  have n0 : H' c = none := by
    obtain ⟨_, _, o, ho, _⟩ := cel
    exact u.free c o ho less_at (by simp)
  have nb : ∀ b, H b = none → b ≠ c := fun b e q => by rw [q, hc] at e; cases e
  refine ⟨fun b o e n hb hx => u.keep b o e (less_none n) hb hx, fun b o e n hb hx => u.slot b o e (less_none n) hb hx, fun b o e n hx => (upd_ne (nb b n)).trans (u.free b o e (less_none n) hx), u.there, fun b xs e => ?_, fun b o x e => ?_, fun b ps e => ?_⟩
  · have q := less_keep hc e (fun z => by cases z)
    exact (upd_ne (less_of q).1).trans (u.tups b xs q)
  · have q := less_keep hc e (fun z => by cases z)
    exact (upd_ne (less_of q).1).trans (u.frzs b o x q)
  · have q := less_keep hc e (fun z => by cases z)
    obtain ⟨more, e2⟩ := u.tbls b ps q
    exact ⟨more, (upd_ne (less_of q).1).trans e2⟩
theorem ub_plus (hc : H c = some (CelO c v)) (cel : ∃ u, L2.RelV v u ∧ h.IsCell c (some u)) (u : UB fs (lessC c H) H' h B h') : UB fs H (plusC c v H') h B h' := by
  have n0 : H' c = none := by
    obtain ⟨_, _, o, ho, _⟩ := cel
    exact u.free c o ho less_at
  have nb : ∀ b, H b = none → b ≠ c := fun b e q => by rw [q, hc] at e; cases e
  refine ⟨fun b o e n hb => u.keep b o e (less_none n) hb, u.slot, fun b o e n => (upd_ne (nb b n)).trans (u.free b o e (less_none n)), u.there, fun b xs e => ?_, fun b o x e => ?_, fun b ps e => ?_⟩
  · have q := less_keep hc e (fun z => by cases z)
    exact (upd_ne (less_of q).1).trans (u.tups b xs q)
  · have q := less_keep hc e (fun z => by cases z)
    exact (upd_ne (less_of q).1).trans (u.frzs b o x q)
  · have q := less_keep hc e (fun z => by cases z)
    obtain ⟨more, e2⟩ := u.tbls b ps q
    exact ⟨more, (upd_ne (less_of q).1).trans e2⟩
/-- a call's end, the cell told again -/
theorem cr_plus {outer : List Env} {s s' : Shared} {Q : VK} {E : XK} {r : Result} (ok : HOk P w H s.heap) (hc : H c = some (CelO c v)) (nf : ∀ b ∈ frs outer, H b = none)
    (q : CR (L2.CX P w) outer P w (lessC c H) s (fun x H' => Q x (plusC c v H')) (fun cls d H' => E cls d (plusC c v H')) r s') : CR (L2.CX P w) outer P w H s Q E r s' := by
  have cel := cel_ok ok hc
  have ncf : c ∉ frs outer := fun z => by rw [nf c z] at hc; cases hc
  match r, q with
  | .ok (.ret u), ⟨x, H', os, bare, un, hok, rv, q⟩ =>
    have n0 : H' c = none := by
      obtain ⟨_, _, o, ho, _⟩ := cel
      exact un.free c o ho less_at (by simp)
    refine ⟨x, plusC c v H', os, bare, un_plus hc cel un, hok_plus hok n0 ?_, rv, q⟩
    obtain ⟨u0, r0, o, ho, hd⟩ := cel
    exact ⟨u0, r0, o, un.keep c o ho less_at ncf (by simp), hd⟩
  | .ok .next, q => exact q.elim
  | .ok .brk, q => exact q.elim
  | .ok .cont, q => exact q.elim
  | .error e, ⟨a, B, H', cls, d, ea, fl, hok, ub, na, os, ag, hE⟩ =>
    have n0 : H' c = none := by
      obtain ⟨_, _, o, ho, _⟩ := cel
      exact ub.free c o ho less_at
    obtain ⟨u0, r0, o, ho, hd⟩ := id cel
    have hB := ub.keep c o ho less_at ncf
    have nac : a ≠ c := fun z => by
      have := fl.2.1
      rw [z, hB] at this
      cases this
    exact ⟨a, B, plusC c v H', cls, d, ea, fl, hok_plus hok n0 ⟨u0, r0, o, hB, hd⟩, ub_plus hc cel ub, (upd_ne nac).trans na, os, ag, hE⟩
end
end Lw

namespace Lw
open PySem PySem.Spec PyProof.Rows L2 LamX
theorem relV_inj {u v : V} {x : Value} (h : L2.RelV u x) (h2 : L2.RelV v x) : u = v := by
  cases u <;> cases v <;> simp only [L2.RelV] at h h2 <;> first
    | rfl
    | (subst h; cases h2; done)
    | (subst h; cases h2; rfl)
    | (obtain ⟨t, rfl⟩ := h; obtain ⟨t2, e⟩ := h2; cases e; rfl)
    | (obtain ⟨t, rfl⟩ := h; cases h2; done)
    | (obtain ⟨t, rfl⟩ := h; obtain ⟨t2, e⟩ := h2; cases e; done)
    | (subst h; obtain ⟨t2, e⟩ := h2; cases e; done)
/-- a def that has ended: its one cell stands at c -/
structure DeadAt (X : Cx) (σ : L2.St) (c : Addr) (v : V) : Prop where
  ok : X.Ok
  one : ∀ y d, X.env.cells.lookup y = some d → d = c
  val : ∀ (i : Nat) (y : Str) (u : V), X.N[i]? = some y → σ[i]? = some (some u) → (X.env.scope.names.lookup y = some .cell ∨ X.env.scope.names.lookup y = some .free) → u = v
  len : σ.length = X.N.length
section
variable {X : Cx} {σ : L2.St} {HZ : Hp} {s1 : Shared} {c : Addr} {v : V}
theorem Inv.dead {pins : List (Addr × Obj)} {H : Hp} {s : Shared} (I : Inv X pins σ H s) {i : Nat} {y : Str} (one : ∀ z d, X.env.cells.lookup z = some d → z = y) (hi : X.N[i]? = some y) (hv : σ[i]? = some (some v)) (hy : X.env.scope.names.lookup y = some .cell) :
    ∃ c u, DeadAt X σ c v ∧ H c = none ∧ L2.RelV v u ∧ s.heap.IsCell c (some u) := by
  obtain ⟨m, _, hl⟩ := I.loc
  obtain ⟨u, r, q⟩ := hl i y v hi hv (.inr (.inl hy))
  have cellOf : ∀ {z : Str} {x : Value}, (X.env.scope.names.lookup z = some .cell ∨ X.env.scope.names.lookup z = some .free) → L2.Look X.env s.heap m z x → ∃ c, X.env.cells.lookup z = some c ∧ s.heap.IsCell c (some x) := fun {z x} hk q => by
    rcases q with ⟨loc, _⟩ | ⟨_, c, e, z⟩
    · have loc : X.env.scope.names.lookup z = some .local := loc
      rcases hk with hk | hk <;> rw [hk] at loc <;> cases loc
    · exact ⟨c, e, z⟩
  obtain ⟨c, e, cel⟩ := cellOf (.inl hy) q
  have one' : ∀ z d, X.env.cells.lookup z = some d → d = c := fun z d hd => by
    have := one z d hd
    rw [this, e] at hd
    exact (Option.some.inj hd).symm
  refine ⟨c, u, ⟨I.ok, one', fun j z x hj hx hk => ?_, I.len⟩, I.freeC y c e, r, cel⟩
  obtain ⟨u2, r2, q2⟩ := hl j z x hj hx (.inr hk)
  obtain ⟨d, e2, o2, ho2, hd2⟩ := cellOf hk q2
  obtain ⟨o, ho, hd⟩ := cel
  have := one' z d e2
  subst this
  rw [ho] at ho2
  cases ho2
  rw [hd] at hd2
  cases hd2
  exact relV_inj r2 r
/-- the lambda's body is entered -/
theorem dead_start {A : Around} {outer : List Env} {E : XK} {scope : Scope} {f c' : Addr} {h₁ : Heap} {tk : Nat} {m : Str → Option Value} {H : Hp} (D : DeadAt X σ c v) (L : LamD X.N X.env.scope scope) (e0 : Env0 X.prog X.w X.K X.mg X.base A outer s1 H) (hn : H c = none) (hd : A.handled = none)
    (cel : ∃ u, L2.RelV v u ∧ s1.heap.IsCell c (some u)) (hns : h₁.Ns s1.heap.objs.size m) (kp : ∀ b o, s1.heap.get? b = some o → h₁.get? b = some o) :
    Inv (lamCx X A outer s1 H E scope f c') [] σ H { s1 with heap := h₁, toks := tk } := by
  have avail := L.has D.ok
  have down : ∀ {y d}, (cloFrom X.env.cells scope.names []).lookup y = some d → X.env.cells.lookup y = some d := fun {y d} e => by
    rcases cloFrom_mem (PySem.mem_of_lookup e) with hm | ⟨h1, h2⟩
    · cases hm
    · obtain ⟨c1, hc⟩ := avail _ h1 rfl
      have hc : X.env.cells.lookup y = some c1 := hc
      have e2 : d = c1 := by
        rw [h2, hc] <;> rfl
      exact e2 ▸ hc
  have look : ∀ {y}, scope.names.lookup y = some .free → (cloFrom X.env.cells scope.names []).lookup y = some c := fun {y} hl => by
    obtain ⟨d, e⟩ := mem_lookup (cloFrom_has (cells := X.env.cells) (acc := []) (show (y, NameKind.free) ∈ scope.names from PySem.mem_of_lookup hl))
    rw [D.one y d (down e)] at e
    exact e
  obtain ⟨u0, r0, o0, ho0, hd0⟩ := cel
  have cell1 : h₁.IsCell c (some u0) := ⟨o0, kp _ _ ho0, hd0⟩
  have noX : ∀ b : Addr, b ∉ (lamCx X A outer s1 H E scope f c').ex := fun b z => (List.not_mem_nil z).elim
  have okk : (lamCx X A outer s1 H E scope f c').Ok := ⟨e0.mod, L.kind, rfl, rfl, Nat.le_refl _, fun y z d e1 e2 => D.ok.inj y z d (down e1) (down e2), fun y hy => (show scope.names.lookup y = some .cell ∨ scope.names.lookup y = some .free from hy).elim (fun z => absurd rfl (L.nocell _ (PySem.mem_of_lookup z))) (fun z => ⟨c, look z⟩),
    fun y d z _ => (show False from by have z : false = true := z; cases z).elim, fun _ => hd, Around.frames_deeper e0.frames, .inr ⟨rfl, rfl⟩, fun b z => absurd z (noX b), e0.bs, e0.bsz, fun b _ _ => noX b, fun b z => absurd z (noX b), e0.funs, e0.frf⟩
  refine ⟨okk, rfl, e0.bare, Un.kept kp, ⟨m, hns, fun i y u e1 e2 e3 => ?_⟩, fun y d e => ?_, e0.hok.fresh (Nat.le_refl _), fun y d e => ?_, fun q hq => absurd (show q ∈ ([] : List (Addr × Obj)) ++ [] from hq) (by simp), e0.hok.kept kp, D.len⟩
  · have e1 : X.N[i]? = some y := e1
    have e3 : Vis scope y := e3
    rcases e3 with z | z | z
    · exact absurd (List.mem_of_getElem? e1) (L.own _ (PySem.mem_of_lookup z) rfl)
    · exact absurd rfl (L.nocell _ (PySem.mem_of_lookup z))
    · have := D.val i y u e1 e2 (L.free _ (PySem.mem_of_lookup z) rfl)
      subst this
      exact ⟨u0, r0, .inr ⟨.inr z, c, look z, cell1⟩⟩
  · rw [D.one y d (down e)]
    exact ⟨_, cell1⟩
  · rw [D.one y d (down e)]
    exact hn
end
end Lw

namespace Lw
open PySem PySem.Spec PyProof.Rows L2 LamX
section
variable {X : Cx} {σ : L2.St}
/-- a(), in the def that got the lambda of a def that has ended -/
theorem pe_actF {A0 : Around} {stk : List Env} {CXg : CXT} {Eg : XK} {Ng : List Str} {qg : Str} {sg : Scope} {g f c c' : Addr} {v : V} {cdg dV : Value} {params : Arguments} {body : Expr} {scope : Scope} {k i : Nat} {a : Str} {pn : List (Addr × Obj)} {xe : Value → Shared → Prop} {W : WX} {E : XK} {tb : TE} {p1 p2 : Pos} {s : Shared} {H : Hp}
    (D : DeadAt X σ c v) (L : LamD X.N X.env.scope scope) (hB : BndO (X.env.qual ++ "<lambda>") params body scope (cloFrom X.env.cells scope.names []) dV c')
    (tk : Takes ((cxOf CXg X.prog X.w X.K X.mg X.base Ng qg sg g cdg A0 stk s H Eg).tr pn xe) W) (hW : ∀ cls d σ' H', E cls d H' → W cls d σ' H') (hr : Room (k + 1) (A0.deeper (envOfC qg sg s.heap.objs.size g cdg)))
    (hbody : ∀ (A : Around) (outer : List Env) (s : Shared) (H : Hp), Room k (A.deeper (lamEnv X scope s.heap.objs.size f c')) → PE (lamCx X A outer s H (fun cls d H' => E cls d (plusC c v H')) scope f c') body tb)
    (hN : Ng[i]? = some a) (hv : Vis sg a) (hd : (a == ("__debug__" : Str)) = false := by decide) (hcd : (a == ("__classdict__" : Str)) = false := by decide) :
    PE ((cxOf CXg X.prog X.w X.K X.mg X.base Ng qg sg g cdg A0 stk s H Eg).tr pn xe) (.Call (.Name a p1) [] [] p2)
      (fun σZ HZ Q => σZ[i]? = some (some (.ref f)) ∧ ((HZ f = some (LamO f (X.env.qual ++ "<lambda>") params body scope (cloFrom X.env.cells scope.names []) dV c') ∧ HZ c' = some (CodeO c' (X.env.qual ++ "<lambda>")) ∧ DflO HZ dV) ∧ HZ c = some (CelO c v)) ∧ tb σ (lessC c HZ) (fun x H' => Q x (plusC c v H'))) := by
  refine ⟨fun pinsZ sZ σZ HZ Q IZ ⟨hs, ⟨⟨hf, hc, hD⟩, hcel⟩, ht⟩ => ?_⟩
  refine wpAny_Call_Name_kw (thn ((pe_var (pos := p1) (i := i) hN hv hd hcd).run pinsZ sZ σZ HZ (fun v H1 => v = .ref f ∧ H1 = HZ) IZ ⟨.ref f, hs, rfl, rfl⟩) fun u s1 ⟨x, H1, I1, r1, ev, eH⟩ => ?_)
  subst ev
  rw [eH] at I1
  obtain rfl : u = Value.ref f := r1
  obtain ⟨⟨doc, pm, ctv, of1⟩, _, _⟩ := I1.hok f _ hf
  refine PySem.W.callWith_F0 ⟨_, _, _, _, of1⟩ ?_
  obtain ⟨⟨oc, vs, t, hoc, hdc, hvc⟩, _, _⟩ := I1.hok c' _ hc
  obtain ⟨binds, bt, bl⟩ := hB s1 doc pm ctv fun T eT => by
    rcases hD with e | ⟨T2, e, hT⟩
    · rw [e] at eT; cases eT
    · rw [e] at eT
      cases eT
      obtain ⟨_, its, rv, o, o1, _, n, o3⟩ := I1.hok T _ hT
      obtain ⟨x, rfl, hx⟩ : ∃ x, its = [x] ∧ L2.RelV (.int 0) x := by
        cases rv with
        | cons r0 rr =>
          cases rr with
          | nil => exact ⟨_, rfl, r0⟩
      obtain ⟨tk0, rfl⟩ := hx
      exact ⟨o, tk0, n, o1, o3⟩
  have e1 := I1.env0
  have eL : Env0 X.prog X.w X.K X.mg X.base (A0.deeper (envOfC qg sg s.heap.objs.size g cdg)) (envOfC qg sg s.heap.objs.size g cdg :: stk) s1 (lessC c HZ) :=
    ⟨e1.frames, e1.mod, fun b o q => ⟨(e1.bs b o q).1, less_none (e1.bs b o q).2⟩, e1.bsz, e1.funs, fun b hb => less_none (e1.frf b hb), hok_less e1.hok hcel, e1.bare⟩
  have rc : codeAny (model X.prog X.w) (A0.deeper (envOfC qg sg s.heap.objs.size g cdg)) (.call (.ref f) ⟨[], []⟩) (CR (L2.CX X.prog X.w) (envOfC qg sg s.heap.objs.size g cdg :: stk) X.prog X.w HZ s1 Q E) s1 := by
    refine codeAny_mono ?_ fun r s2 q => cr_plus (c := c) (v := v) e1.hok hcel e1.frf q
    refine PySem.W.kla_callFunE hr.depth of1 rfl L.co L.gen rfl ⟨c', oc, vs, t, rfl, hoc, hdc, hvc⟩ (bt _ _ _ _ ?_)
    refine wpAny_newFunctionEnv L.nocell bl (fun h₁ hns hsb => ⟨I1.nolimit.fresh _ hsb, ?_⟩) L.kind
    show codeAny _ _ (.expr body (lamEnv X scope s1.heap.objs.size f c')) _ _
    have J : Inv (lamCx X (A0.deeper (envOfC qg sg s.heap.objs.size g cdg)) (envOfC qg sg s.heap.objs.size g cdg :: stk) s1 (lessC c HZ) (fun cls d H' => E cls d (plusC c v H')) scope f c') [] σ (lessC c HZ) { s1 with heap := h₁, toks := s1.toks + binds.length } :=
      dead_start D L eL less_at hr.hd (cel_ok e1.hok hcel) hns fun b o e => hsb.extBut b o (Nat.ne_of_lt (Heap.lt_size e)) (Heap.get?_push_of_some _ e)
    refine PySem.W.kla_codeExpr (wpAny_mono ((hbody _ _ s1 (lessC c HZ) (hr.deeper _)).run [] _ _ (lessC c HZ) _ J ht) (fun v s' ⟨w', H', J', rv, q⟩ => ⟨w', H', J'.os, J'.bare, J'.base, J'.hok, rv, q⟩) fun e s' hq => hq)
  have hx : Passes (L2.CX X.prog X.w) ((cxOf CXg X.prog X.w X.K X.mg X.base Ng qg sg g cdg A0 stk s H Eg).tr pn xe) E := passes_call tk hW
  refine wpAny_call (codeAny_mono rc fun r s' hq => ?_)
  match r, hq with
  | .error e, hq => exact hx pinsZ σZ HZ s1 e s' I1 hq
  | .ok (.ret u), hq => exact I1.after hq
  | .ok .next, hq => exact hq.elim
  | .ok .brk, hq => exact hq.elim
  | .ok .cont, hq => exact hq.elim
end
/-- at f stands a lambda of a def that has ended; it is refused with the class cB -/
structure DLam (P : Program) (w : World) (K : PySem.W.Frag) (mg : Str → Option Value) (base : Heap) (k : Nat) (H : Hp) (f cB : Addr) : Prop where
  ex : ∃ (X : Cx) (σ : L2.St) (c : Addr) (v : V) (t : XK → TE), (X.prog = P ∧ X.w = w ∧ X.K = K ∧ X.mg = mg ∧ X.base = base) ∧ DeadAt X σ c v ∧ H c = some (CelO c v) ∧ Lam X k H f t ∧ ∀ E H Q, (∀ H', Ext H H' → E (.ref cB) none H') → t E σ H Q
theorem DLam.st {P : Program} {w : World} {K : PySem.W.Frag} {mg : Str → Option Value} {base : Heap} {k : Nat} {H H' : Hp} {f cB : Addr} (h : DLam P w K mg base k H f cB) (st : ∀ b o, H b = some o → ((∃ φ, o = .ext φ) ∨ ∃ xs, o = .tup xs) → H' b = some o) : DLam P w K mg base k H' f cB := by
  obtain ⟨X, σ, c, v, t, e, D, hc, M, T⟩ := h.ex
  exact ⟨X, σ, c, v, t, e, D, st _ _ hc (.inl ⟨_, rfl⟩), M.st st, T⟩
theorem DLam.extH {P : Program} {w : World} {K : PySem.W.Frag} {mg : Str → Option Value} {base : Heap} {k : Nat} {H H' : Hp} {f cB : Addr} (h : DLam P w K mg base k H f cB) (e : Ext H H') : DLam P w K mg base k H' f cB := h.st fun b o hb ho => e.st b o hb (by
  rcases ho with ⟨φ, rfl⟩ | ⟨xs, rfl⟩
  · exact nsh_ext
  · exact nsh_of fun a i m z e => by cases e)
/-- x(e): e is such a lambda -/
def tWorkF (P : Program) (w : World) (K : PySem.W.Frag) (mg : Str → Option Value) (base : Heap) (k : Nat) (cB : Addr) (TT : (XK → Hp → VK → Prop) → Hp → VK → Prop) (te : TE) : TE := fun σb H Q => te σb H fun v H1 => ∃ f : Addr, v = .ref f ∧ DLam P w K mg base k H1 f cB ∧ TT (fun E H' _ => ∀ H2, Ext H' H2 → E (.ref cB) none H2) H1 Q
theorem pe_workF {Y : Cx} {P : Program} {w : World} {K : PySem.W.Frag} {mg : Str → Option Value} {base : Heap} {TT : (XK → Hp → VK → Prop) → Hp → VK → Prop} {x a : Str} {g cB : Addr} {k : Nat} {pg : Arguments} {bg : List Stmt} {sg : Scope} {dV kV doc pm cdv ct oc : Value} {an od : Option Addr} {osl : Array (Option Value)} {Ng : List Str}
    {e : Expr} {te : TE} {p pos : Pos} (hY : Y.prog = P ∧ Y.w = w ∧ Y.K = K ∧ Y.mg = mg ∧ Y.base = base) (hg : Gl Y x) (hm : Y.mg x = some (.ref g)) (hk : PySem.W.keepIn Y.K (.ref g) = true)
    (lk : Y.K.lookup g = some ⟨oc, od, .func (PySem.W.fnOf x x pg bg sg dV kV doc pm an cdv ct), osl⟩) (hcg : PySem.W.codeIn Y.K cdv x = true) (hb : L2.Binds Y.K (PySem.W.fnOf x x pg bg sg dV kV doc pm an cdv ct) [a] []) (Sg : FnScope Ng [a] sg) (hNg : Ng[0]? = some a) (hva : Vis sg a)
    (hG : GivesR Y Ng x sg g cdv bg a TT) (hr : Room (k + 2) Y.A) (he : PE Y e te) (hs : starEach [e] Y.env = (false, eval e Y.env) :: starEach [] Y.env := by rfl)
    (hdb : (x == ("__debug__" : Str)) = false := by decide) (hd : (a == ("__debug__" : Str)) = false := by decide) (hcd : (a == ("__classdict__" : Str)) = false := by decide) :
    PE Y (.Call (.Name x p) [e] [] pos) (tWorkF P w K mg base k cB TT te) := by
  obtain ⟨rfl, rfl, rfl, rfl, rfl⟩ := hY
  refine ⟨fun pins s σb H Q I h => wpAny_Call_Name_kw (ld_glob I hg hm ?_ hdb)⟩
  refine PySem.W.callWith_K (h₀ := Y.base) I.ok.mod.kin hk ?_ hs (by rfl)
  rw [hs]
  show wpAny _ _ (spliced ((false, eval e Y.env) :: backTo pos (starEach [] Y.env))) _ _ s
  refine Calls.spliced_cons (thn (he.run pins s σb H _ I h) fun u s' ⟨v, H1, I1, r1, f, ev, M, hT⟩ => ?_)
  subst ev
  obtain rfl : u = Value.ref f := r1
  refine Calls.spliced_nil ⟨I1.kIn, ?_⟩
  obtain ⟨X, σ, c, v, t, ⟨q1, q2, q3, q4, q5⟩, D, hc, L0, T⟩ := M.ex
  obtain ⟨params, body, scope, dL, c', L, m1, m2, m3, hB, hbody⟩ := L0.ex
  have rc : codeAny (model Y.prog Y.w) Y.A (.call (.ref g) ⟨[.ref f], []⟩) (CR C8.CX0 Y.stack Y.prog Y.w H1 s' Q C8.E0) s' := by
    refine run_ofS (N := Ng) (ps := [a]) (us := [.ref f]) (vs := [.ref f]) lk hcg Sg hr I1.env0 (hb s' [.ref f] I1.kIn rfl) (.cons rfl .nil) rfl fun hr' => ?_
    obtain ⟨t', ht', hq'⟩ := hG (fun HZ => (HZ f = some (LamO f (X.env.qual ++ "<lambda>") params body scope (cloFrom X.env.cells scope.names []) dL c') ∧ HZ c' = some (CodeO c' (X.env.qual ++ "<lambda>")) ∧ DflO HZ dL) ∧ HZ c = some (CelO c v)) f s' H1 Q (fun E H' Q' => ∀ H2, Ext H' H2 → E (.ref cB) none H2)
      (fun W pn xe E p1 p2 tk hW => ⟨fun pinsZ sZ σZ HZ QZ IZ hZ => by
        obtain ⟨xp, xw, xK, xmg, xbase, xA, xN, xs0, xH0, xenv, xout, xstk, xex, xfn, xcalm, xpn, xxe⟩ := X
        simp only at q1 q2 q3 q4 q5
        subst q1 q2 q3 q4 q5
        exact (pe_actF (i := 0) D L hB tk hW hr' (fun A outer s H hr2 => hbody A outer s H _ f c' hr2) hNg hva hd hcd).run pinsZ sZ σZ HZ QZ IZ ⟨hZ.1, hZ.2.1, T _ _ _ fun H2 e2 => hZ.2.2 _ (ext_plus hZ.2.1.2 e2)⟩⟩) ⟨⟨m1, m2, m3⟩, hc⟩ hT
    exact ⟨t', ht'.nox, hq'⟩
  refine wpAny_call (codeAny_mono rc fun r s2 hq => ?_)
  match r, hq with
  | .error e, hq => exact (show False from hq).elim
  | .ok (.ret u), hq => exact I1.after hq
  | .ok .next, hq => exact hq.elim
  | .ok .brk, hq => exact hq.elim
  | .ok .cont, hq => exact hq.elim
/-! a def's end, its cell told from then on -/
structure PSr (X : Cx) (sts : List Stmt) (t : (V → L2.St → Hp → Prop) → L2.St → Hp → Prop) : Prop where
  run : ∀ (pins : List (Addr × Obj)) (s : Shared) (σ : L2.St) (H : Hp) (R : V → L2.St → Hp → Prop), Inv X pins σ H s → t R σ H → wpAny (model X.prog X.w) X.A (execs sts X.env) (fun fl s' => ∃ u x σ' H', fl = .ret u ∧ Inv X pins σ' H' s' ∧ L2.RelV x u ∧ R x σ' H') X.xe s
theorem psr_ret {X : Cx} {e : Expr} {te : TE} {pos : Pos} (he : PE X e te) : PSr X [.Return (some e) pos] (fun R σ H => te σ H fun x H' => R x σ H') := ⟨fun pins s σ H R I h => by
  refine wpAny_execs_cons (wpAny_Return_some (thn (he.run pins s σ H _ I h) fun v s1 q => ?_))
  obtain ⟨x, H1, I1, r1, q⟩ := q
  exact ⟨v, x, σ, H1, rfl, I1, r1, q⟩⟩
theorem psr_cons {X : Cx} {st : Stmt} {rest : List Stmt} {t : TS} {u : (V → L2.St → Hp → Prop) → L2.St → Hp → Prop} (h1 : PS X st t) (h2 : PSr X rest u) : PSr X (st :: rest) (fun R σ H => t { nx := u R, rt := fun _ _ => False } σ H) := ⟨fun pins s σ H R I h => by
  refine wpAny_execs_cons (thn (h1.run pins s σ H _ I h) fun f s1 q => ?_)
  match f, q with
  | .next, ⟨σ', H', I', q⟩ => exact h2.run pins s1 σ' H' R I' q
  | .brk, ⟨_, _, _, q⟩ => exact q.elim
  | .cont, ⟨_, _, _, q⟩ => exact q.elim
  | .ret v, ⟨_, _, _, _, _, q⟩ => exact q.elim⟩
theorem FunC.okA {P : Program} {w : World} {K : PySem.W.Frag} {mg : Str → Option Value} {base : Heap} {x qual y : Str} {st : Stmt} {f c : Addr} {fd : FuncData} {N ps : List Str} {k i : Nat} {sp : Sp} (F : FunC K x qual st f fd c) (S : FnScope N ps (defScope st)) (hi : N[i]? = some y) (hy : (defScope st).names.lookup y = some .cell)
    (one : ∀ z ∈ (defScope st).names, z.2 = .cell → z.1 = y) (len : ∀ vs H Q E, sp vs H Q E → vs.length = ps.length)
    (hbody : ∀ (A : Around) (outer : List Env) (s : Shared) (H : Hp) (vs : List V) (Q : VK) (E : XK), Room k (A.deeper (envOfC qual (defScope st) s.heap.objs.size f (.ref c))) → sp vs H Q E →
      ∃ t, PSr (cxOf (L2.CX P w) P w K mg base N qual (defScope st) f (.ref c) A outer s H E) (defBody st) t ∧
        t (fun z σ' H' => ∃ v, σ'[i]? = some (some v) ∧ ∀ d, DeadAt (cxOf (L2.CX P w) P w K mg base N qual (defScope st) f (.ref c) A outer s H E) σ' d v → H' d = none → Q z (plusC d v H')) (L2.start N vs) H) : FnOk P w K mg base (L2.CX P w) (k + 1) f fd ps sp := by
  obtain ⟨oc, od, kV, doc, pm, an, ct, osl, rfl, lk, hcd⟩ := F.ex
  refine ⟨len, fun A outer s H args us vs Q E hr e0 hb r hsp => ?_⟩
  have hl := len _ _ _ _ hsp
  have KX : K.In s.heap := e0.mod.kin.keeps fun b o e => (e0.bs b o e).1
  have lim : s.heap.NoLimit := e0.mod.nolimit.keeps fun b o e => (e0.bs b o e).1
  have kinds : ∀ z ∈ ps.zip us, (defScope st).names.lookup z.1 = some .local ∨ ((defScope st).names.lookup z.1 = some .cell ∧ ((cellsFrom (s.heap.objs.size + 1) (defScope st).names []).lookup z.1).isSome = true) := fun ⟨n, v⟩ hz =>
    (S.par n (List.of_mem_zip hz).1).elim .inl fun q => .inr ⟨q, PySem.W.cellsFrom_some _ _ _ (.inl q)⟩
  refine codeAny_call_function hr.depth (KX _ _ lk) rfl S.co S.gen rfl (PySem.W.codeRec_of KX hcd) (hb _ _ _ _ ?_)
  refine wpAny_newFunctionEnv_cells S.kind kinds fun env he s1 xc => ?_
  subst he
  refine ⟨lim.keeps xc.toInCall.keep, codeAny_func ?_⟩
  obtain ⟨t, ht, hq⟩ := hbody A outer s H vs Q E (hr.deeper _) hsp
  have I : Inv (cxOf (L2.CX P w) P w K mg base N qual (defScope st) f (.ref c) A outer s H E) [] (L2.start N vs) H s1 := inv_start S hr.hd e0 hl r xc
  refine wpAny_mono (ht.run [] s1 _ H _ I hq) (fun fl s' ⟨u, z, σ', H', efl, J, rv, v, hv, q⟩ => ?_) fun e s' hs => hs
  subst efl
  have onlyc : ∀ z d, (cellsFrom (s.heap.objs.size + 1) (defScope st).names []).lookup z = some d → z = y := fun z d hd => by
    rw [← Heap.size_push s.heap { cls := .type "dict", data := .dict #[] }] at hd
    rcases cells_mem (PySem.mem_of_lookup hd) with hm | ⟨h1, _, _⟩
    · cases hm
    · exact one _ h1 rfl
  obtain ⟨d, u0, D, nd, r0, cel⟩ := Inv.dead J (y := y) onlyc hi hv hy
  obtain ⟨d', hd'⟩ := D.ok.has y (.inl hy)
  have hd2 := D.one y d' hd'
  subst hd2
  have hge : s.heap.objs.size ≤ d' := D.ok.cab y d' rfl hd'
  refine ⟨z, plusC d' v H', J.os, J.bare, ?_, hok_plus J.hok nd ⟨u0, r0, cel⟩, rv, q d' D nd⟩
  have ub := J.base
  have neq : ∀ b o, s.heap.get? b = some o → b ≠ d' := fun b o e z => absurd (Nat.lt_of_lt_of_le (Heap.lt_size e) hge) (by rw [z]; exact Nat.lt_irrefl _)
  exact ⟨ub.keep, ub.slot, fun b o e n hx => (upd_ne (neq b o e)).trans (ub.free b o e n hx), ub.there, fun b xs e => (upd_ne (ne_of_none (ub.tups b xs e) nd)).trans (ub.tups b xs e), fun b o x e => (upd_ne (ne_of_none (ub.frzs b o x e) nd)).trans (ub.frzs b o x e), fun b ps e => by
    obtain ⟨more, e2⟩ := ub.tbls b ps e
    exact ⟨more, (upd_ne (ne_of_none e2 nd)).trans e2⟩⟩
end Lw
end

section
set_option pp.maxSteps 700
open PySem L2 Lw
local macro_rules | `(tactic| tm_at "s") => `(tactic| first
  | with_reducible refine w_seq ?_ | with_reducible refine w_asg ?_ | with_reducible refine w_gname ?_ | with_reducible refine w_ret ?_ | with_reducible refine w_drop ?_ | with_reducible refine w_ifS ?_ | with_reducible refine w_next ?_ | with_reducible refine w_retN ?_
  | with_reducible refine w_c ?_ | ((with_reducible refine w_var (v := ?vv) ?hh ?kk); (case hh => exact rfl)) | with_reducible refine w_op ?_ | with_reducible refine w_un ?_ | with_reducible refine w_cons ?_ | with_reducible refine w_nil ?_ | with_reducible refine w_test ?_ | with_reducible refine w_B ?_
  | with_reducible refine w_isbl ?_ | with_reducible refine w_not ?_ | with_reducible refine w_and ?_ | with_reducible refine w_or ?_ | with_reducible refine w_andV ?_ | with_reducible refine w_orV ?_ | with_reducible refine w_notV ?_ | with_reducible refine w_if ?_ | with_reducible refine w_chain ?_
  | with_reducible refine w_isN ?_ | with_reducible refine w_notN ?_ | with_reducible refine w_yes ?_ | with_reducible refine w_call ?_ | with_reducible refine w_CB ?_ | with_reducible refine w_tup ?_ | with_reducible refine w_lst ?_ | with_reducible refine w_sl ?_ | with_reducible refine w_noPart ?_
  | with_reducible refine w_part ?_ | with_reducible refine w_isint ?_ | with_reducible refine w_gSub ?_ | with_reducible refine w_break ?_ | with_reducible refine w_cont ?_
  | with_reducible refine w_I0 ?_ | with_reducible refine w_eqI ?_ | with_reducible refine w_neI ?_ | with_reducible refine w_eqS ?_ | with_reducible refine w_neS ?_ | with_reducible refine w_eqB ?_ | with_reducible refine w_neB ?_ | ((with_reducible refine w_isi (d := ?dd) ?hh ?kk); (case hh => assumption))
  | with_reducible refine w_sg ?_ | with_reducible refine w_notSg ?_ | with_reducible refine w_starts ?_ | with_reducible refine w_max2 ?_ | with_reducible refine w_min2 ?_ | with_reducible refine w_intB ?_ | with_reducible refine w_intI ?_ | with_reducible refine w_bm ?_ | with_reducible refine w_bm0 ?_ | with_reducible refine w_m1 ?_ | with_reducible refine w_m0 ?_ | with_reducible refine w_isstr ?_
  | with_reducible refine w_for ?_ | with_reducible refine w_lc ?_ | with_reducible refine w_rng ?_ | with_reducible refine w_rng2 ?_ | with_reducible refine w_ilist ?_ | with_reducible refine w_itup ?_ | with_reducible refine w_istr ?_ | with_reducible refine w_strOk ?_
  | ((with_reducible refine w_rngOk ?hh ?h2 ?kk); (case hh => omega); (case h2 => omega)) | ((with_reducible refine w_lstOk (xs := ?xx) ?hh ?kk); (case hh => assumption))
  | ((with_reducible refine w_alL ?hh ?kk); (case hh => exact Nat.le_of_ble_eq_true rfl)) | ((with_reducible refine w_alT ?hh ?kk); (case hh => exact Nat.le_of_ble_eq_true rfl))
  | ((with_reducible refine w_lenL (xs := ?xx) ?hh ?kk); (case hh => assumption)) | ((with_reducible refine w_lenT (xs := ?xx) ?hh ?kk); (case hh => assumption))
  | ((with_reducible refine w_I ?hh ?kk); (case hh => first | (show _ ≠ (0 : Int); omega) | (show (0 : Int) < _; omega) | exact ⟨by omega, by omega⟩ | exact .inl ⟨by omega, by omega⟩ | exact .inr ⟨by omega, by omega⟩ | exact ⟨by decide, by decide, by decide⟩))
  | with_reducible refine w_din ?_ | with_reducible refine w_dnot ?_ | with_reducible refine w_dget ?_ | with_reducible refine w_dput ?_ | with_reducible refine w_fld ?_ | with_reducible refine w_sto ?_ | with_reducible refine w_meth ?_ | with_reducible refine w_pop1 ?_ | with_reducible refine w_pop2 ?_ | with_reducible refine w_ikeys ?_
  | ((with_reducible refine f_width (CW := ?v1) (dx := ?v2) (t := ?v3) (l := ?v4) (w := ?v5) (told := ?v6) (many := ?v7) ?tw ?hh ?kk); (case tw => assumption); (case hh => assumption))
  | ((with_reducible refine f_things (CW := ?v1) (dx := ?v2) (t := ?v3) (l := ?v4) (w := ?v5) (told := ?v6) (many := ?v7) ?tw ?hh ?kk); (case tw => assumption); (case hh => assumption))
  | ((with_reducible refine f_listening (CW := ?v1) (dx := ?v2) (t := ?v3) (l := ?v4) (w := ?v5) (told := ?v6) (many := ?v7) ?tw ?hh ?kk); (case tw => assumption); (case hh => assumption))
  | ((with_reducible refine f_tolds (CW := ?v1) (dx := ?v2) (t := ?v3) (l := ?v4) (w := ?v5) (b := ?v6) (many := ?v7) ?tw ?hh ?kk); (case tw => assumption); (case hh => assumption))
  | ((with_reducible refine f_told (CW := ?v1) (dx := ?v2) (t := ?v3) (l := ?v4) (w := ?v5) (told := ?v6) (many := ?v7) ?tw ?hh ?kk); (case tw => assumption); (case hh => assumption))
  | ((with_reducible refine f_many (CW := ?v1) (dx := ?v2) (t := ?v3) (l := ?v4) (w := ?v5) (told := ?v6) (many := ?v7) ?tw ?hh ?kk); (case tw => assumption); (case hh => assumption))
  | ((with_reducible refine w_ixL (v := ?vv) (xs := ?xx) ?hh ?h2 ?kk); (case hh => assumption); (case h2 => exact rfl)) | ((with_reducible refine w_ixT (v := ?vv) (xs := ?xx) ?hh ?h2 ?kk); (case hh => assumption); (case h2 => exact rfl)))
local macro_rules | `(tactic| tm_at "r") => `(tactic| repeat tm_at "s")
local macro_rules | `(tactic| tm_at "b") => `(tactic| first | refine w_iteT (by with_reducible rfl) ?_ | refine w_iteF (by with_reducible rfl) ?_ | refine w_iteT (by rfl) ?_ | refine w_iteF (by rfl) ?_)
local macro_rules | `(tactic| tm_at "e") => `(tactic| repeat (first | tm_at "s" | tm_at "b"))
namespace My
abbrev s_law_word : Stmt := top 85
theorem sc_law_word : FnScope ["_law_work", "_law_e", "_law_kinds", "_law_words", "_law_word_here"] ["_law_work"] (defScope s_law_word) := ⟨rfl, rfl, rfl, by decide +kernel, rfl, by decide +kernel, by decide +kernel⟩
end My
local macro_rules | `(tactic| tm_at "s") => `(tactic| ((with_reducible refine w_isE (b := ?bb) ?hh ?kk); (case hh => assumption)))
namespace My
theorem gives_wordR (X : Cx) {K : PySem.W.Frag} {mg : Str → Option Value} (hK : X.K = K) (hmg : X.mg = mg) (T : TxB mg) (g : Kinds K mg) (f0 : Addr) (cdv : Value) :
    GivesR X ["_law_work", "_law_e", "_law_kinds", "_law_words", "_law_word_here"] "_law_word" (defScope s_law_word) f0 cdv (defBody s_law_word) "_law_work" (TWord g) := by
  subst hK
  subst hmg
  intro R f s H Q tl act hc h
  refine ⟨_, pss_cons (ps_try_as (X := (cxOf C8.CX0 X.prog X.w X.K X.mg X.base ["_law_work", "_law_e", "_law_kinds", "_law_words", "_law_word_here"] "_law_word" (defScope s_law_word) f0 cdv X.A X.stack s H C8.E0).nox) (i := 1) (c := .ref g.c_BusError) (Wout := fun _ _ _ _ => False)
      (tb := fun W D σ H => ∃ Ech : XK, (∀ cls d σ' H', Ech cls d H' → W cls d σ' H') ∧ σ[0]? = some (some (.ref f)) ∧ R H ∧ tl Ech H (fun _ H' => D.nx σ H'))
      (ts := fun a cls d D σ H => (∃ σ0 : St, σ = σ0.set 1 (some (.ref a))) ∧ WordOk g cls d H D.rt)
      rfl rfl sc_law_word.nd rfl rfl ⟨rfl, by decide, .inl g.m_BusError⟩ LamX.takes0 (fun W pn xe tk _ => ?_) (fun a oe cls d pn hz hf => ?_)) (pss_one (ps_ret pe_str)), ?_⟩
  · refine ⟨fun pins s' σ H' D I h' => ?_⟩
    obtain ⟨Ech, hW, h1, h2, h3⟩ := h'
    exact (pss_one (ps_expr (act W pn xe Ech _ _ tk hW))).run pins s' σ H' D I ⟨h1, h2, h3⟩
  · refine suite_by fun D σ2 H2 hlen h2 => ?_
    obtain ⟨⟨σ0, hσ⟩, i, c, x, hci, hxi, n9, n13, n14, rfl, rfl, k2⟩ := h2
    subst hσ
    rw [List.length_set] at hlen
    obtain ⟨y0, y1, y2, y3, y4, rfl⟩ := five hlen
    clear hlen
    rw [show List.set [y0, y1, y2, y3, y4] 1 (some (V.ref a)) = [y0, some (V.ref a), y2, y3, y4] from rfl]
    have hi15 : i < 15 := (List.getElem?_eq_some_iff.mp hxi).1
    obtain ⟨hv, hC, _⟩ := g.kv c (List.mem_of_getElem? hci)
    have h0 := g.kk i 0 c _ hci rfl
    have h1 := g.kk i 1 c _ hci rfl
    have h2 := g.kk i 2 c _ hci rfl
    have h3 := g.kk i 3 c _ hci rfl
    have h4 := g.kk i 4 c _ hci rfl
    have h5 := g.kk i 5 c _ hci rfl
    have h6 := g.kk i 6 c _ hci rfl
    have h7 := g.kk i 7 c _ hci rfl
    have h8 := g.kk i 8 c _ hci rfl
    have h9 := g.kk i 9 c _ hci rfl
    have h10 := g.kk i 10 c _ hci rfl
    have h11 := g.kk i 11 c _ hci rfl
    have h12 := g.kk i 12 c _ hci rfl
    have h13 := g.kk i 13 c _ hci rfl
    have h14 := g.kk i 14 c _ hci rfl
    refine ⟨_, (pss_cons (ps_set (i := 2) sc_law_word.nd rfl (by first | exact Or.inl rfl | exact Or.inr rfl) (pe_lst (pa_cons (pe_callB (cIsE (K := X.K) rfl hC hz hf) (by rfl) T.n_isinstance (by decide +kernel) (pa_cons (pv 1) (pa_cons (pe_glob (v := .ref g.c_BadWidth) rfl g.m_BadWidth rfl) pa_nil))) (pa_cons (pe_callB (cIsE (K := X.K) rfl hC hz hf) (by rfl) T.n_isinstance (by decide +kernel) (pa_cons (pv 1) (pa_cons (pe_glob (v := .ref g.c_BadNumber) rfl g.m_BadNumber rfl) pa_nil))) (pa_cons (pe_callB (cIsE (K := X.K) rfl hC hz hf) (by rfl) T.n_isinstance (by decide +kernel) (pa_cons (pv 1) (pa_cons (pe_glob (v := .ref g.c_BadKind) rfl g.m_BadKind rfl) pa_nil))) (pa_cons (pe_callB (cIsE (K := X.K) rfl hC hz hf) (by rfl) T.n_isinstance (by decide +kernel) (pa_cons (pv 1) (pa_cons (pe_glob (v := .ref g.c_BadBit) rfl g.m_BadBit rfl) pa_nil))) pa_nil))))))
 (pss_cons (ps_set (i := 2) sc_law_word.nd rfl (by first | exact Or.inl rfl | exact Or.inr rfl) (pe_op op_cat (pv 2) (pe_lst (pa_cons (pe_callB (cIsE (K := X.K) rfl hC hz hf) (by rfl) T.n_isinstance (by decide +kernel) (pa_cons (pv 1) (pa_cons (pe_glob (v := .ref g.c_There) rfl g.m_There rfl) pa_nil))) (pa_cons (pe_callB (cIsE (K := X.K) rfl hC hz hf) (by rfl) T.n_isinstance (by decide +kernel) (pa_cons (pv 1) (pa_cons (pe_glob (v := .ref g.c_NotThere) rfl g.m_NotThere rfl) pa_nil))) (pa_cons (pe_callB (cIsE (K := X.K) rfl hC hz hf) (by rfl) T.n_isinstance (by decide +kernel) (pa_cons (pv 1) (pa_cons (pe_glob (v := .ref g.c_NoRound) rfl g.m_NoRound rfl) pa_nil))) (pa_cons (pe_callB (cIsE (K := X.K) rfl hC hz hf) (by rfl) T.n_isinstance (by decide +kernel) (pa_cons (pv 1) (pa_cons (pe_glob (v := .ref g.c_Over) rfl g.m_Over rfl) pa_nil))) pa_nil)))))))
 (pss_cons (ps_set (i := 2) sc_law_word.nd rfl (by first | exact Or.inl rfl | exact Or.inr rfl) (pe_op op_cat (pv 2) (pe_lst (pa_cons (pe_callB (cIsE (K := X.K) rfl hC hz hf) (by rfl) T.n_isinstance (by decide +kernel) (pa_cons (pv 1) (pa_cons (pe_glob (v := .ref g.c_Busy) rfl g.m_Busy rfl) pa_nil))) (pa_cons (pe_callB (cIsE (K := X.K) rfl hC hz hf) (by rfl) T.n_isinstance (by decide +kernel) (pa_cons (pv 1) (pa_cons (pe_glob (v := .ref g.c_BadLooks) rfl g.m_BadLooks rfl) pa_nil))) (pa_cons (pe_callB (cIsE (K := X.K) rfl hC hz hf) (by rfl) T.n_isinstance (by decide +kernel) (pa_cons (pv 1) (pa_cons (pe_glob (v := .ref g.c_BadRoster) rfl g.m_BadRoster rfl) pa_nil))) pa_nil))))))
 (pss_cons (ps_set (i := 2) sc_law_word.nd rfl (by first | exact Or.inl rfl | exact Or.inr rfl) (pe_op op_cat (pv 2) (pe_lst (pa_cons (pe_callB (cIsE (K := X.K) rfl hC hz hf) (by rfl) T.n_isinstance (by decide +kernel) (pa_cons (pv 1) (pa_cons (pe_glob (v := .ref g.c_TooMany) rfl g.m_TooMany rfl) pa_nil))) (pa_cons (pe_callB (cIsE (K := X.K) rfl hC hz hf) (by rfl) T.n_isinstance (by decide +kernel) (pa_cons (pv 1) (pa_cons (pe_glob (v := .ref g.c_BadPlan) rfl g.m_BadPlan rfl) pa_nil))) (pa_cons (pe_callB (cIsE (K := X.K) rfl hC hz hf) (by rfl) T.n_isinstance (by decide +kernel) (pa_cons (pv 1) (pa_cons (pe_glob (v := .ref g.c_BadStep) rfl g.m_BadStep rfl) pa_nil))) (pa_cons (pe_callB (cIsE (K := X.K) rfl hC hz hf) (by rfl) T.n_isinstance (by decide +kernel) (pa_cons (pv 1) (pa_cons (pe_glob (v := .ref g.c_BadText) rfl g.m_BadText rfl) pa_nil))) pa_nil)))))))
 (pss_cons (ps_if (PW.pt (pw_or (pt_cmpR op_ne (pBm (K := X.K) rfl PySem.F.plainAttrs_list PySem.F.slot_list_count PySem.F.type_list_count (mtCount (K := X.K) rfl) (pv 2) (pa_cons pe_bl pa_nil)) pe_int (nomark _)) (pw_or1 (pt_not (pt_val (pe_callB (cIsE (K := X.K) rfl hC hz hf) (by rfl) T.n_isinstance (by decide +kernel) (pa_cons (pv 1) (pa_cons (pe_bltn (v := .ty "ValueError") rfl T.n_ValueError (by decide +kernel) rfl) pa_nil))))))))
 (pss_one (ps_ret pe_str))
 pss_nil)
 (pss_cons (ps_set (i := 3) sc_law_word.nd rfl (by first | exact Or.inl rfl | exact Or.inr rfl) (pe_lst (pa_cons pe_str (pa_cons pe_str (pa_cons pe_str (pa_cons pe_str (pa_cons pe_str (pa_cons pe_str (pa_cons pe_str (pa_cons pe_str (pa_cons pe_str (pa_cons pe_str (pa_cons pe_str (pa_cons pe_str pa_nil))))))))))))))
 (pss_cons (ps_set (i := 4) sc_law_word.nd rfl (by first | exact Or.inl rfl | exact Or.inr rfl) (pe_ix (ixL (K := X.K) rfl) (pe_op op_cat (pv 3) (pe_lst (pa_cons pe_str (pa_cons pe_str (pa_cons pe_str pa_nil))))) (pBm (K := X.K) rfl PySem.F.plainAttrs_list PySem.F.slot_list_index PySem.F.type_list_index (mtIndex (K := X.K) rfl) (pv 2) (pa_cons pe_bl pa_nil)) (fun _ _ => rfl)))
 (pss_cons (ps_if (pt_cmpR (oIn (K := X.K) rfl) (pv 4) (pe_tup (pa_cons pe_str (pa_cons pe_str pa_nil))) (by rfl))
 (pss_one (ps_ret (pe_tup (pa_cons (pv 4) (pa_cons pe_nev pa_nil)))))
 pss_nil)
 (pss_one (ps_ret (pe_ifExp (pt_cmpR op_eq (pv 4) pe_str (nomark _)) (pe_tup (pa_cons (pv 4) (pa_cons pe_nev pa_nil))) (pv 4)))))))))))), ?_⟩
    tm_at "r"
    intro p1 H3 _ e3 hp1
    tm_at "r"
    intro p2 H4 _ e4 hp2
    have hp1 := e4.st _ _ hp1 (nsh_of fun a i m z e => by cases e)
    refine w_cat hp1 hp2 (by show 8 ≤ 100000; decide) fun p3 H5 _ e5 hp3 => ?_
    tm_at "r"
    intro p4 H6 _ e6 hp4
    have hp3 := e6.st _ _ hp3 (nsh_of fun a i m z e => by cases e)
    refine w_cat hp3 hp4 (by show 11 ≤ 100000; decide) fun p5 H7 _ e7 hp5 => ?_
    tm_at "r"
    intro p6 H8 _ e8 hp6
    have hp5 := e8.st _ _ hp5 (nsh_of fun a i m z e => by cases e)
    refine w_cat hp5 hp6 (by show 15 ≤ 100000; decide) fun p7 H9 _ e9 hp7 => ?_
    have hp7 : H9 p7 = some (.lst (kbs i)) := hp7
    have nk : ¬ RowSh (.lst (kbs i)) := nsh_of fun a b m z e => by
      have := congrArg (fun o => match o with | HO.lst xs => xs.length | _ => 0) e
      cases this
    clear hp1 hp2 hp3 hp4 hp5 hp6
    tm_at "r"
    refine w_tyL (SqL.of hp7) ?_
    tm_at "r"
    refine w_lcount (SqL.of hp7) rfl (kbs_flat i) ?_
    rw [kbs_count hi15]
    tm_at "r"
    tm_at "b"
    tm_at "r"
    refine w_isET hv ?_
    tm_at "r"
    tm_at "b"
    tm_at "r"
    intro p8 H10 _ e10 hp8
    tm_at "r"
    intro p9 H11 _ e11 hp9
    have hp8 := e11.st _ _ hp8 (nsh_of fun a i m z e => by cases e)
    refine w_cat hp8 hp9 (by show 15 ≤ 100000; decide) fun p10 H12 _ e12 hp10 => ?_
    have hp10 : H12 p10 = some (.lst (wordsL.map V.str)) := hp10
    have hp7 := e12.st _ _ (e11.st _ _ (e10.st _ _ hp7 nk) nk) nk
    tm_at "r"
    refine w_tyL (SqL.of hp7) ?_
    tm_at "r"
    refine w_lindex (SqL.of hp7) rfl (kbs_flat i) (kbs_at hi15) rfl (fun m z hm hz => kbs_no hm hz) ?_
    refine w_ixL (v := .str x) (SqL.of hp10) (atI_k (by rw [List.getElem?_map, hxi]; rfl)) ?_
    have en : x ≠ "looks" ∧ x ≠ "step" ∧ x ≠ "text" := by
      have key : ∀ i : Nat, i < 15 → i ≠ 9 → i ≠ 13 → i ≠ 14 → ∀ x : Str, wordsL[i]? = some x → x ≠ "looks" ∧ x ≠ "step" ∧ x ≠ "text" := by
        intro i hi a b c x hx
        have : i = 0 ∨ i = 1 ∨ i = 2 ∨ i = 3 ∨ i = 4 ∨ i = 5 ∨ i = 6 ∨ i = 7 ∨ i = 8 ∨ i = 10 ∨ i = 11 ∨ i = 12 := by omega
        rcases this with rfl | rfl | rfl | rfl | rfl | rfl | rfl | rfl | rfl | rfl | rfl | rfl
        all_goals
          have e := Option.some.inj hx
          subst e
          decide +kernel
      exact key i hi15 n9 n13 n14 x hxi
    have ei : inV (.str x) [V.str "looks", V.str "step"] = false := by
      simp only [inV, List.any_cons, List.any_nil, Bool.or_false, eqV]
      rw [Bool.or_eq_false_iff]
      exact ⟨beq_eq_false_iff_ne.mpr (Ne.symm en.1), beq_eq_false_iff_ne.mpr (Ne.symm en.2.1)⟩
    tm_at "r"
    intro p11 H13 _ e13 hp11
    refine w_inT (SqT.of hp11) rfl rfl ?_
    rw [ei]
    tm_at "r"
    tm_at "b"
    tm_at "r"
    rw [decide_eq_false en.2.2]
    tm_at "r"
    tm_at "b"
    tm_at "r"
    exact k2 _ ((((((((((e3.trans e4).trans e5).trans e6).trans e7).trans e8).trans e9).trans e10).trans e11).trans e12).trans e13)
  · refine ⟨fun cls d H' => WordOk g cls d H' Q, fun cls d σ' H' hw => ?_, rfl, hc, ?_⟩
    · have hw2 := hw
      obtain ⟨i, c, x, hci, hxi, n9, n13, n14, rfl, rfl, k2⟩ := hw
      obtain ⟨hv, hC, hx⟩ := g.kv c (List.mem_of_getElem? hci)
      exact ⟨true, hx, fun _ a _ => ⟨⟨σ', rfl⟩, hw2⟩, fun h => by cases h⟩
    · exact h
end My
end

section
set_option pp.maxSteps 700
open PySem L2 Lw
local macro_rules | `(tactic| tm_at "s") => `(tactic| first
  | with_reducible refine w_seq ?_ | with_reducible refine w_asg ?_ | with_reducible refine w_gname ?_ | with_reducible refine w_ret ?_ | with_reducible refine w_drop ?_ | with_reducible refine w_ifS ?_ | with_reducible refine w_next ?_ | with_reducible refine w_retN ?_
  | with_reducible refine w_c ?_ | ((with_reducible refine w_var (v := ?vv) ?hh ?kk); (case hh => exact rfl)) | with_reducible refine w_op ?_ | with_reducible refine w_un ?_ | with_reducible refine w_cons ?_ | with_reducible refine w_nil ?_ | with_reducible refine w_test ?_ | with_reducible refine w_B ?_
  | with_reducible refine w_isbl ?_ | with_reducible refine w_not ?_ | with_reducible refine w_and ?_ | with_reducible refine w_or ?_ | with_reducible refine w_andV ?_ | with_reducible refine w_orV ?_ | with_reducible refine w_notV ?_ | with_reducible refine w_if ?_ | with_reducible refine w_chain ?_
  | with_reducible refine w_isN ?_ | with_reducible refine w_notN ?_ | with_reducible refine w_yes ?_ | with_reducible refine w_call ?_ | with_reducible refine w_CB ?_ | with_reducible refine w_tup ?_ | with_reducible refine w_lst ?_ | with_reducible refine w_sl ?_ | with_reducible refine w_noPart ?_
  | with_reducible refine w_part ?_ | with_reducible refine w_isint ?_ | with_reducible refine w_gSub ?_ | with_reducible refine w_break ?_ | with_reducible refine w_cont ?_
  | with_reducible refine w_I0 ?_ | with_reducible refine w_eqI ?_ | with_reducible refine w_neI ?_ | with_reducible refine w_eqS ?_ | with_reducible refine w_neS ?_ | with_reducible refine w_eqB ?_ | with_reducible refine w_neB ?_ | ((with_reducible refine w_isi (d := ?dd) ?hh ?kk); (case hh => assumption))
  | with_reducible refine w_sg ?_ | with_reducible refine w_notSg ?_ | with_reducible refine w_starts ?_ | with_reducible refine w_max2 ?_ | with_reducible refine w_min2 ?_ | with_reducible refine w_intB ?_ | with_reducible refine w_intI ?_ | with_reducible refine w_bm ?_ | with_reducible refine w_bm0 ?_ | with_reducible refine w_m1 ?_ | with_reducible refine w_m0 ?_ | with_reducible refine w_isstr ?_
  | with_reducible refine w_for ?_ | with_reducible refine w_lc ?_ | with_reducible refine w_rng ?_ | with_reducible refine w_rng2 ?_ | with_reducible refine w_ilist ?_ | with_reducible refine w_itup ?_ | with_reducible refine w_istr ?_ | with_reducible refine w_strOk ?_
  | ((with_reducible refine w_rngOk ?hh ?h2 ?kk); (case hh => omega); (case h2 => omega)) | ((with_reducible refine w_lstOk (xs := ?xx) ?hh ?kk); (case hh => assumption))
  | ((with_reducible refine w_alL ?hh ?kk); (case hh => exact Nat.le_of_ble_eq_true rfl)) | ((with_reducible refine w_alT ?hh ?kk); (case hh => exact Nat.le_of_ble_eq_true rfl))
  | ((with_reducible refine w_lenL (xs := ?xx) ?hh ?kk); (case hh => assumption)) | ((with_reducible refine w_lenT (xs := ?xx) ?hh ?kk); (case hh => assumption))
  | ((with_reducible refine w_I ?hh ?kk); (case hh => first | (show _ ≠ (0 : Int); omega) | (show (0 : Int) < _; omega) | exact ⟨by omega, by omega⟩ | exact .inl ⟨by omega, by omega⟩ | exact .inr ⟨by omega, by omega⟩ | exact ⟨by decide, by decide, by decide⟩))
  | with_reducible refine w_din ?_ | with_reducible refine w_dnot ?_ | with_reducible refine w_dget ?_ | with_reducible refine w_dput ?_ | with_reducible refine w_fld ?_ | with_reducible refine w_sto ?_ | with_reducible refine w_meth ?_ | with_reducible refine w_pop1 ?_ | with_reducible refine w_pop2 ?_ | with_reducible refine w_ikeys ?_
  | ((with_reducible refine f_width (CW := ?v1) (dx := ?v2) (t := ?v3) (l := ?v4) (w := ?v5) (told := ?v6) (many := ?v7) ?tw ?hh ?kk); (case tw => assumption); (case hh => assumption))
  | ((with_reducible refine f_things (CW := ?v1) (dx := ?v2) (t := ?v3) (l := ?v4) (w := ?v5) (told := ?v6) (many := ?v7) ?tw ?hh ?kk); (case tw => assumption); (case hh => assumption))
  | ((with_reducible refine f_listening (CW := ?v1) (dx := ?v2) (t := ?v3) (l := ?v4) (w := ?v5) (told := ?v6) (many := ?v7) ?tw ?hh ?kk); (case tw => assumption); (case hh => assumption))
  | ((with_reducible refine f_tolds (CW := ?v1) (dx := ?v2) (t := ?v3) (l := ?v4) (w := ?v5) (b := ?v6) (many := ?v7) ?tw ?hh ?kk); (case tw => assumption); (case hh => assumption))
  | ((with_reducible refine f_told (CW := ?v1) (dx := ?v2) (t := ?v3) (l := ?v4) (w := ?v5) (told := ?v6) (many := ?v7) ?tw ?hh ?kk); (case tw => assumption); (case hh => assumption))
  | ((with_reducible refine f_many (CW := ?v1) (dx := ?v2) (t := ?v3) (l := ?v4) (w := ?v5) (told := ?v6) (many := ?v7) ?tw ?hh ?kk); (case tw => assumption); (case hh => assumption))
  | ((with_reducible refine w_ixL (v := ?vv) (xs := ?xx) ?hh ?h2 ?kk); (case hh => assumption); (case h2 => exact rfl)) | ((with_reducible refine w_ixT (v := ?vv) (xs := ?xx) ?hh ?h2 ?kk); (case hh => assumption); (case h2 => exact rfl)))
local macro_rules | `(tactic| tm_at "r") => `(tactic| repeat tm_at "s")
local macro_rules | `(tactic| tm_at "b") => `(tactic| first | refine w_iteT (by with_reducible rfl) ?_ | refine w_iteF (by with_reducible rfl) ?_ | refine w_iteT (by rfl) ?_ | refine w_iteF (by rfl) ?_)
local macro_rules | `(tactic| tm_at "e") => `(tactic| repeat (first | tm_at "s" | tm_at "b"))
namespace My
theorem FnOk_or {P : Program} {w : World} {K : PySem.W.Frag} {mg : Str → Option Value} {base : Heap} {CX : CXT} {k : Nat} {f : Addr} {fd : FuncData} {ps : List Str} {sp sp' : Sp} (F : FnOk P w K mg base CX k f fd ps sp) (G : FnOk P w K mg base CX k f fd ps sp') : FnOk P w K mg base CX k f fd ps (fun vs H Q E => sp vs H Q E ∨ sp' vs H Q E) :=
  ⟨fun vs H Q E h => h.elim (F.len vs H Q E) (G.len vs H Q E), fun A outer s H args us vs Q E hr he hb hv h => h.elim (F.run A outer s H args us vs Q E hr he hb hv) (G.run A outer s H args us vs Q E hr he hb hv)⟩
section
variable (K : PySem.W.Frag) (CW cR cB : Addr)
def sp_sayT : Sp := fun vs H Q E => ∃ (a dx t l : Addr) (M : WM), vs = [.ref a, .bl true] ∧ WAt CW a dx t l M H ∧ WOk M ∧ ((∀ b, ¬ Under M b) → E (.ref cR) none H) ∧ (∀ b, Under M b → E (.ref cB) none H)
def sp_sayV : Sp := fun vs H Q E => sp_say CW cR cB vs H Q E ∨ sp_sayT CW cR cB vs H Q E
end
section
variable {P : Program} {w : World} {K : PySem.W.Frag} {mg : Str → Option Value} {base : Heap} {CW : Addr}
theorem say_T {f cR cB : Addr} {fd : FuncData} (F : Fun K "say" "Wire.say" s_Wire_say f fd) (T : TxB mg) (TW : ClW K CW) (C_Wire_need_round : CalM P w K mg base 1 CW "need_round" ["self"] (sp_need_round CW cR)) (X_BadBit : ExcC K mg "BadBit" cB) :
    FnOk P w K mg base (L2.CX P w) 2 f fd ["self", "bit"] (sp_sayT CW cR cB) := by
  have cl_Wire := TW.cl
  refine F.okX sc_Wire_say (fun vs H Q E h => ?_) (fun cdv A outer s H vs Q E hr h => ⟨_, (pss_cons (ps_expr (pe_me0 (E := E) (pv 0) cl_Wire C_Wire_need_round (hr.mono (by first | decide | omega)) (passes_call (takes_of rfl rfl rfl rfl) (fun _ _ _ _ h => h))))
 (pss_cons (ps_if (PW.pt (pw_or (pt_not (pt_val (pe_callB (cIsi (K := K) rfl) (by rfl) T.n_isinstance (by decide +kernel) (pa_cons (pv 1) (pa_cons (pe_bltn (v := .ty "int") rfl T.n_int (by decide +kernel) rfl) pa_nil))))) (pw_or (pt_val (pe_callB (cIsi (K := K) rfl) (by rfl) T.n_isinstance (by decide +kernel) (pa_cons (pv 1) (pa_cons (pe_bltn (v := .ty "bool") rfl T.n_bool (by decide +kernel) rfl) pa_nil)))) (pw_or1 (pt_cmpR (oNotIn (K := K) rfl) (pv 1) (pe_tup (pa_cons pe_int (pa_cons pe_int pa_nil))) (by rfl))))))
 (pss_one (ps_raise rfl (takes_of rfl rfl rfl rfl) (pmkC X_BadBit)))
 pss_nil)
 (pss_cons (sFldK (K := K) rfl (pv 0) (pe_op o_addS (pFld (K := K) rfl (pv 0) rfl) (pe_callTy c_strI (by rfl) T.n_str (by decide +kernel) (pa_cons (pv 1) pa_nil))) rfl)
 (pss_one (ps_for (passes_of rfl) rfl (piL (K := K) rfl (pe_callTy (c_listD rfl) (by rfl) T.n_list (by decide +kernel) (pa_cons (pFld (K := K) rfl (pv 0) rfl) pa_nil))) (pg_name (i := 2) sc_Wire_say.nd rfl (by first | exact Or.inl rfl | exact Or.inr rfl))
 (pss_one (ps_if (pt_not (pt_val (pe_m1 PySem.F.slot_str_startswith PySem.F.type_str_startswith m_starts (pv 2) (pFld (K := K) rfl (pv 0) rfl))))
 (pss_one (ps_expr (pe_dpop1 (pFld (K := K) rfl (pv 0) rfl) (pv 2) ⟨rfl, rfl, rfl, rfl⟩)))
 pss_nil))))))), ?_⟩)
  · obtain ⟨a, dx, t, l, M, rfl, _⟩ := h
    rfl
  · obtain ⟨a, dx, t, l, M, rfl, W, ok, kE, kB⟩ := h
    have ob := W.ob
    tm_at "r"
    refine w_meOk ob (by kernel_rfl) ?_
    tm_at "r"
    refine u_need_round W ok kE fun b hu => ?_
    have hv : Dq K H (.bl true) (.bool true) := .bl true
    tm_at "r"
    tm_at "b"
    tm_at "r"
    tm_at "b"
    exact kB b hu
theorem ok_sayV {f cR cB : Addr} {fd : FuncData} (F : Fun K "say" "Wire.say" s_Wire_say f fd) (T : TxB mg) (TW : ClW K CW) (C_Wire_need_round : CalM P w K mg base 1 CW "need_round" ["self"] (sp_need_round CW cR)) (X_BadBit : ExcC K mg "BadBit" cB) :
    FnOk P w K mg base (L2.CX P w) 2 f fd ["self", "bit"] (sp_sayV CW cR cB) := FnOk_or (ok_say F T TW C_Wire_need_round X_BadBit) (say_T F T TW C_Wire_need_round X_BadBit)
end
end My
end

section
set_option pp.maxSteps 700
open PySem L2 Lw
local macro_rules | `(tactic| tm_at "s") => `(tactic| first
  | with_reducible refine w_seq ?_ | with_reducible refine w_asg ?_ | with_reducible refine w_gname ?_ | with_reducible refine w_ret ?_ | with_reducible refine w_drop ?_ | with_reducible refine w_ifS ?_ | with_reducible refine w_next ?_ | with_reducible refine w_retN ?_
  | with_reducible refine w_c ?_ | ((with_reducible refine w_var (v := ?vv) ?hh ?kk); (case hh => exact rfl)) | with_reducible refine w_op ?_ | with_reducible refine w_un ?_ | with_reducible refine w_cons ?_ | with_reducible refine w_nil ?_ | with_reducible refine w_test ?_ | with_reducible refine w_B ?_
  | with_reducible refine w_isbl ?_ | with_reducible refine w_not ?_ | with_reducible refine w_and ?_ | with_reducible refine w_or ?_ | with_reducible refine w_andV ?_ | with_reducible refine w_orV ?_ | with_reducible refine w_notV ?_ | with_reducible refine w_if ?_ | with_reducible refine w_chain ?_
  | with_reducible refine w_isN ?_ | with_reducible refine w_notN ?_ | with_reducible refine w_yes ?_ | with_reducible refine w_call ?_ | with_reducible refine w_CB ?_ | with_reducible refine w_tup ?_ | with_reducible refine w_lst ?_ | with_reducible refine w_sl ?_ | with_reducible refine w_noPart ?_
  | with_reducible refine w_part ?_ | with_reducible refine w_isint ?_ | with_reducible refine w_gSub ?_ | with_reducible refine w_break ?_ | with_reducible refine w_cont ?_
  | with_reducible refine w_I0 ?_ | with_reducible refine w_eqI ?_ | with_reducible refine w_neI ?_ | with_reducible refine w_eqS ?_ | with_reducible refine w_neS ?_ | with_reducible refine w_eqB ?_ | with_reducible refine w_neB ?_ | ((with_reducible refine w_isi (d := ?dd) ?hh ?kk); (case hh => assumption))
  | with_reducible refine w_sg ?_ | with_reducible refine w_notSg ?_ | with_reducible refine w_starts ?_ | with_reducible refine w_max2 ?_ | with_reducible refine w_min2 ?_ | with_reducible refine w_intB ?_ | with_reducible refine w_intI ?_ | with_reducible refine w_bm ?_ | with_reducible refine w_bm0 ?_ | with_reducible refine w_m1 ?_ | with_reducible refine w_m0 ?_ | with_reducible refine w_isstr ?_
  | with_reducible refine w_for ?_ | with_reducible refine w_lc ?_ | with_reducible refine w_rng ?_ | with_reducible refine w_rng2 ?_ | with_reducible refine w_ilist ?_ | with_reducible refine w_itup ?_ | with_reducible refine w_istr ?_ | with_reducible refine w_strOk ?_
  | ((with_reducible refine w_rngOk ?hh ?h2 ?kk); (case hh => omega); (case h2 => omega)) | ((with_reducible refine w_lstOk (xs := ?xx) ?hh ?kk); (case hh => assumption))
  | ((with_reducible refine w_alL ?hh ?kk); (case hh => exact Nat.le_of_ble_eq_true rfl)) | ((with_reducible refine w_alT ?hh ?kk); (case hh => exact Nat.le_of_ble_eq_true rfl))
  | ((with_reducible refine w_lenL (xs := ?xx) ?hh ?kk); (case hh => assumption)) | ((with_reducible refine w_lenT (xs := ?xx) ?hh ?kk); (case hh => assumption))
  | ((with_reducible refine w_I ?hh ?kk); (case hh => first | (show _ ≠ (0 : Int); omega) | (show (0 : Int) < _; omega) | exact ⟨by omega, by omega⟩ | exact .inl ⟨by omega, by omega⟩ | exact .inr ⟨by omega, by omega⟩ | exact ⟨by decide, by decide, by decide⟩))
  | with_reducible refine w_din ?_ | with_reducible refine w_dnot ?_ | with_reducible refine w_dget ?_ | with_reducible refine w_dput ?_ | with_reducible refine w_fld ?_ | with_reducible refine w_sto ?_ | with_reducible refine w_meth ?_ | with_reducible refine w_pop1 ?_ | with_reducible refine w_pop2 ?_ | with_reducible refine w_ikeys ?_
  | ((with_reducible refine f_width (CW := ?v1) (dx := ?v2) (t := ?v3) (l := ?v4) (w := ?v5) (told := ?v6) (many := ?v7) ?tw ?hh ?kk); (case tw => assumption); (case hh => assumption))
  | ((with_reducible refine f_things (CW := ?v1) (dx := ?v2) (t := ?v3) (l := ?v4) (w := ?v5) (told := ?v6) (many := ?v7) ?tw ?hh ?kk); (case tw => assumption); (case hh => assumption))
  | ((with_reducible refine f_listening (CW := ?v1) (dx := ?v2) (t := ?v3) (l := ?v4) (w := ?v5) (told := ?v6) (many := ?v7) ?tw ?hh ?kk); (case tw => assumption); (case hh => assumption))
  | ((with_reducible refine f_tolds (CW := ?v1) (dx := ?v2) (t := ?v3) (l := ?v4) (w := ?v5) (b := ?v6) (many := ?v7) ?tw ?hh ?kk); (case tw => assumption); (case hh => assumption))
  | ((with_reducible refine f_told (CW := ?v1) (dx := ?v2) (t := ?v3) (l := ?v4) (w := ?v5) (told := ?v6) (many := ?v7) ?tw ?hh ?kk); (case tw => assumption); (case hh => assumption))
  | ((with_reducible refine f_many (CW := ?v1) (dx := ?v2) (t := ?v3) (l := ?v4) (w := ?v5) (told := ?v6) (many := ?v7) ?tw ?hh ?kk); (case tw => assumption); (case hh => assumption))
  | ((with_reducible refine w_ixL (v := ?vv) (xs := ?xx) ?hh ?h2 ?kk); (case hh => assumption); (case h2 => exact rfl)) | ((with_reducible refine w_ixT (v := ?vv) (xs := ?xx) ?hh ?h2 ?kk); (case hh => assumption); (case h2 => exact rfl)))
local macro_rules | `(tactic| tm_at "r") => `(tactic| repeat tm_at "s")
local macro_rules | `(tactic| tm_at "b") => `(tactic| first | refine w_iteT (by with_reducible rfl) ?_ | refine w_iteF (by with_reducible rfl) ?_ | refine w_iteT (by rfl) ?_ | refine w_iteF (by rfl) ?_)
local macro_rules | `(tactic| tm_at "e") => `(tactic| repeat (first | tm_at "s" | tm_at "b"))
namespace My
abbrev s_met : Stmt := top 25
theorem sc_met : FnScope ["width", "numbers", "number"] ["width", "numbers"] (defScope s_met) := ⟨rfl, rfl, rfl, by decide +kernel, rfl, by decide +kernel, by decide +kernel⟩
abbrev s_fewest : Stmt := top 58
theorem sc_fewest : FnScope ["width", "numbers", "number", "found", "beginning"] ["width", "numbers"] (defScope s_fewest) := ⟨rfl, rfl, rfl, by decide +kernel, rfl, by decide +kernel, by decide +kernel⟩
abbrev s_shown : Stmt := top 57
theorem sc_shown : FnScope ["width", "looks", "paper", "numbers"] ["width", "looks"] (defScope s_shown) := ⟨rfl, rfl, rfl, by decide +kernel, rfl, by decide +kernel, by decide +kernel⟩
abbrev s_need_roster : Stmt := top 63
theorem sc_need_roster : FnScope ["width", "roster"] ["width", "roster"] (defScope s_need_roster) := ⟨rfl, rfl, rfl, by decide +kernel, rfl, by decide +kernel, by decide +kernel⟩
abbrev s_judged : Stmt := top 65
theorem sc_judged : FnScope ["width", "roster", "looks", "found", "some", "look"] ["width", "roster", "looks"] (defScope s_judged) := ⟨rfl, rfl, rfl, by decide +kernel, rfl, by decide +kernel, by decide +kernel⟩
abbrev s_least : Stmt := top 69
theorem sc_least : FnScope ["width", "roster", "hung", "sets", "place", "rows", "marks", "whole", "many", "found", "number", "beginning", "told", "at"] ["width", "roster", "hung"] (defScope s_least) := ⟨rfl, rfl, rfl, by decide +kernel, rfl, by decide +kernel, by decide +kernel⟩
abbrev s_plan_of : Stmt := top 77
theorem sc_plan_of : FnScope ["width", "roster", "planner"] ["width", "roster"] (defScope s_plan_of) := ⟨rfl, rfl, rfl, by decide +kernel, rfl, by decide +kernel, by decide +kernel⟩
abbrev s_follows : Stmt := top 81
theorem sc_follows : FnScope ["width", "roster", "plan", "told", "some", "one", "found", "many"] ["width", "roster", "plan"] (defScope s_follows) := ⟨rfl, rfl, rfl, by decide +kernel, rfl, by decide +kernel, by decide +kernel⟩
abbrev s_Day_init : Stmt := inClass (top 47) 0
theorem sc_Day_init : FnScope ["self", "width"] ["self", "width"] (defScope s_Day_init) := ⟨rfl, rfl, rfl, by decide +kernel, rfl, by decide +kernel, by decide +kernel⟩
abbrev s_played : Stmt := top 48
theorem sc_played : FnScope ["width", "steps", "day", "told", "step"] ["width", "steps"] (defScope s_played) := ⟨rfl, rfl, rfl, by decide +kernel, rfl, by decide +kernel, by decide +kernel⟩
/-- a width that can't be: of another size, or a truth -/
def BadW (v : V) : Prop := (∃ w : Int, v = .int w ∧ ¬ (1 ≤ w ∧ w ≤ 12)) ∨ v = .bl true
/-- refused by the width, whatever stands behind it -/
def sp_bw (m : Nat) (cW : Addr) : Sp := fun vs H Q E => ∃ (v : V) (xs : List V), vs = v :: xs ∧ xs.length = m ∧ BadW v ∧ ∀ H', Ext H H' → E (.ref cW) none H'
/-- no number of the width, wherever it stands -/
def OddN (K : PySem.W.Frag) (n : Nat) (v : V) (d : PyData) : Prop := (∀ H, Dq K H v d) ∧ OkD d ∧ numD n d = false
/-- refused by a number -/
def sp_badN (K : PySem.W.Frag) (cN : Addr) : Sp := fun vs H Q E => ∃ (n : Nat) (p : Addr) (ls : List Bits) (v : V) (d : PyData), vs = [.int (n : Int), .ref p] ∧ (1 ≤ n ∧ n ≤ 12) ∧ SqL K H p (bvs ls ++ [v, .int 5]) ∧ (∀ x ∈ ls, x.length = n) ∧ ls.length ≤ 40 ∧ OddN K n v d ∧ ∀ H', Ext H H' → E (.ref cN) none H'
theorem nsh_badN (ls : List Bits) (v : V) : ¬ RowSh (.lst (bvs ls ++ [v, .int 5])) := fun ⟨a, i, m, z, e⟩ => by
  cases ls with
  | nil =>
    have := congrArg (fun o => match o with | HO.lst xs => xs.length | _ => 0) e
    cases this
  | cons x ls =>
    have := congrArg (fun o => match o with | HO.lst (x :: xs) => some x | _ => none) e
    cases this
def sp_binit (cW : Addr) : Sp := fun vs H Q E => ∃ (s v : V), vs = [s, v] ∧ BadW v ∧ ∀ H', Ext H H' → E (.ref cW) none H'
section
variable {P : Program} {w : World} {K : PySem.W.Frag} {mg : Str → Option Value} {base : Heap}
theorem ok_need_width_B {f c : Addr} {fd : FuncData} {tw : Tok} (F : Fun K "need_width" "need_width" s_need_width f fd) (T : TxB mg) (k_MOST_WIDTH : mg "MOST_WIDTH" = some (.int 12 tw)) (X_BadWidth : ExcC K mg "BadWidth" c) :
    FnOk P w K mg base (L2.CX P w) 1 f fd ["width"] (sp_bw 0 c) := by
  refine F.okX sc_need_width (fun vs H Q E h => ?_) (fun cdv A outer s H vs Q E hr h => ⟨_, (pss_one (ps_if (PW.pt (pw_or (pt_not (pt_val (pe_callB (cIsi (K := K) rfl) (by rfl) T.n_isinstance (by decide +kernel) (pa_cons (pv 0) (pa_cons (pe_bltn (v := .ty "int") rfl T.n_int (by decide +kernel) rfl) pa_nil))))) (pw_or (pt_val (pe_callB (cIsi (K := K) rfl) (by rfl) T.n_isinstance (by decide +kernel) (pa_cons (pv 0) (pa_cons (pe_bltn (v := .ty "bool") rfl T.n_bool (by decide +kernel) rfl) pa_nil)))) (pw_or1 (pt_not (pt_chain op_le op_le pe_int (pv 0) (pe_glob (v := .int 12) rfl k_MOST_WIDTH ⟨_, rfl⟩)))))))
 (pss_one (ps_raise rfl (takes_of rfl rfl rfl rfl) (pmkC X_BadWidth)))
 pss_nil)), ?_⟩)
  · obtain ⟨v, xs, rfl, h1, _⟩ := h
    show xs.length + 1 = 1
    omega
  · obtain ⟨v, xs, rfl, h1, hb, k⟩ := h
    obtain rfl := List.length_eq_zero_iff.mp h1
    have k := k H (Ext.refl H)
    rcases hb with ⟨n, rfl, hn⟩ | rfl
    · have hv : Dq K H (.int n) (.int n) := .int n
      tm_at "r"
      tm_at "b"
      tm_at "r"
      tm_at "b"
      tm_at "r"
      refine w_iteD (fun c1 => ?_) fun c1 => ?_
      · tm_at "r"
        rw [decide_eq_false (show ¬ n ≤ 12 by omega)]
        tm_at "r"
        tm_at "b"
        exact k
      · tm_at "r"
        tm_at "b"
        exact k
    · have hv : Dq K H (.bl true) (.bool true) := .bl true
      tm_at "r"
      tm_at "b"
      tm_at "r"
      tm_at "b"
      exact k
theorem ok_met_B {f c : Addr} {fd : FuncData} (F : Fun K "met" "met" s_met f fd) (T : TxB mg) (C_need_width : Cal P w K mg base 1 "need_width" ["width"] (sp_bw 0 c)) : FnOk P w K mg base (L2.CX P w) 2 f fd ["width", "numbers"] (sp_bw 1 c) := by
  refine F.okX sc_met (fun vs H Q E h => ?_) (fun cdv A outer s H vs Q E hr h => ⟨_, (pss_cons (ps_expr (pe_cal (E := E) C_need_width (hr.mono (by first | decide | omega)) (passes_call (takes_of rfl rfl rfl rfl) (fun _ _ _ _ h => h)) (pa_cons (pv 0) pa_nil)))
 pss_nev), ?_⟩)
  · obtain ⟨v, xs, rfl, h1, _⟩ := h
    show xs.length + 1 = 1 + 1
    omega
  · obtain ⟨v, xs, rfl, h1, hb, k⟩ := h
    obtain ⟨y1, rfl⟩ : ∃ y1, xs = [y1] := by
      match xs, h1 with
      | [y1], _ => exact ⟨_, rfl⟩
    tm_at "r"
    exact ⟨v, [], rfl, rfl, hb, k⟩
theorem ok_fewest_B {f c : Addr} {fd : FuncData} (F : Fun K "fewest" "fewest" s_fewest f fd) (T : TxB mg) (C_need_width : Cal P w K mg base 1 "need_width" ["width"] (sp_bw 0 c)) : FnOk P w K mg base (L2.CX P w) 2 f fd ["width", "numbers"] (sp_bw 1 c) := by
  refine F.okX sc_fewest (fun vs H Q E h => ?_) (fun cdv A outer s H vs Q E hr h => ⟨_, (pss_cons (ps_expr (pe_cal (E := E) C_need_width (hr.mono (by first | decide | omega)) (passes_call (takes_of rfl rfl rfl rfl) (fun _ _ _ _ h => h)) (pa_cons (pv 0) pa_nil)))
 pss_nev), ?_⟩)
  · obtain ⟨v, xs, rfl, h1, _⟩ := h
    show xs.length + 1 = 1 + 1
    omega
  · obtain ⟨v, xs, rfl, h1, hb, k⟩ := h
    obtain ⟨y1, rfl⟩ : ∃ y1, xs = [y1] := by
      match xs, h1 with
      | [y1], _ => exact ⟨_, rfl⟩
    tm_at "r"
    exact ⟨v, [], rfl, rfl, hb, k⟩
theorem ok_shown_B {f c : Addr} {fd : FuncData} (F : Fun K "shown" "shown" s_shown f fd) (T : TxB mg) (C_need_width : Cal P w K mg base 1 "need_width" ["width"] (sp_bw 0 c)) : FnOk P w K mg base (L2.CX P w) 2 f fd ["width", "looks"] (sp_bw 1 c) := by
  refine F.okX sc_shown (fun vs H Q E h => ?_) (fun cdv A outer s H vs Q E hr h => ⟨_, (pss_cons (ps_expr (pe_cal (E := E) C_need_width (hr.mono (by first | decide | omega)) (passes_call (takes_of rfl rfl rfl rfl) (fun _ _ _ _ h => h)) (pa_cons (pv 0) pa_nil)))
 pss_nev), ?_⟩)
  · obtain ⟨v, xs, rfl, h1, _⟩ := h
    show xs.length + 1 = 1 + 1
    omega
  · obtain ⟨v, xs, rfl, h1, hb, k⟩ := h
    obtain ⟨y1, rfl⟩ : ∃ y1, xs = [y1] := by
      match xs, h1 with
      | [y1], _ => exact ⟨_, rfl⟩
    tm_at "r"
    exact ⟨v, [], rfl, rfl, hb, k⟩
theorem ok_need_roster_B {f c : Addr} {fd : FuncData} (F : Fun K "need_roster" "need_roster" s_need_roster f fd) (T : TxB mg) (C_need_width : Cal P w K mg base 1 "need_width" ["width"] (sp_bw 0 c)) : FnOk P w K mg base (L2.CX P w) 2 f fd ["width", "roster"] (sp_bw 1 c) := by
  refine F.okX sc_need_roster (fun vs H Q E h => ?_) (fun cdv A outer s H vs Q E hr h => ⟨_, (pss_cons (ps_expr (pe_cal (E := E) C_need_width (hr.mono (by first | decide | omega)) (passes_call (takes_of rfl rfl rfl rfl) (fun _ _ _ _ h => h)) (pa_cons (pv 0) pa_nil)))
 pss_nev), ?_⟩)
  · obtain ⟨v, xs, rfl, h1, _⟩ := h
    show xs.length + 1 = 1 + 1
    omega
  · obtain ⟨v, xs, rfl, h1, hb, k⟩ := h
    obtain ⟨y1, rfl⟩ : ∃ y1, xs = [y1] := by
      match xs, h1 with
      | [y1], _ => exact ⟨_, rfl⟩
    tm_at "r"
    exact ⟨v, [], rfl, rfl, hb, k⟩
theorem ok_judged_B {f c : Addr} {fd : FuncData} (F : Fun K "judged" "judged" s_judged f fd) (T : TxB mg) (C_need_roster : Cal P w K mg base 2 "need_roster" ["width", "roster"] (sp_bw 1 c)) : FnOk P w K mg base (L2.CX P w) 3 f fd ["width", "roster", "looks"] (sp_bw 2 c) := by
  refine F.okX sc_judged (fun vs H Q E h => ?_) (fun cdv A outer s H vs Q E hr h => ⟨_, (pss_cons (ps_expr (pe_cal (E := E) C_need_roster (hr.mono (by first | decide | omega)) (passes_call (takes_of rfl rfl rfl rfl) (fun _ _ _ _ h => h)) (pa_cons (pv 0) (pa_cons (pv 1) pa_nil))))
 pss_nev), ?_⟩)
  · obtain ⟨v, xs, rfl, h1, _⟩ := h
    show xs.length + 1 = 2 + 1
    omega
  · obtain ⟨v, xs, rfl, h1, hb, k⟩ := h
    obtain ⟨y1, y2, rfl⟩ : ∃ y1 y2, xs = [y1, y2] := by
      match xs, h1 with
      | [y1, y2], _ => exact ⟨_, _, rfl⟩
    tm_at "r"
    exact ⟨v, [y1], rfl, rfl, hb, k⟩
theorem ok_least_B {f c : Addr} {fd : FuncData} (F : Fun K "least" "least" s_least f fd) (T : TxB mg) (C_need_roster : Cal P w K mg base 2 "need_roster" ["width", "roster"] (sp_bw 1 c)) : FnOk P w K mg base (L2.CX P w) 3 f fd ["width", "roster", "hung"] (sp_bw 2 c) := by
  refine F.okX sc_least (fun vs H Q E h => ?_) (fun cdv A outer s H vs Q E hr h => ⟨_, (pss_cons (ps_expr (pe_cal (E := E) C_need_roster (hr.mono (by first | decide | omega)) (passes_call (takes_of rfl rfl rfl rfl) (fun _ _ _ _ h => h)) (pa_cons (pv 0) (pa_cons (pv 1) pa_nil))))
 pss_nev), ?_⟩)
  · obtain ⟨v, xs, rfl, h1, _⟩ := h
    show xs.length + 1 = 2 + 1
    omega
  · obtain ⟨v, xs, rfl, h1, hb, k⟩ := h
    obtain ⟨y1, y2, rfl⟩ : ∃ y1 y2, xs = [y1, y2] := by
      match xs, h1 with
      | [y1, y2], _ => exact ⟨_, _, rfl⟩
    tm_at "r"
    exact ⟨v, [y1], rfl, rfl, hb, k⟩
theorem ok_plan_of_B {f c : Addr} {fd : FuncData} (F : Fun K "plan_of" "plan_of" s_plan_of f fd) (T : TxB mg) (C_need_roster : Cal P w K mg base 2 "need_roster" ["width", "roster"] (sp_bw 1 c)) : FnOk P w K mg base (L2.CX P w) 3 f fd ["width", "roster"] (sp_bw 1 c) := by
  refine F.okX sc_plan_of (fun vs H Q E h => ?_) (fun cdv A outer s H vs Q E hr h => ⟨_, (pss_cons (ps_expr (pe_cal (E := E) C_need_roster (hr.mono (by first | decide | omega)) (passes_call (takes_of rfl rfl rfl rfl) (fun _ _ _ _ h => h)) (pa_cons (pv 0) (pa_cons (pv 1) pa_nil))))
 pss_nev), ?_⟩)
  · obtain ⟨v, xs, rfl, h1, _⟩ := h
    show xs.length + 1 = 1 + 1
    omega
  · obtain ⟨v, xs, rfl, h1, hb, k⟩ := h
    obtain ⟨y1, rfl⟩ : ∃ y1, xs = [y1] := by
      match xs, h1 with
      | [y1], _ => exact ⟨_, rfl⟩
    tm_at "r"
    exact ⟨v, [y1], rfl, rfl, hb, k⟩
theorem ok_follows_B {f c : Addr} {fd : FuncData} (F : Fun K "follows" "follows" s_follows f fd) (T : TxB mg) (C_need_roster : Cal P w K mg base 2 "need_roster" ["width", "roster"] (sp_bw 1 c)) : FnOk P w K mg base (L2.CX P w) 3 f fd ["width", "roster", "plan"] (sp_bw 2 c) := by
  refine F.okX sc_follows (fun vs H Q E h => ?_) (fun cdv A outer s H vs Q E hr h => ⟨_, (pss_cons (ps_expr (pe_cal (E := E) C_need_roster (hr.mono (by first | decide | omega)) (passes_call (takes_of rfl rfl rfl rfl) (fun _ _ _ _ h => h)) (pa_cons (pv 0) (pa_cons (pv 1) pa_nil))))
 pss_nev), ?_⟩)
  · obtain ⟨v, xs, rfl, h1, _⟩ := h
    show xs.length + 1 = 2 + 1
    omega
  · obtain ⟨v, xs, rfl, h1, hb, k⟩ := h
    obtain ⟨y1, y2, rfl⟩ : ∃ y1 y2, xs = [y1, y2] := by
      match xs, h1 with
      | [y1, y2], _ => exact ⟨_, _, rfl⟩
    tm_at "r"
    exact ⟨v, [y1], rfl, rfl, hb, k⟩
theorem ok_Wire_init_B {f c : Addr} {fd : FuncData} (F : Fun K "__init__" "Wire.__init__" s_Wire_init f fd) (T : TxB mg) (C_need_width : Cal P w K mg base 1 "need_width" ["width"] (sp_bw 0 c)) : FnOk P w K mg base (L2.CX P w) 2 f fd ["self", "width"] (sp_binit c) := by
  refine F.okX sc_Wire_init (fun vs H Q E h => ?_) (fun cdv A outer s H vs Q E hr h => ⟨_, (pss_cons (ps_expr (pe_cal (E := E) C_need_width (hr.mono (by first | decide | omega)) (passes_call (takes_of rfl rfl rfl rfl) (fun _ _ _ _ h => h)) (pa_cons (pv 1) pa_nil)))
 pss_nev), ?_⟩)
  · obtain ⟨a, v, rfl, _⟩ := h
    rfl
  · obtain ⟨a, v, rfl, hb, k⟩ := h
    tm_at "r"
    exact ⟨v, [], rfl, rfl, hb, k⟩
theorem ok_Day_init_B {f c CW : Addr} {fd : FuncData} (F : Fun K "__init__" "Day.__init__" s_Day_init f fd) (T : TxB mg) (C_Wire : CalC P w K mg base 2 CW "Wire" ["self", "width"] (sp_binit c)) : FnOk P w K mg base (L2.CX P w) 4 f fd ["self", "width"] (sp_binit c) := by
  refine F.okX sc_Day_init (fun vs H Q E h => ?_) (fun cdv A outer s H vs Q E hr h => ⟨_, (pss_cons (sFldK (K := K) rfl (pv 0) (pe_mk C_Wire (hr.mono (by first | decide | omega)) (passes_call (takes_of rfl rfl rfl rfl) (fun _ _ _ _ h => h)) (pa_cons (pv 1) pa_nil)) rfl)
 pss_nev), ?_⟩)
  · obtain ⟨a, v, rfl, _⟩ := h
    rfl
  · obtain ⟨a, v, rfl, hb, k⟩ := h
    tm_at "r"
    refine w_make ?_
    tm_at "r"
    intro a2 dx ha hdx hne2
    exact ⟨.ref a2, v, rfl, hb, fun H' e => k H' ((ext_make (C := CW) ha hdx hne2).trans e)⟩
theorem ok_played_B {f c CD : Addr} {fd : FuncData} (F : Fun K "played" "played" s_played f fd) (T : TxB mg) (C_Day : CalC P w K mg base 4 CD "Day" ["self", "width"] (sp_binit c)) : FnOk P w K mg base (L2.CX P w) 6 f fd ["width", "steps"] (sp_bw 1 c) := by
  refine F.okX sc_played (fun vs H Q E h => ?_) (fun cdv A outer s H vs Q E hr h => ⟨_, (pss_cons (ps_set (i := 2) sc_played.nd rfl (by first | exact Or.inl rfl | exact Or.inr rfl) (pe_mk C_Day (hr.mono (by first | decide | omega)) (passes_call (takes_of rfl rfl rfl rfl) (fun _ _ _ _ h => h)) (pa_cons (pv 0) pa_nil)))
 pss_nev), ?_⟩)
  · obtain ⟨v, xs, rfl, h1, _⟩ := h
    show xs.length + 1 = 1 + 1
    omega
  · obtain ⟨v, xs, rfl, h1, hb, k⟩ := h
    obtain ⟨y1, rfl⟩ : ∃ y1, xs = [y1] := by
      match xs, h1 with
      | [y1], _ => exact ⟨_, rfl⟩
    tm_at "r"
    refine w_make ?_
    tm_at "r"
    intro a2 dx ha hdx hne2
    exact ⟨.ref a2, v, rfl, hb, fun H' e => k H' ((ext_make (C := CD) ha hdx hne2).trans e)⟩
theorem ok_met_N {f cW cN : Addr} {fd : FuncData} (F : Fun K "met" "met" s_met f fd) (T : TxB mg) (C_need_width : Cal P w K mg base 1 "need_width" ["width"] (sp_need_width cW)) (C_need_number : Cal P w K mg base 3 "need_number" ["width", "part"] (sp_need_number K cN)) : FnOk P w K mg base (L2.CX P w) 4 f fd ["width", "numbers"] (sp_badN K cN) := by
  refine F.okX sc_met (fun vs H Q E h => ?_) (fun cdv A outer s H vs Q E hr h => ⟨_, (pss_cons (ps_expr (pe_cal (E := E) C_need_width (hr.mono (by first | decide | omega)) (passes_call (takes_of rfl rfl rfl rfl) (fun _ _ _ _ h => h)) (pa_cons (pv 0) pa_nil)))
 (pss_cons (ps_for (passes_of rfl) rfl (piL (K := K) rfl (pv 1)) (pg_name (i := 2) sc_met.nd rfl (by first | exact Or.inl rfl | exact Or.inr rfl))
 (pss_one (ps_expr (pe_cal (E := E) C_need_number (hr.mono (by first | decide | omega)) (passes_call (takes_of rfl rfl rfl rfl) (fun _ _ _ _ h => h)) (pa_cons (pv 0) (pa_cons (pv 2) pa_nil))))))
 pss_nev)), ?_⟩)
  · obtain ⟨n, p, ls, v, d, rfl, _⟩ := h
    rfl
  · obtain ⟨n, p, ls, v, d, rfl, hn, hp, hls, hlz, hv, k⟩ := h
    tm_at "r"
    refine ⟨(n : Int), rfl, fun _ => ?_, fun h => absurd ⟨by omega, by omega⟩ h⟩
    tm_at "r"
    refine forL (fun i σ H' => (∃ y : Option V, σ = [some (.int (n : Int)), some (.ref p), y]) ∧ Ext H H' ∧ i ≤ ls.length) (fun i σ H' ⟨_, e, _⟩ => e.seq (nsh_badN _ _) hp) ⟨⟨_, rfl⟩, Ext.refl H, Nat.zero_le _⟩ ?_ ?_
    · rintro i x σ H1 NN hi ⟨⟨y, rfl⟩, e1, hiz⟩ kN
      by_cases c : i < ls.length
      · have hx : (bvs ls)[i]? = some x := by rw [← hi, List.getElem?_append_left (by rw [bvs_len]; exact c)]
        obtain ⟨u, hu, rfl⟩ := bvs_get hx
        have hul := hls u (List.mem_of_getElem? hu)
        have hvu : Dq K H1 (.str (B u)) (.str (B u)) := .str _
        tm_at "r"
        refine u_need_number hvu (okD_bits (by omega)) (fun _ H2 e2 => ?_) fun h => absurd (numD_bits u n) (by rw [h, hul, decide_eq_true rfl]; decide)
        tm_at "r"
        exact kN _ _ ⟨⟨_, rfl⟩, e1.trans e2, c⟩
      · have hi2 : i = ls.length := by omega
        subst hi2
        have hx : x = v := by
          rw [List.getElem?_append_right (by rw [bvs_len]; exact Nat.le_refl _), bvs_len, Nat.sub_self] at hi
          exact (Option.some.inj hi).symm
        subst hx
        tm_at "r"
        refine u_need_number (hv.1 H1) hv.2.1 (fun h => absurd h (by rw [hv.2.2]; decide)) fun _ H2 e2 => k H2 (e1.trans e2)
    · rintro σ H1 ⟨_, _, h⟩
      rw [List.length_append, bvs_len] at h
      exact absurd h (by show ¬ _ + 2 ≤ _; omega)
theorem ok_fewest_N {f cW cN : Addr} {fd : FuncData} (F : Fun K "fewest" "fewest" s_fewest f fd) (T : TxB mg) (C_need_width : Cal P w K mg base 1 "need_width" ["width"] (sp_need_width cW)) (C_need_number : Cal P w K mg base 3 "need_number" ["width", "part"] (sp_need_number K cN)) : FnOk P w K mg base (L2.CX P w) 4 f fd ["width", "numbers"] (sp_badN K cN) := by
  refine F.okX sc_fewest (fun vs H Q E h => ?_) (fun cdv A outer s H vs Q E hr h => ⟨_, (pss_cons (ps_expr (pe_cal (E := E) C_need_width (hr.mono (by first | decide | omega)) (passes_call (takes_of rfl rfl rfl rfl) (fun _ _ _ _ h => h)) (pa_cons (pv 0) pa_nil)))
 (pss_cons (ps_for (passes_of rfl) rfl (piL (K := K) rfl (pv 1)) (pg_name (i := 2) sc_fewest.nd rfl (by first | exact Or.inl rfl | exact Or.inr rfl))
 (pss_one (ps_expr (pe_cal (E := E) C_need_number (hr.mono (by first | decide | omega)) (passes_call (takes_of rfl rfl rfl rfl) (fun _ _ _ _ h => h)) (pa_cons (pv 0) (pa_cons (pv 2) pa_nil))))))
 pss_nev)), ?_⟩)
  · obtain ⟨n, p, ls, v, d, rfl, _⟩ := h
    rfl
  · obtain ⟨n, p, ls, v, d, rfl, hn, hp, hls, hlz, hv, k⟩ := h
    tm_at "r"
    refine ⟨(n : Int), rfl, fun _ => ?_, fun h => absurd ⟨by omega, by omega⟩ h⟩
    tm_at "r"
    refine forL (fun i σ H' => (∃ y : Option V, σ = [some (.int (n : Int)), some (.ref p), y, none, none]) ∧ Ext H H' ∧ i ≤ ls.length) (fun i σ H' ⟨_, e, _⟩ => e.seq (nsh_badN _ _) hp) ⟨⟨_, rfl⟩, Ext.refl H, Nat.zero_le _⟩ ?_ ?_
    · rintro i x σ H1 NN hi ⟨⟨y, rfl⟩, e1, hiz⟩ kN
      by_cases c : i < ls.length
      · have hx : (bvs ls)[i]? = some x := by rw [← hi, List.getElem?_append_left (by rw [bvs_len]; exact c)]
        obtain ⟨u, hu, rfl⟩ := bvs_get hx
        have hul := hls u (List.mem_of_getElem? hu)
        have hvu : Dq K H1 (.str (B u)) (.str (B u)) := .str _
        tm_at "r"
        refine u_need_number hvu (okD_bits (by omega)) (fun _ H2 e2 => ?_) fun h => absurd (numD_bits u n) (by rw [h, hul, decide_eq_true rfl]; decide)
        tm_at "r"
        exact kN _ _ ⟨⟨_, rfl⟩, e1.trans e2, c⟩
      · have hi2 : i = ls.length := by omega
        subst hi2
        have hx : x = v := by
          rw [List.getElem?_append_right (by rw [bvs_len]; exact Nat.le_refl _), bvs_len, Nat.sub_self] at hi
          exact (Option.some.inj hi).symm
        subst hx
        tm_at "r"
        refine u_need_number (hv.1 H1) hv.2.1 (fun h => absurd h (by rw [hv.2.2]; decide)) fun _ H2 e2 => k H2 (e1.trans e2)
    · rintro σ H1 ⟨_, _, h⟩
      rw [List.length_append, bvs_len] at h
      exact absurd h (by show ¬ _ + 2 ≤ _; omega)
end
end My
end

section
/-! what looks show, told of the sets of numbers that tell so -/
namespace Lw
open PySem L2
def ansE (e : Look) (c : Bool) : Bool := if c then e.2.2 else e.2.1
/-- this set tells so -/
def Cons (L : List Look) (w : Nat) (X : Bits → Prop) : Prop := (∀ x, X x → x.length = w) ∧ ∀ e ∈ L, ∀ c, (ansE e c = true ↔ ∃ x, X x ∧ e.1 ++ [c] <+: x)
/-- a number that begins with q and may hang there -/
def Al (L : List Look) (w : Nat) (q x : Bits) : Prop := q <+: x ∧ x.length = w ∧ ∀ p, q <+: p → p <+: x → bareB L p = false
section
variable {L : List Look} {w : Nat} {q x y p : Bits} {c : Bool}
theorem bare_iff : bareB L p = true ↔ ∃ e ∈ L, ∃ c, ansE e c = false ∧ p = e.1 ++ [c] := by
  unfold bareB
  rw [List.any_eq_true]
  constructor
  · rintro ⟨e, he, h⟩
    rw [Bool.or_eq_true, Bool.and_eq_true, Bool.and_eq_true, Bool.not_eq_true', Bool.not_eq_true', decide_eq_true_eq, decide_eq_true_eq] at h
    rcases h with ⟨h1, h2⟩ | ⟨h1, h2⟩
    · exact ⟨e, he, false, h1, h2⟩
    · exact ⟨e, he, true, h1, h2⟩
  · rintro ⟨e, he, c, h1, h2⟩
    refine ⟨e, he, ?_⟩
    rw [Bool.or_eq_true, Bool.and_eq_true, Bool.and_eq_true, Bool.not_eq_true', Bool.not_eq_true', decide_eq_true_eq, decide_eq_true_eq]
    cases c
    · exact .inl ⟨h1, h2⟩
    · exact .inr ⟨h1, h2⟩
theorem full_iff : fullB L p = true ↔ p ≠ [] ∧ ∃ e ∈ L, ∃ c, ansE e c = true ∧ p <+: e.1 ++ [c] := by
  unfold fullB
  rw [Bool.and_eq_true, List.any_eq_true]
  refine and_congr (by cases p <;> simp) ⟨?_, ?_⟩
  · rintro ⟨e, he, h⟩
    rw [Bool.or_eq_true, Bool.and_eq_true, Bool.and_eq_true, decide_eq_true_eq, decide_eq_true_eq] at h
    rcases h with ⟨h1, h2⟩ | ⟨h1, h2⟩
    · exact ⟨e, he, false, h1, h2⟩
    · exact ⟨e, he, true, h1, h2⟩
  · rintro ⟨e, he, c, h1, h2⟩
    refine ⟨e, he, ?_⟩
    rw [Bool.or_eq_true, Bool.and_eq_true, Bool.and_eq_true, decide_eq_true_eq, decide_eq_true_eq]
    cases c
    · exact .inl ⟨h1, h2⟩
    · exact .inr ⟨h1, h2⟩
theorem bare_nil : bareB L [] = false := by
  cases e : bareB L [] with
  | false => rfl
  | true =>
    obtain ⟨e, _, c, _, h⟩ := bare_iff.mp e
    exact absurd h (by simp)
theorem full_pre (h : fullB L p = true) (hq : q <+: p) (hn : q ≠ []) : fullB L q = true := by
  obtain ⟨_, e, he, c, h1, h2⟩ := full_iff.mp h
  exact full_iff.mpr ⟨hn, e, he, c, h1, hq.trans h2⟩
theorem al_next (hq : q.length < w) (hb : bareB L q = false) : Al L w q x ↔ ∃ c, Al L w (q ++ [c]) x := by
  constructor
  · rintro ⟨h1, h2, h3⟩
    obtain ⟨r, rfl⟩ := h1
    cases r with
    | nil =>
      rw [List.append_nil] at h2
      omega
    | cons c r =>
      refine ⟨c, ⟨r, by simp⟩, h2, fun p hp hx => h3 p ((List.prefix_append _ _).trans hp) hx⟩
  · rintro ⟨c, h1, h2, h3⟩
    refine ⟨(List.prefix_append _ _).trans h1, h2, fun p hp hx => ?_⟩
    by_cases e : p = q
    · rw [e]
      exact hb
    · refine h3 p ?_ hx
      have hlt : q.length < p.length := by
        have := hp.length_le
        rcases Nat.lt_or_ge q.length p.length with h | h
        · exact h
        · exact absurd (List.IsPrefix.eq_of_length hp (by omega)).symm e
      have : (q ++ [c]).length ≤ p.length := by rw [List.length_append]; show q.length + 1 ≤ _; omega
      exact List.prefix_of_prefix_length_le h1 hx this
theorem al_apart (h1 : Al L w (q ++ [false]) x) (h2 : Al L w (q ++ [true]) y) : x ≠ y := by
  rintro rfl
  have := List.prefix_of_prefix_length_le h1.1 h2.1 (by simp)
  have := List.IsPrefix.eq_of_length this (by simp)
  have := List.append_cancel_left this
  simp at this
theorem al_free (hn : askedB L q = false) (hb : bareB L q = false) (h1 : q <+: x) (h2 : x.length = w) : Al L w q x := by
  refine ⟨h1, h2, fun p hp hx => ?_⟩
  cases hbp : bareB L p with
  | false => rfl
  | true =>
    obtain ⟨e, he, c, _, rfl⟩ := bare_iff.mp hbp
    rcases List.prefix_concat_iff.mp hp with h | h
    · rw [← h, hb] at hbp
      cases hbp
    · have : askedB L q = true := by
        unfold askedB
        rw [List.any_eq_true]
        exact ⟨e, he, decide_eq_true h⟩
      rw [hn] at this
      cases this
theorem cnt_sem (hl : ∀ e ∈ L, e.1.length < w) : ∀ {h : Nat} {q : Bits}, h + q.length = w → (cnt L h q = 0 → ∀ x, ¬ Al L w q x) ∧ (cnt L h q = 1 → ∃ x, Al L w q x ∧ ∀ y, Al L w q y → y = x) ∧ (cnt L h q = 2 → ∃ x y, x ≠ y ∧ Al L w q x ∧ Al L w q y)
  | 0, q, hh => by
    have hq : q.length = w := by omega
    unfold cnt
    cases hb : bareB L q with
    | true =>
      simp only [if_true]
      refine ⟨fun _ x hx => ?_, fun h => (by cases h), fun h => (by cases h)⟩
      have := hx.2.2 q (List.prefix_refl _) hx.1
      rw [hb] at this
      cases this
    | false =>
      simp only [Bool.false_eq_true, if_false]
      refine ⟨fun h => (by cases h), fun _ => ⟨q, ⟨List.prefix_refl _, hq, fun p h1 h2 => ?_⟩, fun y hy => ?_⟩, fun h => (by cases h)⟩
      · have := List.IsPrefix.eq_of_length h1 (by have := h1.length_le; have := h2.length_le; omega)
        rw [← this]
        exact hb
      · exact (List.IsPrefix.eq_of_length hy.1 (by rw [hq, hy.2.1])).symm
  | n + 1, q, hh => by
    have hn : ∀ c, n + (q ++ [c]).length = w := fun c => by
      rw [List.length_append]
      simp only [List.length_cons, List.length_nil]
      omega
    unfold cnt
    cases hb : bareB L q with
    | true =>
      simp only [if_true]
      refine ⟨fun _ x hx => ?_, fun h => (by cases h), fun h => (by cases h)⟩
      have := hx.2.2 q (List.prefix_refl _) hx.1
      rw [hb] at this
      cases this
    | false =>
      simp only [Bool.false_eq_true, if_false]
      have hnx := fun x => al_next (x := x) (show q.length < w by omega) hb
      cases ha : askedB L q with
      | false =>
        simp only [Bool.false_eq_true, if_false]
        refine ⟨fun h => (by cases h), fun h => (by cases h), fun _ => ⟨q ++ List.replicate (n + 1) false, q ++ List.replicate (n + 1) true, fun e => ?_, al_free ha hb (List.prefix_append _ _) (by simp; omega), al_free ha hb (List.prefix_append _ _) (by simp; omega)⟩⟩
        have := List.append_cancel_left e
        simp [List.replicate_succ] at this
      | true =>
        simp only [if_true]
        obtain ⟨a0, a1, a2⟩ := cnt_sem hl (hn false)
        obtain ⟨b0, b1, b2⟩ := cnt_sem hl (hn true)
        have l0 := cnt_le (L := L) (h := n) (q := q ++ [false])
        have l1 := cnt_le (L := L) (h := n) (q := q ++ [true])
        generalize cnt L n (q ++ [false]) = k0 at *
        generalize cnt L n (q ++ [true]) = k1 at *
        refine ⟨fun h x hx => ?_, fun h => ?_, fun h => ?_⟩
        · obtain ⟨c, hc⟩ := (hnx x).mp hx
          cases c
          · exact a0 (by omega) x hc
          · exact b0 (by omega) x hc
        · have : (k0 = 1 ∧ k1 = 0) ∨ (k0 = 0 ∧ k1 = 1) := by omega
          rcases this with ⟨rfl, rfl⟩ | ⟨rfl, rfl⟩
          · obtain ⟨x, hx, hu⟩ := a1 rfl
            refine ⟨x, (hnx x).mpr ⟨false, hx⟩, fun y hy => ?_⟩
            obtain ⟨c, hc⟩ := (hnx y).mp hy
            cases c
            · exact hu y hc
            · exact absurd hc (b0 rfl y)
          · obtain ⟨x, hx, hu⟩ := b1 rfl
            refine ⟨x, (hnx x).mpr ⟨true, hx⟩, fun y hy => ?_⟩
            obtain ⟨c, hc⟩ := (hnx y).mp hy
            cases c
            · exact absurd hc (a0 rfl y)
            · exact hu y hc
        · by_cases h0 : k0 = 2
          · obtain ⟨x, y, hne, hx, hy⟩ := a2 h0
            exact ⟨x, y, hne, (hnx x).mpr ⟨false, hx⟩, (hnx y).mpr ⟨false, hy⟩⟩
          · by_cases h1 : k1 = 2
            · obtain ⟨x, y, hne, hx, hy⟩ := b2 h1
              exact ⟨x, y, hne, (hnx x).mpr ⟨true, hx⟩, (hnx y).mpr ⟨true, hy⟩⟩
            · obtain ⟨x, hx, _⟩ := a1 (by omega)
              obtain ⟨y, hy, _⟩ := b1 (by omega)
              exact ⟨x, y, al_apart hx hy, (hnx x).mpr ⟨false, hx⟩, (hnx y).mpr ⟨true, hy⟩⟩
theorem cons_iff {X : Bits → Prop} : Cons L w X ↔ (∀ x, X x → Al L w [] x) ∧ ∀ q, fullB L q = true → ∃ x, X x ∧ q <+: x := by
  constructor
  · rintro ⟨h1, h2⟩
    refine ⟨fun x hx => ⟨List.nil_prefix, h1 x hx, fun p _ hp => ?_⟩, fun q hq => ?_⟩
    · cases hb : bareB L p with
      | false => rfl
      | true =>
        obtain ⟨e, he, c, ha, rfl⟩ := bare_iff.mp hb
        have := (h2 e he c).mpr ⟨x, hx, hp⟩
        rw [ha] at this
        cases this
    · obtain ⟨_, e, he, c, ha, hp⟩ := full_iff.mp hq
      obtain ⟨x, hx, hxp⟩ := (h2 e he c).mp ha
      exact ⟨x, hx, hp.trans hxp⟩
  · rintro ⟨h1, h2⟩
    refine ⟨fun x hx => (h1 x hx).2.1, fun e he c => ⟨fun ha => ?_, fun ⟨x, hx, hp⟩ => ?_⟩⟩
    · exact h2 _ (full_iff.mpr ⟨by simp, e, he, c, ha, List.prefix_refl _⟩)
    · cases ha : ansE e c with
      | true => rfl
      | false =>
        have := (h1 x hx).2.2 _ List.nil_prefix hp
        rw [bare_iff.mpr ⟨e, he, c, ha, rfl⟩] at this
        cases this
/-- where nothing is torn, what may hang below is not barred above -/
theorem al_root (hl : ∀ e ∈ L, e.1.length < w) (hT : TI L w [] = false) (hf : fullB L q = true) (hx : Al L w q x) : Al L w [] x := by
  refine ⟨List.nil_prefix, hx.2.1, fun p _ hp => ?_⟩
  rcases Nat.lt_or_ge p.length q.length with h | h
  · have hpq : p <+: q := List.prefix_of_prefix_length_le hp hx.1 (by omega)
    cases hb : bareB L p with
    | false => rfl
    | true =>
      have hn : p ≠ [] := fun e => by rw [e, bare_nil] at hb; cases hb
      have : TI L w [] = true := (torn_iff hl).mp ⟨p, full_pre hf hpq hn, by rw [cnt_cin, hb]; rfl⟩
      rw [hT] at this
      cases this
  · exact hx.2.2 p (List.prefix_of_prefix_length_le hx.1 hp h) hp
theorem blt_pre2 : ∀ {q x y : Bits}, q ++ [false] <+: x → q ++ [true] <+: y → blt x y = true
  | [], x, y, h1, h2 => by
    obtain ⟨r, rfl⟩ := h1
    obtain ⟨s, rfl⟩ := h2
    simp [blt]
  | a :: q, x, y, h1, h2 => by
    obtain ⟨r, rfl⟩ := h1
    obtain ⟨s, rfl⟩ := h2
    have := blt_pre2 (q := q) (List.prefix_append (q ++ [false]) r) (List.prefix_append (q ++ [true]) s)
    simpa [blt] using this
theorem frc_spec (hl : ∀ e ∈ L, e.1.length < w) : ∀ {h : Nat} {q : Bits} {f : Bool} {ns : List Bits}, h + q.length = w → frc L h q f = some ns → (∀ x, x ∈ ns ↔ Al L w q x) ∧ Rise ns ∧
    ∀ x ∈ ns, f = true ∨ ∃ p, q <+: p ∧ p <+: x ∧ fullB L p = true ∧ cnt L (w - p.length) p = 1 := by
  intro h
  induction h with
  | zero =>
    intro q f ns hh hf
    have hq : q.length = w := by omega
    rw [frc_fin] at hf
    by_cases h0 : cnt L 0 q = 0
    · rw [if_pos h0] at hf
      cases hf
      exact ⟨fun x => ⟨fun h => (by cases h), fun h => absurd h ((cnt_sem hl hh).1 h0 x)⟩, List.Pairwise.nil, fun x hx => (by cases hx)⟩
    · rw [if_neg h0] at hf
      have hb : bareB L q = false := by
        cases hb : bareB L q with
        | false => rfl
        | true => exact absurd (by rw [cnt_cin, hb]; rfl) h0
      have h1 : cnt L 0 q = 1 := by rw [cnt_cin, hb]; rfl
      have ez : ∀ f, fin_ L 0 q f = if f then some [q] else none := fun f => rfl
      rw [ez] at hf
      split at hf
      · rename_i hg
        cases hf
        obtain ⟨x0, hx0, hu⟩ := (cnt_sem hl hh).2.1 h1
        have e0 : x0 = q := (List.IsPrefix.eq_of_length hx0.1 (by rw [hq, hx0.2.1])).symm
        subst e0
        refine ⟨fun x => ⟨fun h => by rw [List.mem_singleton.mp h]; exact hx0, fun h => by rw [hu x h]; exact List.mem_singleton.mpr rfl⟩, List.pairwise_singleton _ _, fun x hx => ?_⟩
        rw [List.mem_singleton.mp hx]
        rw [Bool.or_eq_true, Bool.and_eq_true] at hg
        refine hg.imp id fun hg => ⟨x0, List.prefix_refl _, List.prefix_refl _, hg.2, ?_⟩
        rw [hq, Nat.sub_self]
        exact h1
      · cases hf
  | succ n ih =>
    intro q f ns hh hf
    have hn : ∀ c, n + (q ++ [c]).length = w := fun c => by
      rw [List.length_append]
      simp only [List.length_cons, List.length_nil]
      omega
    rw [frc_fin] at hf
    by_cases h0 : cnt L (n + 1) q = 0
    · rw [if_pos h0] at hf
      cases hf
      exact ⟨fun x => ⟨fun h => (by cases h), fun h => absurd h ((cnt_sem hl hh).1 h0 x)⟩, List.Pairwise.nil, fun x hx => (by cases hx)⟩
    · rw [if_neg h0, fin_succ] at hf
      have hb : bareB L q = false := by
        cases hb : bareB L q with
        | false => rfl
        | true => exact absurd (by rw [cnt_cin, hb]; rfl) h0
      split at hf
      · obtain ⟨g, hg⟩ : ∃ g, g = (f || (decide (cnt L (n + 1) q = 1) && fullB L q)) := ⟨_, rfl⟩
        rw [← hg] at hf
        cases e0 : frc L n (q ++ [false]) g with
        | none => rw [e0] at hf; cases hf
        | some v0 =>
          cases e1 : frc L n (q ++ [true]) g with
          | none => rw [e0, e1] at hf; cases hf
          | some v1 =>
            rw [e0, e1] at hf
            cases hf
            obtain ⟨a1, a2, a3⟩ := ih (hn false) e0
            obtain ⟨b1, b2, b3⟩ := ih (hn true) e1
            refine ⟨fun x => ?_, ?_, fun x hx => ?_⟩
            · rw [List.mem_append, a1, b1, al_next (by omega) hb]
              constructor
              · rintro (h | h)
                · exact ⟨_, h⟩
                · exact ⟨_, h⟩
              · rintro ⟨c, h⟩
                cases c
                · exact .inl h
                · exact .inr h
            · exact List.pairwise_append.mpr ⟨a2, b2, fun x hx y hy => blt_pre2 ((a1 x).mp hx).1 ((b1 y).mp hy).1⟩
            · have key : g = true ∨ ∃ p, q <+: p ∧ p <+: x ∧ fullB L p = true ∧ cnt L (w - p.length) p = 1 := by
                rcases List.mem_append.mp hx with h | h
                · exact (a3 x h).imp id fun ⟨p, h1, h2⟩ => ⟨p, (List.prefix_append _ _).trans h1, h2⟩
                · exact (b3 x h).imp id fun ⟨p, h1, h2⟩ => ⟨p, (List.prefix_append _ _).trans h1, h2⟩
              rcases key with h | h
              · rw [hg, Bool.or_eq_true, Bool.and_eq_true, decide_eq_true_eq] at h
                rcases h with h | h
                · exact .inl h
                · refine .inr ⟨q, List.prefix_refl _, ?_, h.2, ?_⟩
                  · rcases List.mem_append.mp hx with h | h
                    · exact (List.prefix_append _ _).trans ((a1 x).mp h).1
                    · exact (List.prefix_append _ _).trans ((b1 x).mp h).1
                  · rw [show w - q.length = n + 1 by omega]
                    exact h.1
              · exact .inr h
      · cases hf
theorem frc_loose (hl : ∀ e ∈ L, e.1.length < w) : ∀ {h : Nat} {q : Bits}, h + q.length = w → frc L h q false = none → ∃ x, Al L w q x ∧ ∀ p, q <+: p → p <+: x → fullB L p = true → ∃ y, y ≠ x ∧ Al L w p y := by
  intro h
  induction h with
  | zero =>
    intro q hh hf
    have hq : q.length = w := by omega
    rw [frc_fin] at hf
    by_cases h0 : cnt L 0 q = 0
    · rw [if_pos h0] at hf
      cases hf
    · rw [if_neg h0] at hf
      have h1 : cnt L 0 q = 1 := by
        have ec : cnt L 0 q = if bareB L q then 0 else 1 := rfl
        rw [ec] at h0 ⊢
        split at h0
        · exact absurd rfl h0
        · rename_i hb
          rw [if_neg hb]
      obtain ⟨x, hx, hu⟩ := (cnt_sem hl hh).2.1 h1
      refine ⟨x, hx, fun p hp hpx hfp => ?_⟩
      have e : p = q := (List.IsPrefix.eq_of_length hp (by have := hp.length_le; have := hpx.length_le; have := hx.2.1; omega)).symm
      rw [e] at hfp
      rw [hfp, decide_eq_true h1] at hf
      cases hf
  | succ n ih =>
    intro q hh hf
    have hn : ∀ c, n + (q ++ [c]).length = w := fun c => by
      rw [List.length_append]
      simp only [List.length_cons, List.length_nil]
      omega
    rw [frc_fin] at hf
    by_cases h0 : cnt L (n + 1) q = 0
    · rw [if_pos h0] at hf
      cases hf
    · rw [if_neg h0, Bool.false_or] at hf
      have hb : bareB L q = false := by
        cases hb : bareB L q with
        | false => rfl
        | true => exact absurd (by rw [cnt_cin, hb]; rfl) h0
      have hle := cnt_le (L := L) (h := n + 1) (q := q)
      have hg : (decide (cnt L (n + 1) q = 1) && fullB L q) = false := by
        cases hg : (decide (cnt L (n + 1) q = 1) && fullB L q) with
        | false => rfl
        | true =>
          rw [hg] at hf
          rw [Bool.and_eq_true, decide_eq_true_eq] at hg
          have h1 := hg.1
          rw [cnt_cin, hb] at h1
          have := fin_true (L := L) (h := n + 1) (q := q) h1
          rw [hf] at this
          cases this
      rw [hg] at hf
      have two : fullB L q = true → ∃ x y, x ≠ y ∧ Al L w q x ∧ Al L w q y := fun hfq => by
        rw [hfq, Bool.and_true, decide_eq_false_iff_not] at hg
        exact (cnt_sem hl hh).2.2 (by omega)
      have other : ∀ x, fullB L q = true → ∃ y, y ≠ x ∧ Al L w q y := fun x hfq => by
        obtain ⟨a, b, hab, ha, hb'⟩ := two hfq
        by_cases e : a = x
        · exact ⟨b, fun e2 => hab (by rw [e, e2]), hb'⟩
        · exact ⟨a, e, ha⟩
      have split_ : ∀ {p x : Bits}, q <+: p → p <+: x → p = q ∨ ∃ c, q ++ [c] <+: p := fun {p x} hp _ => by
        obtain ⟨r, rfl⟩ := hp
        cases r with
        | nil => exact .inl (List.append_nil q)
        | cons c r => exact .inr ⟨c, ⟨r, by simp⟩⟩
      rw [fin_succ] at hf
      cases ha : askedB L q with
      | false =>
        refine ⟨q ++ List.replicate (n + 1) false, al_free ha hb (List.prefix_append _ _) (by simp; omega), fun p hp hpx hfp => ?_⟩
        rcases split_ hp hpx with rfl | ⟨c, hc⟩
        · exact other _ hfp
        · have := full_asked (full_pre hfp hc (by simp))
          rw [ha] at this
          cases this
      | true =>
        rw [ha] at hf
        simp only [if_true] at hf
        obtain ⟨c, hc⟩ : ∃ c, frc L n (q ++ [c]) false = none := by
          cases e0 : frc L n (q ++ [false]) false with
          | none => exact ⟨false, e0⟩
          | some v0 =>
            cases e1 : frc L n (q ++ [true]) false with
            | none => exact ⟨true, e1⟩
            | some v1 => rw [e0, e1] at hf; cases hf
        obtain ⟨x, hx, hp2⟩ := ih (hn c) hc
        refine ⟨x, (al_next (by omega) hb).mpr ⟨c, hx⟩, fun p hp hpx hfp => ?_⟩
        rcases split_ hp hpx with rfl | ⟨d, hd⟩
        · exact other _ hfp
        · refine hp2 p ?_ hpx hfp
          exact List.prefix_of_prefix_length_le hx.1 hpx (by have := hd.length_le; simpa using this)
/-- what a paper shows, told of the sets that tell so -/
theorem shown_sem (hl : ∀ e ∈ L, e.1.length < w) : (TI L w [] = true → ∀ X, ¬ Cons L w X) ∧
    (∀ ns, TI L w [] = false → frc L w [] false = some ns → Rise ns ∧ Cons L w (· ∈ ns) ∧ ∀ X, Cons L w X → ∀ x, X x ↔ x ∈ ns) ∧
    (TI L w [] = false → frc L w [] false = none → ∃ (X Y : Bits → Prop) (x : Bits), Cons L w X ∧ Cons L w Y ∧ X x ∧ ¬ Y x) := by
  have hall : TI L w [] = false → Cons L w (Al L w []) := fun hT => cons_iff.mpr ⟨fun x hx => hx, fun q hq => by
    have h0 : cnt L (w - q.length) q ≠ 0 := fun h => by
      have := (torn_iff hl).mp ⟨q, hq, h⟩
      rw [hT] at this
      cases this
    have hw : w - q.length + q.length = w := by have := full_len hl hq; omega
    have hle := cnt_le (L := L) (h := w - q.length) (q := q)
    obtain ⟨_, s1, s2⟩ := cnt_sem hl hw
    have : ∃ x, Al L w q x := by
      by_cases h1 : cnt L (w - q.length) q = 1
      · obtain ⟨x, hx, _⟩ := s1 h1
        exact ⟨x, hx⟩
      · obtain ⟨x, _, _, hx, _⟩ := s2 (by omega)
        exact ⟨x, hx⟩
    obtain ⟨x, hx⟩ := this
    exact ⟨x, al_root hl hT hq hx, hx.1⟩⟩
  refine ⟨fun hT X hX => ?_, fun ns hT hf => ?_, fun hT hf => ?_⟩
  · obtain ⟨q, hq, h0⟩ := (torn_iff hl).mpr hT
    obtain ⟨h1, h2⟩ := cons_iff.mp hX
    obtain ⟨x, hx, hp⟩ := h2 q hq
    have hw : w - q.length + q.length = w := by have := full_len hl hq; omega
    exact (cnt_sem hl hw).1 h0 x ⟨hp, (h1 x hx).2.1, fun p _ hpx => (h1 x hx).2.2 p List.nil_prefix hpx⟩
  · obtain ⟨a1, a2, a3⟩ := frc_spec hl (by simp) hf
    have hA := hall hT
    have e : (fun x => x ∈ ns) = Al L w [] := funext fun x => propext (a1 x)
    refine ⟨a2, by rw [e]; exact hA, fun X hX x => ⟨fun hx => (a1 x).mpr ((cons_iff.mp hX).1 x hx), fun hx => ?_⟩⟩
    rcases a3 x hx with h | ⟨p, _, hpx, hfp, hc⟩
    · cases h
    · obtain ⟨h1, h2⟩ := cons_iff.mp hX
      obtain ⟨y, hy, hpy⟩ := h2 p hfp
      have hw : w - p.length + p.length = w := by have := full_len hl hfp; omega
      obtain ⟨z, _, hu⟩ := (cnt_sem hl hw).2.1 hc
      have hxa := (a1 x).mp hx
      have ex : x = z := hu x ⟨hpx, hxa.2.1, fun p' _ h => hxa.2.2 p' List.nil_prefix h⟩
      have ey : y = z := hu y ⟨hpy, (h1 y hy).2.1, fun p' _ h => (h1 y hy).2.2 p' List.nil_prefix h⟩
      rw [ex, ← ey]
      exact hy
  · obtain ⟨x, hx, hp⟩ := frc_loose hl (by simp) hf
    have hA := hall hT
    refine ⟨Al L w [], fun y => Al L w [] y ∧ y ≠ x, x, hA, cons_iff.mpr ⟨fun y hy => hy.1, fun q hq => ?_⟩, hx, fun h => h.2 rfl⟩
    obtain ⟨y, hy, hqy⟩ := (cons_iff.mp hA).2 q hq
    by_cases e : y = x
    · rw [e] at hqy
      obtain ⟨z, hz, hza⟩ := hp q List.nil_prefix hqy hq
      exact ⟨z, ⟨al_root hl hT hq hza, hz⟩, hza.1⟩
    · exact ⟨y, ⟨hy, e⟩, hqy⟩
end
end Lw
end

section
/-! the fewest looks; papers of walks on a still wire -/
namespace Lw
open PySem L2
/-- what a look at b tells of some numbers -/
def trL (S : List Bits) (b : Bits) : Look := (b, lookZ S b false, lookZ S b true)
def Tru (S : List Bits) (L : List Look) : Prop := ∀ e ∈ L, e = trL S e.1
/-- where fewest looks -/
def few (S : List Bits) (w : Nat) (b : Bits) : Bool := !(lookZ S b false && lookZ S b true) || decide (b.length + 1 = w)
section
variable {S : List Bits} {L : List Look} {w : Nat} {b x : Bits} {c : Bool}
theorem ans_tr : ansE (trL S b) c = lookZ S b c := by cases c <;> rfl
theorem cons_tru (hS : ∀ x ∈ S, x.length = w) (hT : Tru S L) : Cons L w (· ∈ S) := ⟨hS, fun e he c => by
  rw [hT e he, ans_tr]
  exact lookZ_ex⟩
theorem beg_pre {a b : Bits} (h : a <+: b) (hb : Beg S b) : Beg S a := by
  rcases hb with rfl | ⟨y, hy, hp⟩
  · exact .inl (List.prefix_nil.mp h)
  · exact .inr ⟨y, hy, h.trans hp⟩
theorem beg_look (h : lookZ S b c = true) : Beg S (b ++ [c]) := by
  obtain ⟨y, hy, hp⟩ := lookZ_ex.mp h
  exact .inr ⟨y, hy, hp⟩
theorem look_beg (h : Beg S (b ++ [c])) : lookZ S b c = true := by
  rcases h with h | ⟨y, hy, hp⟩
  · simp at h
  · exact lookZ_ex.mpr ⟨y, hy, hp⟩
/-- looks wherever fewest looks show just these -/
theorem few_uniq (hw : 1 ≤ w) (hS : ∀ x ∈ S, x.length = w) (hT : Tru S L) (hD : ∀ b, Beg S b → b.length < w → few S w b = true → ∃ e ∈ L, e.1 = b) {X : Bits → Prop} (hX : Cons L w X) (x : Bits) : X x ↔ x ∈ S := by
  obtain ⟨h1, h2⟩ := hX
  constructor
  · intro hx
    have hxl := h1 x hx
    refine Classical.byContradiction fun hn => ?_
    -- the longest beginning of x that some of S have
    have key : ∀ k, k ≤ w → Beg S (x.take k) := by
      intro k
      induction k with
      | zero => exact fun _ => .inl (by simp)
      | succ k ih =>
        intro hk
        have hb := ih (by omega)
        obtain ⟨c, hc⟩ : ∃ c, x.take (k + 1) = x.take k ++ [c] := ⟨x[k]'(by omega), by rw [List.take_succ, List.getElem?_eq_getElem (by omega)]; rfl⟩
        rw [hc]
        refine Classical.byContradiction fun hnb => ?_
        have hlk : lookZ S (x.take k) c = false := by
          cases e : lookZ S (x.take k) c with
          | false => rfl
          | true => exact absurd (beg_look e) hnb
        have hlen : (x.take k).length < w := by rw [List.length_take]; omega
        obtain ⟨e, he, heb⟩ := hD _ hb hlen (by unfold few; cases c <;> simp [hlk])
        have := (h2 e he c).mpr ⟨x, hx, by rw [heb, ← hc]; exact List.take_prefix _ _⟩
        rw [hT e he, ans_tr, heb, hlk] at this
        cases this
    have := key w (Nat.le_refl _)
    rw [List.take_of_length_le (by omega)] at this
    rcases this with h | ⟨y, hy, hp⟩
    · rw [h] at hxl
      simp at hxl
      omega
    · have := List.IsPrefix.eq_of_length hp (by rw [hxl, hS y hy])
      exact hn (this ▸ hy)
  · intro hx
    have hxl := hS x hx
    obtain ⟨c, hc⟩ : ∃ c, x = x.take (w - 1) ++ [c] := ⟨x[w - 1]'(by omega), by
      have : x.take (w - 1 + 1) = x.take (w - 1) ++ [x[w - 1]'(by omega)] := by rw [List.take_succ, List.getElem?_eq_getElem (by omega)]; rfl
      rw [← this, List.take_of_length_le (by omega)]⟩
    have hlen : (x.take (w - 1)).length = w - 1 := by rw [List.length_take]; omega
    have hbeg : Beg S (x.take (w - 1) ++ [c]) := by rw [← hc]; exact .inr ⟨x, hx, List.prefix_refl _⟩
    obtain ⟨e, he, heb⟩ := hD (x.take (w - 1)) (beg_pre (List.prefix_append _ _) hbeg) (by omega) (by unfold few; rw [hlen, decide_eq_true (by omega), Bool.or_true])
    obtain ⟨y, hy, hp⟩ := (h2 e he c).mp (by rw [hT e he, ans_tr, heb]; exact look_beg hbeg)
    rw [heb, ← hc] at hp
    have := List.IsPrefix.eq_of_length hp (by rw [hxl, h1 y hy])
    exact this ▸ hy
/-- none of these may be left out -/
theorem few_need (hw : 1 ≤ w) (hS : ∀ x ∈ S, x.length = w) (hT : Tru S L) (hL : ∀ e ∈ L, Beg S e.1 ∧ e.1.length < w) (hb : Beg S b) (hbl : b.length < w) (hbf : few S w b = true) (hn : ∀ e ∈ L, e.1 ≠ b) : ∃ X, Cons L w X ∧ ¬ ∀ x, X x ↔ x ∈ S := by
  have one : (∃ c, lookZ S b c = false) → ∃ X, Cons L w X ∧ ¬ ∀ x, X x ↔ x ∈ S := fun ⟨c, hc⟩ => by
    have hxl : (b ++ [c] ++ List.replicate (w - b.length - 1) false).length = w := by
      simp only [List.length_append, List.length_cons, List.length_nil, List.length_replicate]
      omega
    refine ⟨fun y => y ∈ S ∨ y = b ++ [c] ++ List.replicate (w - b.length - 1) false, ⟨fun y hy => ?_, fun e he d => ?_⟩, fun h => ?_⟩
    · rcases hy with hy | rfl
      · exact hS y hy
      · exact hxl
    · rw [hT e he, ans_tr]
      constructor
      · intro h
        obtain ⟨y, hy, hp⟩ := lookZ_ex.mp h
        exact ⟨y, .inl hy, hp⟩
      · rintro ⟨y, hy | rfl, hp⟩
        · exact lookZ_ex.mpr ⟨y, hy, hp⟩
        · have hp : e.1 ++ [d] <+: b ++ [c] ++ List.replicate (w - b.length - 1) false := hp
          have hbp : b <+: b ++ [c] ++ List.replicate (w - b.length - 1) false := by rw [List.append_assoc]; exact List.prefix_append _ _
          rcases Nat.lt_or_ge b.length (e.1 ++ [d]).length with h | h
          · have hbe : b <+: e.1 := by
              have h1 : b <+: e.1 ++ [d] := List.prefix_of_prefix_length_le hbp hp (by omega)
              rcases List.prefix_concat_iff.mp h1 with h1 | h1
              · rw [h1] at h
                omega
              · exact h1
            have hlt : b.length < e.1.length := by
              have := hbe.length_le
              rcases Nat.lt_or_ge b.length e.1.length with h | h
              · exact h
              · exact absurd (List.IsPrefix.eq_of_length hbe (by omega)).symm (hn e he)
            have hce : b ++ [c] <+: e.1 := List.prefix_of_prefix_length_le (List.prefix_append _ _) ((List.prefix_append _ _).trans hp) (by rw [List.length_append]; show b.length + 1 ≤ _; omega)
            have := look_beg (beg_pre hce (hL e he).1)
            rw [hc] at this
            cases this
          · exact look_beg (beg_pre (List.prefix_of_prefix_length_le hp hbp h) hb)
    · have := (h _).mp (.inr rfl)
      have h2 : lookZ S b c = true := lookZ_ex.mpr ⟨_, this, List.prefix_append _ _⟩
      rw [hc] at h2
      cases h2
  cases h0 : lookZ S b false with
  | false => exact one ⟨false, h0⟩
  | true =>
    cases h1 : lookZ S b true with
    | false => exact one ⟨true, h1⟩
    | true =>
      have hl : b.length + 1 = w := by
        unfold few at hbf
        rw [h0, h1] at hbf
        simpa using hbf
      have mem : ∀ c, lookZ S b c = true → b ++ [c] ∈ S := fun c hc => by
        obtain ⟨y, hy, hp⟩ := lookZ_ex.mp hc
        have := List.IsPrefix.eq_of_length hp (by rw [hS y hy, List.length_append]; exact hl)
        exact this ▸ hy
      refine ⟨fun y => y ∈ S ∧ y ≠ b ++ [false], ⟨fun y hy => hS y hy.1, fun e he d => ?_⟩, fun h => ((h _).mpr (mem false h0)).2 rfl⟩
      rw [hT e he, ans_tr]
      constructor
      · intro h
        obtain ⟨y, hy, hp⟩ := lookZ_ex.mp h
        by_cases hy2 : y = b ++ [false]
        · refine ⟨b ++ [true], ⟨mem true h1, by simp⟩, ?_⟩
          rw [hy2] at hp
          have hlt : e.1.length < b.length := by
            have h3 := hp.length_le
            rw [List.length_append, List.length_append] at h3
            simp only [List.length_cons, List.length_nil] at h3
            rcases Nat.lt_or_ge e.1.length b.length with h | h
            · exact h
            · have : e.1 = b := by
                have h4 : e.1 ++ [d] = b ++ [false] := List.IsPrefix.eq_of_length hp (by rw [List.length_append, List.length_append]; simp only [List.length_cons, List.length_nil]; omega)
                exact (List.append_inj' h4 rfl).1
              exact absurd this (hn e he)
          have : e.1 ++ [d] <+: b := List.prefix_of_prefix_length_le hp (List.prefix_append _ _) (by rw [List.length_append]; show e.1.length + 1 ≤ _; omega)
          exact this.trans (List.prefix_append _ _)
        · exact ⟨y, ⟨hy, hy2⟩, hp⟩
      · rintro ⟨y, ⟨hy, _⟩, hp⟩
        exact lookZ_ex.mpr ⟨y, hy, hp⟩
/-! ### what shown tells -/
theorem show_one (hw : 1 ≤ w) (hS : ∀ x ∈ S, x.length = w) (hR : Rise S) (hT : Tru S L) (hl : ∀ e ∈ L, e.1.length < w) (hD : ∀ b, Beg S b → b.length < w → few S w b = true → ∃ e ∈ L, e.1 = b) : TI L w [] = false ∧ frc L w [] false = some S := by
  obtain ⟨s1, s2, s3⟩ := shown_sem hl
  have hc := cons_tru hS hT
  have hTI : TI L w [] = false := by
    cases e : TI L w [] with
    | false => rfl
    | true => exact absurd hc (s1 e _)
  refine ⟨hTI, ?_⟩
  cases e : frc L w [] false with
  | none =>
    obtain ⟨X, Y, x, hX, hY, hx, hy⟩ := s3 hTI e
    exact absurd ((few_uniq hw hS hT hD hY x).mpr ((few_uniq hw hS hT hD hX x).mp hx)) hy
  | some ns =>
    obtain ⟨r1, r2, _⟩ := s2 ns hTI e
    rw [rise_ext r1 hR fun x => few_uniq hw hS hT hD r2 x]
theorem show_more (hw : 1 ≤ w) (hS : ∀ x ∈ S, x.length = w) (hT : Tru S L) (hL : ∀ e ∈ L, Beg S e.1 ∧ e.1.length < w) (hb : Beg S b) (hbl : b.length < w) (hbf : few S w b = true) (hn : ∀ e ∈ L, e.1 ≠ b) : TI L w [] = false ∧ frc L w [] false = none := by
  obtain ⟨s1, s2, s3⟩ := shown_sem (L := L) (w := w) fun e he => (hL e he).2
  have hc := cons_tru hS hT
  have hTI : TI L w [] = false := by
    cases e : TI L w [] with
    | false => rfl
    | true => exact absurd hc (s1 e _)
  refine ⟨hTI, ?_⟩
  cases e : frc L w [] false with
  | none => rfl
  | some ns =>
    obtain ⟨_, _, hu⟩ := s2 ns hTI e
    obtain ⟨X, hX, hne⟩ := few_need hw hS hT hL hb hbl hbf hn
    exact absurd (fun x => (hu X hX x).trans (hu _ hc x).symm) hne
theorem show_not (hl : ∀ e ∈ L, e.1.length < w) {e : Look} (he : e ∈ L) (hn : e ≠ trL S e.1) : ¬ (TI L w [] = false ∧ frc L w [] false = some S) := by
  rintro ⟨hT, hf⟩
  obtain ⟨_, s2, _⟩ := shown_sem hl
  obtain ⟨_, ⟨_, r2⟩, _⟩ := s2 S hT hf
  have key : ∀ c, ansE e c = lookZ S e.1 c := fun c => by
    rw [Bool.eq_iff_iff, r2 e he c]
    exact lookZ_ex.symm
  refine hn ?_
  have a := key false
  have b := key true
  obtain ⟨b1, z, o⟩ := e
  simp only [ansE, Bool.false_eq_true, if_false, if_true] at a b
  unfold trL
  simp only
  rw [← a, ← b]
end
/-! ### a walk's paper tells true on a still wire -/
end Lw
namespace Lw
open PySem L2
/-! how many beginnings -/
theorem few_ne {S : List Bits} {w : Nat} (hw : 1 ≤ w) (hS : ∀ x ∈ S, x.length = w) : ∃ b, Beg S b ∧ b.length < w ∧ few S w b = true := by
  cases S with
  | nil => exact ⟨[], .inl rfl, by show 0 < w; omega, by simp [few, lookZ]⟩
  | cons x S =>
    have hx := hS x (by simp)
    have hl : (x.take (w - 1)).length = w - 1 := by rw [List.length_take]; omega
    exact ⟨x.take (w - 1), .inr ⟨x, by simp, List.take_prefix _ _⟩, by omega, by unfold few; rw [hl, decide_eq_true (by omega), Bool.or_true]⟩
/-- two bits, told as such a tuple -/
def bbD (p : Bool × Bool) : PyData := .tuple [.bool p.1, .bool p.2]
end Lw
namespace Lw
open PySem L2
/-- one set is shown -/
def oneD (ns : List Bits) : PyData := .tuple [.str "one", .list (ns.map db)]
/-- looks just where fewest looks -/
structure FL (S : List Bits) (w : Nat) (fs : List Bits) (L : List Look) : Prop where
  hw : 1 ≤ w
  hS : ∀ x ∈ S, x.length = w
  tr : Tru S L
  nd : (L.map (·.1)).Nodup
  me : ∀ b, b ∈ L.map (·.1) ↔ b ∈ fs
  fm : ∀ b, b ∈ fs ↔ (Beg S b ∧ b.length < w) ∧ few S w b = true
section
variable {S fs : List Bits} {w : Nat} {L : List Look}
theorem FL.at (h : FL S w fs L) {e : Look} (he : e ∈ L) : (Beg S e.1 ∧ e.1.length < w) ∧ few S w e.1 = true := (h.fm _).mp ((h.me _).mp (List.mem_map_of_mem he))
theorem FL.one (h : FL S w fs L) (hR : Rise S) : TI L w [] = false ∧ frc L w [] false = some S := show_one h.hw h.hS hR h.tr (fun e he => (h.at he).1.2) fun b h1 h2 h3 => by
  obtain ⟨e, he, e1⟩ := List.mem_map.mp ((h.me b).mpr ((h.fm b).mpr ⟨⟨h1, h2⟩, h3⟩))
  exact ⟨e, he, e1⟩
theorem mem_cut {α : Type} {L : List α} {k : Nat} {e : α} (h : e ∈ L.take k ++ L.drop (k + 1)) : e ∈ L := (List.mem_append.mp h).elim List.mem_of_mem_take List.mem_of_mem_drop
theorem FL.more (h : FL S w fs L) {k : Nat} {e : Look} (he : L[k]? = some e) : TI (L.take k ++ L.drop (k + 1)) w [] = false ∧ frc (L.take k ++ L.drop (k + 1)) w [] false = none := by
  have hk := (List.getElem?_eq_some_iff.mp he).1
  have hm := List.mem_of_getElem? he
  obtain ⟨⟨a1, a2⟩, a3⟩ := h.at hm
  refine show_more h.hw h.hS (fun x hx => h.tr x (mem_cut hx)) (fun x hx => (h.at (mem_cut hx)).1) a1 a2 a3 fun x hx hxe => ?_
  have hnd := h.nd
  have hL : L = L.take k ++ e :: L.drop (k + 1) := by
    conv => lhs; rw [← List.take_append_drop k L]
    rw [List.drop_eq_getElem_cons hk, (List.getElem?_eq_some_iff.mp he).2]
  rw [hL, List.map_append, List.map_cons] at hnd
  obtain ⟨_, n2, n3⟩ := List.nodup_append.mp hnd
  rcases List.mem_append.mp hx with hx | hx
  · exact n3 x.1 (List.mem_map_of_mem hx) e.1 (by simp) hxe
  · exact (List.nodup_cons.mp n2).1 (hxe ▸ List.mem_map_of_mem hx)
theorem FL.other (h : FL S w fs L) {k : Nat} {e e2 : Look} (he : L[k]? = some e) (hb : e2.1 = e.1) (hn : e2 ≠ e) : ¬ (TI (L.take k ++ [e2] ++ L.drop (k + 1)) w [] = false ∧ frc (L.take k ++ [e2] ++ L.drop (k + 1)) w [] false = some S) := by
  have hm := List.mem_of_getElem? he
  refine show_not (e := e2) (fun x hx => ?_) (by simp) fun q => hn ?_
  · rw [List.append_assoc] at hx
    rcases List.mem_append.mp hx with hx | hx
    · exact (h.at (List.mem_of_mem_take hx)).1.2
    · rcases List.mem_append.mp hx with hx | hx
      · rw [List.mem_singleton.mp hx, hb]
        exact (h.at hm).1.2
      · exact (h.at (List.mem_of_mem_drop hx)).1.2
  · rw [q, h.tr e hm, hb]
/-- the looks of a walk's paper that fewest tells -/
theorem FL.of {L0 : List Look} (hw : 1 ≤ w) (hS : ∀ x ∈ S, x.length = w) (ht : Tru S L0) (hnd : (L0.map (·.1)).Nodup) (hm : ∀ b, b ∈ L0.map (·.1) ↔ Beg S b ∧ b.length < w) (fm : ∀ b, b ∈ fs ↔ (Beg S b ∧ b.length < w) ∧ few S w b = true) :
    FL S w fs (L0.filter fun e => decide (e.1 ∈ fs)) where
  hw := hw
  hS := hS
  tr := fun e he => ht e (List.mem_filter.mp he).1
  nd := hnd.sublist (List.Sublist.map _ List.filter_sublist)
  me := fun b => by
    rw [List.mem_map]
    constructor
    · rintro ⟨e, he, rfl⟩
      exact of_decide_eq_true (List.mem_filter.mp he).2
    · intro hb
      obtain ⟨e, he, e1⟩ := List.mem_map.mp ((hm b).mpr ((fm b).mp hb).1)
      exact ⟨e, List.mem_filter.mpr ⟨he, decide_eq_true (e1 ▸ hb)⟩, e1⟩
  fm := fm
theorem FL.pos (h : FL S w fs L) : 0 < L.length := by
  obtain ⟨b, h1, h2, h3⟩ := few_ne h.hw h.hS
  obtain ⟨e, he, _⟩ := List.mem_map.mp ((h.me b).mpr ((h.fm b).mpr ⟨⟨h1, h2⟩, h3⟩))
  exact List.length_pos_of_mem he
theorem FL.fst (h : FL S w fs L) (hf : Rise fs) {ms : List Bits} (hr : Rise ms) (hp : ms.Perm (L.map (·.1))) : ms = fs := rise_ext hr hf fun b => by rw [hp.mem_iff, h.me b]
end
end Lw
end

section
/-! texts: signs left out; steps spoilt; comprehensions told by the heap -/
namespace L2
open PySem PySem.Spec PyProof.Rows
/-- e; behind it a token is out -/
structure PE1 (X : Cx) (e : Expr) (t : TE) : Prop where
  run : ∀ (pins : List (Addr × Obj)) (s : Shared) (σ : St) (H : Hp) (Q : VK), Inv X pins σ H s → t σ H Q → wpAny (model X.prog X.w) X.A (eval e X.env) (fun v s1 => 1 ≤ s1.toks ∧ EP X pins σ Q v s1) X.xe s
section
variable {X : Cx} {a o : Expr} {ta to : TE} {r : R2} {j j0 j1 : Nat} {k : Int} {y z : Str} {p pos apos cp c0 c1 : Pos}
theorem PE1.pe {e : Expr} {t : TE} (h : PE1 X e t) : PE X e t := ⟨fun pins s σ H Q I q => wpAny_mono (h.run pins s σ H Q I q) (fun _ _ z => z.2) fun _ _ z => z⟩
def tRpl (y z : Str) (to : TE) : TE := fun σ H Q => to σ H fun x H1 => ∃ a, x = .str a ∧ (y == z) = false ∧ a.length + (a.length + 1) * z.length ≤ 16777216 ∧ Q (.str (Txt.replace a y z)) H1
end
end L2
namespace Lw
open PySem PySem.Spec PyProof.Rows L2
/-! ### a comprehension, what is made so far told by the heap -/
/-! ### signs left out -/
/-! ### a row read by the law -/
/-! ### rows with their places -/
def badIx (n : Nat) : List (List V) → List Nat
  | [] => []
  | xs :: r => if 200 ≤ n ∨ stepV xs = false then n :: badIx (n + 1) r else badIx (n + 1) r
/-! ### weights of rows -/
def wt (l : List Str) : Nat := (l.map (·.length)).sum + l.length
theorem Asc.app {x y : Str} (h : Asc x) (k : Asc y) : Asc (x ++ y) := fun c hc => by
  have hc : c ∈ (x.cps ++ y.cps).toList := hc
  rw [Array.toList_append, List.mem_append] at hc
  exact hc.elim (h c) (k c)
theorem Asc.cut {x : Str} (h : Asc x) (lo hi : Option Int) : Asc (cutS x lo hi) := h.sub fun c hc => List.mem_of_mem_drop (List.mem_of_mem_take (show c ∈ ((x.cps.toList.drop (HT.sIx x.length 0 lo)).take (HT.sIx x.length x.length hi - HT.sIx x.length 0 lo)) from hc))
/-! ### what the law's reader found -/
def FoundAt (K : PySem.W.Frag) (H : Hp) (a : Addr) (sts : List (List V)) : Prop := ∃ vs, H a = some (.lst vs) ∧ ¬ RowSh (.lst vs) ∧ Paired (fun v xs => (stepV xs = true ∧ ∃ t, v = .ref t ∧ SqT K H t xs) ∨ (stepV xs = false ∧ v = .non)) vs sts
theorem FoundAt.ext {K : PySem.W.Frag} {H H1 : Hp} {a : Addr} {sts : List (List V)} (h : FoundAt K H a sts) (e : Ext H H1) : FoundAt K H1 a sts := by
  obtain ⟨vs, h1, h2, h3⟩ := h
  exact ⟨vs, e.st _ _ h1 h2, h2, paired_mono (fun v xs h => h.imp (fun ⟨a, t, b, c⟩ => ⟨a, t, b, e.tup c⟩) id) h3⟩
theorem FoundAt.steps {K : PySem.W.Frag} {H : Hp} {a : Addr} {sts : List (List V)} (h : FoundAt K H a sts) (hs : ∀ xs ∈ sts, stepV xs = true) : StepsAt K H a sts := by
  obtain ⟨vs, h1, h2, h3⟩ := h
  clear h2
  have : ∃ ts : List Addr, vs = ts.map V.ref ∧ Paired (fun t xs => SqT K H t xs) ts sts := by
    clear h1
    induction h3 with
    | nil => exact ⟨[], rfl, .nil⟩
    | cons h _ ih =>
      obtain ⟨ts, e, p⟩ := ih fun xs hx => hs xs (List.mem_cons_of_mem _ hx)
      rcases h with ⟨_, t, rfl, ht⟩ | ⟨h, _⟩
      · exact ⟨t :: ts, by rw [e]; rfl, .cons ht p⟩
      · rw [hs _ List.mem_cons_self] at h
        cases h
  obtain ⟨ts, rfl, p⟩ := this
  exact ⟨ts, SqL.of h1, p⟩
/-! ### lists of numbers as data -/
end Lw
end

section
/-! rows of texts of bits: all of them, their order, sorted -/
namespace Lw
open PySem PySem.Spec PyProof.Rows L2
/-! ### all rows of some -/
def subs (E : List Bits) : List (List Bits) := E.foldl (fun f n => f ++ f.map fun s => s ++ [n]) [[]]
/-! ### their order -/
def slt : List Bits → List Bits → Bool
  | [], [] => false
  | [], _ :: _ => true
  | _ :: _, [] => false
  | x :: xs, y :: ys => if x = y then slt xs ys else blt x y
def rowD (S : List Bits) : PyData := .list (S.map db)
def tupD (S : List Bits) : PyData := .tuple (S.map db)
abbrev RiseS (Ss : List (List Bits)) : Prop := Ss.Pairwise fun a b => slt a b = true
/-! ### sorted of rows that stand -/
abbrev Row1 := Addr × List Bits
def rSortR (K : PySem.W.Frag) : List V → Hp → VK → Prop := fun vs H Q => ∃ (a : Addr) (bs : List Row1), vs = [.ref a] ∧ SqL K H a (bs.map fun b => V.ref b.1) ∧ (∀ b ∈ bs, SqL K H b.1 (bvs b.2)) ∧
  ∀ (cs : List Row1) (p : Addr), cs.Perm bs → cs.Pairwise (fun b c => slt c.2 b.2 = false) → H p = none → Q (.ref p) (upd H p (.lst (cs.map fun b => V.ref b.1)))
/-- rows at places -/
def RowsAt (H : Hp) (ps : List Addr) (Ss : List (List Bits)) : Prop := Paired (fun p S => H p = some (.lst (bvs S))) ps Ss
theorem RowsAt.ext {H H' : Hp} {ps : List Addr} {Ss : List (List Bits)} (h : RowsAt H ps Ss) (e : Ext H H') : RowsAt H' ps Ss := paired_mono (fun p S h => e.st _ _ h (nsh_bvs _)) h
/-! data -/
end Lw
end

section
/-! what looks show, by trying all sets -/
namespace Lw
open PySem L2
def every : Nat → List Bits
  | 0 => [[]]
  | k + 1 => (every k).flatMap fun t => [t ++ [false], t ++ [true]]
theorem mem_every : ∀ {k : Nat} {x : Bits}, x ∈ every k ↔ x.length = k
  | 0, x => by
    show x ∈ [[]] ↔ _
    rw [List.mem_singleton, List.length_eq_zero_iff]
  | k + 1, x => by
    show x ∈ (every k).flatMap _ ↔ _
    rw [List.mem_flatMap]
    constructor
    · rintro ⟨t, ht, hx⟩
      have := mem_every.mp ht
      simp only [List.mem_cons, List.not_mem_nil, or_false] at hx
      rcases hx with rfl | rfl <;> simp [this]
    · intro hx
      obtain ⟨c, hc⟩ : ∃ c, x = x.take k ++ [c] := ⟨x[k]'(by omega), by
        have : x.take (k + 1) = x.take k ++ [x[k]'(by omega)] := by rw [List.take_succ, List.getElem?_eq_getElem (by omega)]; rfl
        rw [← this, List.take_of_length_le (by omega)]⟩
      refine ⟨x.take k, mem_every.mpr (by rw [List.length_take]; omega), ?_⟩
      generalize x.take k = u at hc ⊢
      rw [hc]
      cases c <;> simp
theorem blt_app {t u : Bits} (a b : Bits) (hl : t.length = u.length) (h : blt t u = true) : blt (t ++ a) (u ++ b) = true := by
  induction t generalizing u with
  | nil =>
    cases u with
    | nil => cases h
    | cons y u => cases hl
  | cons x t ih =>
    cases u with
    | nil => cases hl
    | cons y u =>
      have hl : t.length = u.length := by simpa using hl
      simp only [blt, List.cons_append] at h ⊢
      split at h
      · rename_i e
        rw [if_pos e]
        exact ih hl h
      · rename_i e
        rw [if_neg e]
        exact h
theorem blt_same (t : Bits) : blt (t ++ [false]) (t ++ [true]) = true := by
  induction t with
  | nil => rfl
  | cons x t ih => simp only [blt, List.cons_append, if_true]; exact ih
theorem every_rise : ∀ {k : Nat}, Rise (every k)
  | 0 => List.pairwise_singleton _ _
  | k + 1 => by
    show Rise ((every k).flatMap _)
    refine List.pairwise_flatMap.mpr ⟨fun t _ => List.pairwise_cons.mpr ⟨fun y hy => ?_, List.pairwise_singleton _ _⟩, ?_⟩
    · rw [List.mem_singleton.mp hy]
      exact blt_same t
    · refine List.Pairwise.imp_of_mem (fun {a b} ha hb h x hx y hy => ?_) (every_rise (k := k))
      have e : a.length = b.length := (mem_every.mp ha).trans (mem_every.mp hb).symm
      simp only [List.mem_cons, List.not_mem_nil, or_false] at hx hy
      rcases hx with rfl | rfl <;> rcases hy with rfl | rfl <;> exact blt_app _ _ e h
/-- all sets of numbers of a width -/
structure AllS (w : Nat) (Ss : List (List Bits)) : Prop where
  nd : Ss.Nodup
  me : ∀ S, S ∈ Ss ↔ Rise S ∧ ∀ x ∈ S, x.length = w
/-- whether a set tells so -/
def consB (L : List Look) (S : List Bits) : Bool := L.all fun e => decide ((lookZ S e.1 false, lookZ S e.1 true) = e.2)
section
variable {w : Nat} {L : List Look} {S : List Bits} {Ss : List (List Bits)}
open Classical in
/-- the rising list of what is so -/
theorem set_list (w : Nat) (X : Bits → Prop) (hX : ∀ x, X x → x.length = w) : ∃ S : List Bits, Rise S ∧ (∀ x ∈ S, x.length = w) ∧ ∀ x, x ∈ S ↔ X x := by
  refine ⟨(every w).filter fun x => decide (X x), List.Pairwise.sublist List.filter_sublist every_rise, fun x hx => mem_every.mp (List.mem_filter.mp hx).1, fun x => ?_⟩
  rw [List.mem_filter, decide_eq_true_eq]
  exact ⟨fun h => h.2, fun h => ⟨mem_every.mpr (hX x h), h⟩⟩
end
end Lw
end

section
/-! the fewest looks are the first of the shortest that show -/
namespace Lw
open PySem L2
/-! ### rows of places -/
def nxt (p : List Nat) : Nat := match p.getLast? with
  | some k => k + 1
  | none => 0
def rowsF (n : Nat) : Nat → List (List Nat)
  | 0 => [[]]
  | m + 1 => (rowsF n m).flatMap fun p => (List.range' (nxt p) (n - nxt p)).map fun k => p ++ [k]
def Inc (p : List Nat) : Prop := p.Pairwise (· < ·)
def LexN (p q : List Nat) : Prop := ∃ (c : List Nat) (a b : Nat) (u v : List Nat), p = c ++ a :: u ∧ q = c ++ b :: v ∧ a < b
/-! ### looks that show -/
section
variable {S T P fs us : List Bits} {w : Nat} {b p : Bits} {Ss : List (List Bits)}
/-- looks at P tell of T what they tell of S -/
def Same (S T : List Bits) (P : List Bits) : Prop := ∀ p ∈ P, ∀ c, lookZ T p c = lookZ S p c
/-- where a look must be, for b's sake -/
def InT (S : List Bits) (b p : Bits) : Prop := p = b ∨ ∃ c, lookZ S b c = false ∧ b ++ [c] <+: p
theorem InT.pre (h : InT S b p) : b <+: p := by
  rcases h with rfl | ⟨c, _, h⟩
  · exact List.prefix_refl _
  · exact (List.prefix_append _ _).trans h
theorem below {c : Bool} {b' : Bits} (hb : Beg S b') (hc : lookZ S b c = false) : ¬ b ++ [c] <+: b' := fun h => by
  rcases hb with rfl | ⟨s, hs, hbs⟩
  · have := h.length_le
    simp at this
  · rw [lookZ_ex.mpr ⟨s, hs, h.trans hbs⟩] at hc
    cases hc
/-! ### the first of all -/
/-- a row of places at which T tells as S -/
def agree (us : List Bits) (S : List Bits) (p : List Nat) (T : List Bits) : Bool := p.all fun k => decide ((lookZ T (us.getD k []) false, lookZ T (us.getD k []) true) = (lookZ S (us.getD k []) false, lookZ S (us.getD k []) true))
def succP (Ss : List (List Bits)) (us : List Bits) (S : List Bits) (p : List Nat) : Bool := decide ((Ss.filter (agree us S p)).length = 1)
end
/-! rows as tuples -/
def TupsAt (K : PySem.W.Frag) (H : Hp) (ts : List Addr) (ps : List (List Nat)) : Prop := Paired (fun t p => SqT K H t (p.map vN)) ts ps
theorem TupsAt.ext {K : PySem.W.Frag} {H H' : Hp} {ts : List Addr} {ps : List (List Nat)} (h : TupsAt K H ts ps) (e : Ext H H') : TupsAt K H' ts ps := paired_mono (fun t p h => e.tup h) h
def natD (p : List Nat) : PyData := .tuple (p.map fun k : Nat => PyData.int (k : Int))
/-- what a set tells at beginnings, a row of pairs -/
def TellsAt (K : PySem.W.Frag) (us : List Bits) (H : Hp) (r : Addr) (T : List Bits) : Prop := ∃ ts : List Addr, SqL K H r (ts.map V.ref) ∧ Paired (fun t b => SqT K H t [.bl (lookZ T b false), .bl (lookZ T b true)]) ts us
theorem TellsAt.ext {K : PySem.W.Frag} {us : List Bits} {H H' : Hp} {r : Addr} {T : List Bits} (h : TellsAt K us H r T) (e : Ext H H') : TellsAt K us H' r T := by
  obtain ⟨ts, h1, h2⟩ := h
  exact ⟨ts, e.seq (nsh_refs _) h1, paired_mono (fun t b h => e.tup h) h2⟩
theorem TellsAt.at {K : PySem.W.Frag} {us : List Bits} {H : Hp} {r : Addr} {T : List Bits} (h : TellsAt K us H r T) {k : Nat} (hk : k < us.length) : ∃ (ts : List Addr) (t : Addr), SqL K H r (ts.map V.ref) ∧ (ts.map V.ref)[k]? = some (.ref t) ∧ SqT K H t [.bl (lookZ T (us.getD k []) false), .bl (lookZ T (us.getD k []) true)] := by
  obtain ⟨ts, h1, h2⟩ := h
  have hl := paired_len h2
  obtain ⟨t, ht⟩ : ∃ t, ts[k]? = some t := ⟨_, List.getElem?_eq_getElem (by omega)⟩
  obtain ⟨b, hb, hp⟩ := paired_at h2 ht
  refine ⟨ts, t, h1, by rw [List.getElem?_map, ht]; rfl, ?_⟩
  rw [List.getD_eq_getElem?_getD, hb]
  exact hp
def natlD (p : List Nat) : PyData := .list (p.map fun k : Nat => PyData.int (k : Int))
end Lw
end

section
/-! lists of texts that are no sets of a roster -/
namespace Lw
open PySem L2
/-- no set of a roster -/
def BadS (n : Nat) (ls : List Bits) (ys : List Str) : Prop := ¬ (IsRise n ys ∧ ∀ y ∈ ys, y ∈ ls.map B)
theorem not_B {ls : List Bits} {y : Str} {c : Nat} (hc : c ∈ y.cps.toList) (h : c ≠ 48 ∧ c ≠ 49) : y ∉ ls.map B := fun q => by
  obtain ⟨l, _, rfl⟩ := List.mem_map.mp q
  rw [B_list] at hc
  obtain ⟨b, _, rfl⟩ := List.mem_map.mp hc
  cases b
  · exact h.1 rfl
  · exact h.2 rfl
/-- a sign so many times -/
def repT (c n : Nat) : Str := ⟨(List.replicate n c).toArray⟩
end Lw
end

section
/-! a text twice -/
namespace Lw
open PySem PySem.Spec PyProof.Rows L2
def rTwice : R2 := fun x y H Q => ∃ z : Str, x = .str z ∧ y = .int 2 ∧ 1 ≤ z.length ∧ z.length ≤ 1000 ∧ Q (.str (z ++ z)) H
theorem op_twice {X : Cx} : OpR X (binaryOp .Mult) rTwice := by
  intro pins s σ H x y v u Q I rx ry h
  obtain ⟨z, rfl, rfl, h0, h1, q⟩ := h
  obtain ⟨t, rfl⟩ := rx
  obtain ⟨t', rfl⟩ := ry
  refine P.mul_str (by decide) (fun h2 _ => ?_) (fun h2 _ => ?_) ?_
  · have : ((2 ^ 63 - 1) / 2 : Int) = 4611686018427387903 := by decide
    rw [this]
    omega
  · show decide (z.length * (2 : Int).toNat > sizeLine) = false
    rw [decide_eq_false_iff_not, sizeLine_eq]
    show ¬ z.length * 2 > _
    omega
  · have e : (⟨(List.replicate (2 : Int).toNat z.cps).foldl (· ++ ·) #[]⟩ : Str) = z ++ z := by
      apply str_ext
      show (#[] ++ z.cps ++ z.cps).toList = (z.cps ++ z.cps).toList
      simp
    rw [if_neg (by decide), if_neg (by
      have : (z.length == 0) = false := by
        rw [beq_eq_false_iff_ne]
        omega
      rw [this]
      decide), e]
    refine ⟨?_, .str (z ++ z), H, I.tok _, ⟨_, rfl⟩, q⟩
    show (z.cps ++ z.cps).size ≤ sizeLine
    have : z.cps.size = z.length := rfl
    rw [sizeLine_eq, Array.size_append]
    omega
end Lw
end

section
set_option pp.maxSteps 700
open PySem L2 Lw
local macro_rules | `(tactic| tm_at "s") => `(tactic| first
  | with_reducible refine w_seq ?_ | with_reducible refine w_asg ?_ | with_reducible refine w_gname ?_ | with_reducible refine w_ret ?_ | with_reducible refine w_drop ?_ | with_reducible refine w_ifS ?_ | with_reducible refine w_next ?_ | with_reducible refine w_retN ?_
  | with_reducible refine w_c ?_ | ((with_reducible refine w_var (v := ?vv) ?hh ?kk); (case hh => exact rfl)) | with_reducible refine w_op ?_ | with_reducible refine w_un ?_ | with_reducible refine w_cons ?_ | with_reducible refine w_nil ?_ | with_reducible refine w_test ?_ | with_reducible refine w_B ?_
  | with_reducible refine w_isbl ?_ | with_reducible refine w_not ?_ | with_reducible refine w_and ?_ | with_reducible refine w_or ?_ | with_reducible refine w_andV ?_ | with_reducible refine w_orV ?_ | with_reducible refine w_notV ?_ | with_reducible refine w_if ?_ | with_reducible refine w_chain ?_
  | with_reducible refine w_isN ?_ | with_reducible refine w_notN ?_ | with_reducible refine w_yes ?_ | with_reducible refine w_call ?_ | with_reducible refine w_CB ?_ | with_reducible refine w_tup ?_ | with_reducible refine w_lst ?_ | with_reducible refine w_sl ?_ | with_reducible refine w_noPart ?_
  | with_reducible refine w_part ?_ | with_reducible refine w_isint ?_ | with_reducible refine w_gSub ?_ | with_reducible refine w_break ?_ | with_reducible refine w_cont ?_
  | with_reducible refine w_I0 ?_ | with_reducible refine w_eqI ?_ | with_reducible refine w_neI ?_ | with_reducible refine w_eqS ?_ | with_reducible refine w_neS ?_ | with_reducible refine w_eqB ?_ | with_reducible refine w_neB ?_ | ((with_reducible refine w_isi (d := ?dd) ?hh ?kk); (case hh => assumption))
  | with_reducible refine w_sg ?_ | with_reducible refine w_notSg ?_ | with_reducible refine w_starts ?_ | with_reducible refine w_max2 ?_ | with_reducible refine w_min2 ?_ | with_reducible refine w_intB ?_ | with_reducible refine w_intI ?_ | with_reducible refine w_bm ?_ | with_reducible refine w_bm0 ?_ | with_reducible refine w_m1 ?_ | with_reducible refine w_m0 ?_ | with_reducible refine w_isstr ?_
  | with_reducible refine w_for ?_ | with_reducible refine w_lc ?_ | with_reducible refine w_rng ?_ | with_reducible refine w_rng2 ?_ | with_reducible refine w_ilist ?_ | with_reducible refine w_itup ?_ | with_reducible refine w_istr ?_ | with_reducible refine w_strOk ?_
  | ((with_reducible refine w_rngOk ?hh ?h2 ?kk); (case hh => omega); (case h2 => omega)) | ((with_reducible refine w_lstOk (xs := ?xx) ?hh ?kk); (case hh => assumption))
  | ((with_reducible refine w_alL ?hh ?kk); (case hh => exact Nat.le_of_ble_eq_true rfl)) | ((with_reducible refine w_alT ?hh ?kk); (case hh => exact Nat.le_of_ble_eq_true rfl))
  | ((with_reducible refine w_lenL (xs := ?xx) ?hh ?kk); (case hh => assumption)) | ((with_reducible refine w_lenT (xs := ?xx) ?hh ?kk); (case hh => assumption))
  | ((with_reducible refine w_I ?hh ?kk); (case hh => first | (show _ ≠ (0 : Int); omega) | (show (0 : Int) < _; omega) | exact ⟨by omega, by omega⟩ | exact .inl ⟨by omega, by omega⟩ | exact .inr ⟨by omega, by omega⟩ | exact ⟨by decide, by decide, by decide⟩))
  | with_reducible refine w_din ?_ | with_reducible refine w_dnot ?_ | with_reducible refine w_dget ?_ | with_reducible refine w_dput ?_ | with_reducible refine w_fld ?_ | with_reducible refine w_sto ?_ | with_reducible refine w_meth ?_ | with_reducible refine w_pop1 ?_ | with_reducible refine w_pop2 ?_ | with_reducible refine w_ikeys ?_
  | ((with_reducible refine f_width (CW := ?v1) (dx := ?v2) (t := ?v3) (l := ?v4) (w := ?v5) (told := ?v6) (many := ?v7) ?tw ?hh ?kk); (case tw => assumption); (case hh => assumption))
  | ((with_reducible refine f_things (CW := ?v1) (dx := ?v2) (t := ?v3) (l := ?v4) (w := ?v5) (told := ?v6) (many := ?v7) ?tw ?hh ?kk); (case tw => assumption); (case hh => assumption))
  | ((with_reducible refine f_listening (CW := ?v1) (dx := ?v2) (t := ?v3) (l := ?v4) (w := ?v5) (told := ?v6) (many := ?v7) ?tw ?hh ?kk); (case tw => assumption); (case hh => assumption))
  | ((with_reducible refine f_tolds (CW := ?v1) (dx := ?v2) (t := ?v3) (l := ?v4) (w := ?v5) (b := ?v6) (many := ?v7) ?tw ?hh ?kk); (case tw => assumption); (case hh => assumption))
  | ((with_reducible refine f_told (CW := ?v1) (dx := ?v2) (t := ?v3) (l := ?v4) (w := ?v5) (told := ?v6) (many := ?v7) ?tw ?hh ?kk); (case tw => assumption); (case hh => assumption))
  | ((with_reducible refine f_many (CW := ?v1) (dx := ?v2) (t := ?v3) (l := ?v4) (w := ?v5) (told := ?v6) (many := ?v7) ?tw ?hh ?kk); (case tw => assumption); (case hh => assumption))
  | ((with_reducible refine w_ixL (v := ?vv) (xs := ?xx) ?hh ?h2 ?kk); (case hh => assumption); (case h2 => exact rfl)) | ((with_reducible refine w_ixT (v := ?vv) (xs := ?xx) ?hh ?h2 ?kk); (case hh => assumption); (case h2 => exact rfl)))
local macro_rules | `(tactic| tm_at "r") => `(tactic| repeat tm_at "s")
local macro_rules | `(tactic| tm_at "b") => `(tactic| first | refine w_iteT (by with_reducible rfl) ?_ | refine w_iteF (by with_reducible rfl) ?_ | refine w_iteT (by rfl) ?_ | refine w_iteF (by rfl) ?_)
local macro_rules | `(tactic| tm_at "e") => `(tactic| repeat (first | tm_at "s" | tm_at "b"))
namespace My
abbrev s_law_odd : Stmt := top 92
theorem sc_law_odd : FnScope ["_law_row", "_law_width_here", "_law_far", "_law_number_here", "_law_at", "_law_sign", "_law_some"] ["_law_row", "_law_width_here", "_law_far"] (defScope s_law_odd) := ⟨rfl, rfl, rfl, by decide +kernel, rfl, by decide +kernel, by decide +kernel⟩
/-- no number of the width, wherever it stands -/
def OddV (K : PySem.W.Frag) (n : Nat) (v : V) (d : PyData) : Prop := (∀ H, Dq K H v d) ∧ OkD d ∧ numD n d = false
def sp_odd01 (K : PySem.W.Frag) : Sp := fun vs H Q _ => ∃ (r : Addr) (n : Nat) (far : Int), vs = [.ref r, .int (n : Int), .int far] ∧ RowOk K H r ∧ 1 ≤ n ∧ n ≤ 12 ∧ ∀ (v : V) (d : PyData) (H' : Hp), Ext H H' → OddV K n v d → Q v H'
theorem odd_str {K : PySem.W.Frag} {n : Nat} {z : Str} (h1 : PyData.canLay0 (.str z) = true) (h2 : z.length ≤ 1000) (h : numD n (.str z) = false) : OddV K n (.str z) (.str z) := ⟨fun H => .str _, ⟨h1, fun x e => by cases e; omega⟩, h⟩
theorem odd_bits {K : PySem.W.Frag} {n : Nat} {l : Bits} (h2 : l.length ≤ 1000) (h : l.length ≠ n) : OddV K n (.str (B l)) (.str (B l)) := odd_str (lay_B l) (by rw [B_len]; exact h2) (by rw [numD_bits, decide_eq_false h])
theorem odd_int {K : PySem.W.Frag} {n : Nat} {i : Int} : OddV K n (.int i) (.int i) := ⟨fun H => .int _, ⟨rfl, fun x e => by cases e⟩, rfl⟩
theorem lay_app {a b : Str} (h1 : PyData.canLay0 (.str a) = true) (h2 : PyData.canLay0 (.str b) = true) : PyData.canLay0 (.str (a ++ b)) = true := by
  simp only [PyData.canLay0, PyData.strOk] at h1 h2 ⊢
  rw [Array.all_eq_true'] at h1 h2 ⊢
  intro x hx
  have : x ∈ a.cps ++ b.cps := hx
  rcases Array.mem_append.mp this with h | h
  · exact h1 x h
  · exact h2 x h
theorem odd_has {K : PySem.W.Frag} {n c : Nat} {z : Str} (h1 : PyData.canLay0 (.str z) = true) (h2 : z.length ≤ 1000) (hc : c ∈ z.cps.toList) (h : c ≠ 48 ∧ c ≠ 49) : OddV K n (.str z) (.str z) := odd_str h1 h2 (by
  show (bitsS z && decide ((z.length : Int) = n)) = false
  cases e : bitsS z with
  | false => rfl
  | true =>
    obtain ⟨x, rfl⟩ := bits_is e
    exact absurd (List.mem_singleton.mpr rfl) (not_B (ls := [x]) hc h))
section
variable {P : Program} {w : World} {K : PySem.W.Frag} {mg : Str → Option Value} {base : Heap}
theorem ok_odd01 {f : Addr} {fd : FuncData} (F : Fun K "_law_odd" "_law_odd" s_law_odd f fd) (T : TxB mg) (C_law_taken : Cal P w K mg base 1 "_law_taken" ["_law_row", "_law_many"] (sp_taken K)) (C_law_number : Cal P w K mg base 2 "_law_number" ["_law_row", "_law_width_here"] (sp_number K)) : FnOk P w K mg base (L2.CX P w) 3 f fd ["_law_row", "_law_width_here", "_law_far"] (sp_odd01 K) := by
  refine F.okX sc_law_odd (fun vs H Q E h => ?_) (fun cdv A outer s H vs Q E hr h => ⟨_, (pss_cons (ps_set (i := 3) sc_law_odd.nd rfl (by first | exact Or.inl rfl | exact Or.inr rfl) (pe_cal (E := E0) C_law_number (hr.mono (by first | decide | omega)) passL (pa_cons (pv 0) (pa_cons (pv 1) pa_nil))))
 (pss_cons (ps_set (i := 4) sc_law_odd.nd rfl (by first | exact Or.inl rfl | exact Or.inr rfl) (pe_cal (E := E0) C_law_taken (hr.mono (by first | decide | omega)) passL (pa_cons (pv 0) (pa_cons (pv 1) pa_nil))))
 (pss_cons (ps_set (i := 5) sc_law_odd.nd rfl (by first | exact Or.inl rfl | exact Or.inr rfl) (pe_ix ix_str pe_str (pe_cal (E := E0) C_law_taken (hr.mono (by first | decide | omega)) passL (pa_cons (pv 0) (pa_cons pe_int pa_nil))) (fun _ _ => rfl)))
 (pss_cons (ps_set (i := 6) sc_law_odd.nd rfl (by first | exact Or.inl rfl | exact Or.inr rfl) (pe_lst (pa_cons pe_str (pa_cons (pe_op o_addS (pv 3) pe_str) (pa_cons (pe_slice sl_str (pv 3) (po_some pe_int) po_none) (pa_cons (pe_op o_addS (pe_op o_addS (pe_slice sl_str (pv 3) po_none (po_some (pv 4))) (pv 5)) (pe_slice sl_str (pv 3) (po_some (pe_op op_add (pv 4) pe_int)) po_none)) (pa_cons (pv 2) (pa_cons (pe_op o_addS (pe_slice sl_str (pv 3) po_none (po_some (pv 4))) (pv 5)) (pa_cons (pe_op op_twice (pv 3) pe_int) pa_nil)))))))))
 (pss_one (ps_ret (pe_ix (ixL (K := K) rfl) (pv 6) (pe_cal (E := E0) C_law_taken (hr.mono (by first | decide | omega)) passL (pa_cons (pv 0) (pa_cons pe_int pa_nil))) (fun _ _ => rfl)))))))), ?_⟩)
  · obtain ⟨r, n, far, rfl, _⟩ := h
    rfl
  · obtain ⟨r, n, far, rfl, hrow, hn1, hn2, q⟩ := h
    tm_at "r"
    refine u_number hrow (by omega) (by omega) fun l H1 hl e1 => ?_
    have hl : l.length = n := by omega
    have hrow := e1.rowOk hrow
    tm_at "r"
    refine u_taken hrow (by omega) (by omega) fun x H2 hx0 hx1 e2 => ?_
    have hrow := e2.rowOk hrow
    obtain ⟨j, rfl⟩ : ∃ j : Nat, x = (j : Int) := ⟨x.toNat, by omega⟩
    tm_at "r"
    refine u_taken hrow (by omega) (by omega) fun x H3 hx0 hx1 e3 => ?_
    have hrow := e3.rowOk hrow
    obtain ⟨c, hc, hc1, hc2⟩ : ∃ c : Nat, atI (Str.ofString "2 x-9O").cps.toList x = some c ∧ PyData.canLay0 (.str ⟨#[c]⟩) = true ∧ c ≠ 48 ∧ c ≠ 49 := by
      have : x = 0 ∨ x = 1 ∨ x = 2 ∨ x = 3 ∨ x = 4 ∨ x = 5 := by omega
      rcases this with rfl | rfl | rfl | rfl | rfl | rfl <;> exact ⟨_, rfl, by decide +kernel, by decide⟩
    refine w_ixS (by decide +kernel) hc ?_
    have E3 := (e1.trans e2).trans e3
    clear e1 e2 e3 hc
    have hcl : (⟨#[c]⟩ : Str).length = 1 := rfl
    have cin : ∀ a b : Str, c ∈ (a ++ ⟨#[c]⟩ ++ b).cps.toList := fun a b => by
      show c ∈ (a.cps ++ #[c] ++ b.cps).toList
      simp
    have app : ∀ a b : Str, (a ++ b).length = a.length + b.length := fun a b => Array.size_append
    have e0 : (B l ++ Str.ofString "0") = B (l ++ [false]) := by
      rw [← B_app]
      rfl
    have e6 : (B l ++ B l) = B (l ++ l) := B_app l l
    have z3 : ∀ b : Bits, b.length ≤ 12 → OddV K n (.str (B (l.take j) ++ ⟨#[c]⟩ ++ B b)) (.str (B (l.take j) ++ ⟨#[c]⟩ ++ B b)) := fun b hb => odd_has (lay_app (lay_app (lay_B _) hc1) (lay_B _)) (by
      rw [app, app, B_len, B_len, hcl, List.length_take]
      omega) (cin _ _) hc2
    have z5 : OddV K n (.str (B (l.take j) ++ ⟨#[c]⟩)) (.str (B (l.take j) ++ ⟨#[c]⟩)) := odd_has (lay_app (lay_B _) hc1) (by
      rw [app, B_len, hcl, List.length_take]
      omega) (by
      show c ∈ (_ ++ #[c]).toList
      simp) hc2
    tm_at "r"
    refine w_addS (by rw [B_len]; show _ + 1 ≤ _; omega) ?_
    rw [e0]
    tm_at "r"
    refine w_slS (by rw [B_len]; omega) ?_
    rw [show (some (1 : Int)) = some ((1 : Nat) : Int) from rfl, cutS_from]
    tm_at "r"
    refine w_slS (by rw [B_len]; omega) ?_
    rw [cutS_to]
    tm_at "r"
    refine w_addS (by rw [B_len, List.length_take, hcl]; omega) ?_
    tm_at "r"
    refine w_slS (by rw [B_len]; omega) ?_
    rw [show ((j : Int) + 1) = ((j + 1 : Nat) : Int) by omega, cutS_from]
    refine w_addS (by rw [app, B_len, B_len, List.length_take, List.length_drop, hcl]; omega) ?_
    tm_at "r"
    refine w_slS (by rw [B_len]; omega) ?_
    rw [cutS_to]
    tm_at "r"
    refine w_addS (by rw [B_len, List.length_take, hcl]; omega) ?_
    tm_at "r"
    refine ⟨B l, rfl, rfl, by rw [B_len]; omega, by rw [B_len]; omega, ?_⟩
    rw [e6]
    tm_at "r"
    intro po H4 _ e4 hpo
    tm_at "r"
    refine u_taken (e4.rowOk hrow) (by omega) (by omega) fun x H5 hx0 hx1 e5 => ?_
    obtain ⟨v, d, hat, hv⟩ : ∃ (v : V) (d : PyData), atI [V.str (Str.ofString ""), V.str (B (l ++ [false])), V.str (B (l.drop 1)), V.str (B (l.take j) ++ ⟨#[c]⟩ ++ B (l.drop (j + 1))), V.int far, V.str (B (l.take j) ++ ⟨#[c]⟩), V.str (B (l ++ l))] x = some v ∧ OddV K n v d := by
      have : x = 0 ∨ x = 1 ∨ x = 2 ∨ x = 3 ∨ x = 4 ∨ x = 5 ∨ x = 6 := by omega
      rcases this with rfl | rfl | rfl | rfl | rfl | rfl | rfl
      · exact ⟨_, _, rfl, odd_bits (l := []) (by simp) (by simp; omega)⟩
      · exact ⟨_, _, rfl, odd_bits (by simp; omega) (by simp; omega)⟩
      · exact ⟨_, _, rfl, odd_bits (by simp; omega) (by simp; omega)⟩
      · exact ⟨_, _, rfl, z3 _ (by rw [List.length_drop]; omega)⟩
      · exact ⟨_, _, rfl, odd_int⟩
      · exact ⟨_, _, rfl, z5⟩
      · exact ⟨_, _, rfl, odd_bits (by simp; omega) (by simp; omega)⟩
    refine w_ixL (v := v) (SqL.of (e5.st _ _ hpo (nsh_of fun a i m z e => by cases e))) hat ?_
    exact q v d H5 ((E3.trans e4).trans e5) hv
end
end My
end

section
set_option pp.maxSteps 700
open PySem L2 Lw
local macro_rules | `(tactic| tm_at "s") => `(tactic| first
  | with_reducible refine w_seq ?_ | with_reducible refine w_asg ?_ | with_reducible refine w_gname ?_ | with_reducible refine w_ret ?_ | with_reducible refine w_drop ?_ | with_reducible refine w_ifS ?_ | with_reducible refine w_next ?_ | with_reducible refine w_retN ?_
  | with_reducible refine w_c ?_ | ((with_reducible refine w_var (v := ?vv) ?hh ?kk); (case hh => exact rfl)) | with_reducible refine w_op ?_ | with_reducible refine w_un ?_ | with_reducible refine w_cons ?_ | with_reducible refine w_nil ?_ | with_reducible refine w_test ?_ | with_reducible refine w_B ?_
  | with_reducible refine w_isbl ?_ | with_reducible refine w_not ?_ | with_reducible refine w_and ?_ | with_reducible refine w_or ?_ | with_reducible refine w_andV ?_ | with_reducible refine w_orV ?_ | with_reducible refine w_notV ?_ | with_reducible refine w_if ?_ | with_reducible refine w_chain ?_
  | with_reducible refine w_isN ?_ | with_reducible refine w_notN ?_ | with_reducible refine w_yes ?_ | with_reducible refine w_call ?_ | with_reducible refine w_CB ?_ | with_reducible refine w_tup ?_ | with_reducible refine w_lst ?_ | with_reducible refine w_sl ?_ | with_reducible refine w_noPart ?_
  | with_reducible refine w_part ?_ | with_reducible refine w_isint ?_ | with_reducible refine w_gSub ?_ | with_reducible refine w_break ?_ | with_reducible refine w_cont ?_
  | with_reducible refine w_I0 ?_ | with_reducible refine w_eqI ?_ | with_reducible refine w_neI ?_ | with_reducible refine w_eqS ?_ | with_reducible refine w_neS ?_ | with_reducible refine w_eqB ?_ | with_reducible refine w_neB ?_ | ((with_reducible refine w_isi (d := ?dd) ?hh ?kk); (case hh => assumption))
  | with_reducible refine w_sg ?_ | with_reducible refine w_notSg ?_ | with_reducible refine w_starts ?_ | with_reducible refine w_max2 ?_ | with_reducible refine w_min2 ?_ | with_reducible refine w_intB ?_ | with_reducible refine w_intI ?_ | with_reducible refine w_bm ?_ | with_reducible refine w_bm0 ?_ | with_reducible refine w_m1 ?_ | with_reducible refine w_m0 ?_ | with_reducible refine w_isstr ?_
  | with_reducible refine w_for ?_ | with_reducible refine w_lc ?_ | with_reducible refine w_rng ?_ | with_reducible refine w_rng2 ?_ | with_reducible refine w_ilist ?_ | with_reducible refine w_itup ?_ | with_reducible refine w_istr ?_ | with_reducible refine w_strOk ?_
  | ((with_reducible refine w_rngOk ?hh ?h2 ?kk); (case hh => omega); (case h2 => omega)) | ((with_reducible refine w_lstOk (xs := ?xx) ?hh ?kk); (case hh => assumption))
  | ((with_reducible refine w_alL ?hh ?kk); (case hh => exact Nat.le_of_ble_eq_true rfl)) | ((with_reducible refine w_alT ?hh ?kk); (case hh => exact Nat.le_of_ble_eq_true rfl))
  | ((with_reducible refine w_lenL (xs := ?xx) ?hh ?kk); (case hh => assumption)) | ((with_reducible refine w_lenT (xs := ?xx) ?hh ?kk); (case hh => assumption))
  | ((with_reducible refine w_I ?hh ?kk); (case hh => first | (show _ ≠ (0 : Int); omega) | (show (0 : Int) < _; omega) | exact ⟨by omega, by omega⟩ | exact .inl ⟨by omega, by omega⟩ | exact .inr ⟨by omega, by omega⟩ | exact ⟨by decide, by decide, by decide⟩))
  | with_reducible refine w_din ?_ | with_reducible refine w_dnot ?_ | with_reducible refine w_dget ?_ | with_reducible refine w_dput ?_ | with_reducible refine w_fld ?_ | with_reducible refine w_sto ?_ | with_reducible refine w_meth ?_ | with_reducible refine w_pop1 ?_ | with_reducible refine w_pop2 ?_ | with_reducible refine w_ikeys ?_
  | ((with_reducible refine f_width (CW := ?v1) (dx := ?v2) (t := ?v3) (l := ?v4) (w := ?v5) (told := ?v6) (many := ?v7) ?tw ?hh ?kk); (case tw => assumption); (case hh => assumption))
  | ((with_reducible refine f_things (CW := ?v1) (dx := ?v2) (t := ?v3) (l := ?v4) (w := ?v5) (told := ?v6) (many := ?v7) ?tw ?hh ?kk); (case tw => assumption); (case hh => assumption))
  | ((with_reducible refine f_listening (CW := ?v1) (dx := ?v2) (t := ?v3) (l := ?v4) (w := ?v5) (told := ?v6) (many := ?v7) ?tw ?hh ?kk); (case tw => assumption); (case hh => assumption))
  | ((with_reducible refine f_tolds (CW := ?v1) (dx := ?v2) (t := ?v3) (l := ?v4) (w := ?v5) (b := ?v6) (many := ?v7) ?tw ?hh ?kk); (case tw => assumption); (case hh => assumption))
  | ((with_reducible refine f_told (CW := ?v1) (dx := ?v2) (t := ?v3) (l := ?v4) (w := ?v5) (told := ?v6) (many := ?v7) ?tw ?hh ?kk); (case tw => assumption); (case hh => assumption))
  | ((with_reducible refine f_many (CW := ?v1) (dx := ?v2) (t := ?v3) (l := ?v4) (w := ?v5) (told := ?v6) (many := ?v7) ?tw ?hh ?kk); (case tw => assumption); (case hh => assumption))
  | ((with_reducible refine w_ixL (v := ?vv) (xs := ?xx) ?hh ?h2 ?kk); (case hh => assumption); (case h2 => exact rfl)) | ((with_reducible refine w_ixT (v := ?vv) (xs := ?xx) ?hh ?h2 ?kk); (case hh => assumption); (case h2 => exact rfl)))
local macro_rules | `(tactic| tm_at "r") => `(tactic| repeat tm_at "s")
local macro_rules | `(tactic| tm_at "b") => `(tactic| first | refine w_iteT (by with_reducible rfl) ?_ | refine w_iteF (by with_reducible rfl) ?_ | refine w_iteT (by rfl) ?_ | refine w_iteF (by rfl) ?_)
local macro_rules | `(tactic| tm_at "e") => `(tactic| repeat (first | tm_at "s" | tm_at "b"))
namespace My
abbrev s_law_wide : Stmt := top 91
theorem sc_law_wide : FnScope ["_law_bad", "_law_works"] ["_law_bad"] (defScope s_law_wide) := ⟨rfl, rfl, rfl, by decide +kernel, rfl, by decide +kernel, by decide +kernel⟩
def sp_wide (P : Program) (w : World) (K : PySem.W.Frag) (mg : Str → Option Value) (base : Heap) (TT : List (Addr × Str)) (cW : Addr) : Sp := fun vs H Q _ => ∃ v : V, vs = [v] ∧ BadW v ∧ LamX.Tabs TT H ∧
  ∀ (p : Addr) (fs : List Addr) (H' : Hp), StepN TT [] [] H H' → H' p = some (.lst (fs.map V.ref)) → fs.length = 9 → (∀ f ∈ fs, DLam P w K mg base 8 H' f cW) → Q (.ref p) H'
section
variable {P : Program} {w : World} {K : PySem.W.Frag} {mg : Str → Option Value} {base : Heap}
theorem ok_wide {f c Pt cW CW : Addr} {fd : FuncData} {TT : List (Addr × Str)} (F : FunC K "_law_wide" "_law_wide" s_law_wide f fd c) (T : TxB mg)
    (TB : LamX.TabB base mg c Pt) (hmT : (Pt, ("_law_wide.<locals>.<lambda>" : Str)) ∈ TT) (hu : ∀ p ∈ TT, p.1 = Pt → p.2 = ("_law_wide.<locals>.<lambda>" : Str))
    (C_Wire : CalC P w K mg base 2 CW "Wire" ["self", "width"] (sp_binit cW)) (C_met : Cal P w K mg base 2 "met" ["width", "numbers"] (sp_bw 1 cW)) (C_fewest : Cal P w K mg base 2 "fewest" ["width", "numbers"] (sp_bw 1 cW)) (C_shown : Cal P w K mg base 2 "shown" ["width", "looks"] (sp_bw 1 cW))
    (C_judged : Cal P w K mg base 3 "judged" ["width", "roster", "looks"] (sp_bw 2 cW)) (C_least : Cal P w K mg base 3 "least" ["width", "roster", "hung"] (sp_bw 2 cW)) (C_plan_of : Cal P w K mg base 3 "plan_of" ["width", "roster"] (sp_bw 1 cW)) (C_follows : Cal P w K mg base 3 "follows" ["width", "roster", "plan"] (sp_bw 2 cW)) (C_played : Cal P w K mg base 6 "played" ["width", "steps"] (sp_bw 1 cW)) :
    FnOk P w K mg base (L2.CX P w) 2 f fd ["_law_bad"] (sp_wide P w K mg base TT cW) := by
  refine F.okA (i := 0) (y := "_law_bad") sc_law_wide rfl rfl (by decide +kernel) (fun vs H Q E h => ?_) (fun A outer s H vs Q E hr h => ⟨_, (psr_cons (ps_set (i := 1) sc_law_wide.nd rfl (by first | exact Or.inl rfl | exact Or.inr rfl) (pe_lst (pa_cons (pe_lam0 (T := TT) (k := 8) TB rfl hmT hu (lamD_by (by kernel_rfl)) rfl (fun _ _ _ _ _ _ => rfl) (fun A outer s H E f c' hr => (pe_mk C_Wire (hr.mono (by first | decide | omega)) (passes_call (takes_of rfl rfl rfl rfl) (fun _ _ _ _ h => h)) (pa_cons (pv 0) pa_nil)))) (pa_cons (pe_lam1 (T := TT) (k := 8) TB rfl hmT hu (lamD_by (by kernel_rfl)) rfl rfl rfl (fun _ _ _ _ _ _ _ => ⟨_, rfl, fun _ => rfl⟩) (fun A outer s H E f c' hr => (pe_cal (E := E) C_met (hr.mono (by first | decide | omega)) (passes_call (takes_of rfl rfl rfl rfl) (fun _ _ _ _ h => h)) (pa_cons (pv 0) (pa_cons (pe_lst (pa_cons pe_int pa_nil)) pa_nil))))) (pa_cons (pe_lam1 (T := TT) (k := 8) TB rfl hmT hu (lamD_by (by kernel_rfl)) rfl rfl rfl (fun _ _ _ _ _ _ _ => ⟨_, rfl, fun _ => rfl⟩) (fun A outer s H E f c' hr => (pe_cal (E := E) C_fewest (hr.mono (by first | decide | omega)) (passes_call (takes_of rfl rfl rfl rfl) (fun _ _ _ _ h => h)) (pa_cons (pv 0) (pa_cons (pe_lst (pa_cons pe_int pa_nil)) pa_nil))))) (pa_cons (pe_lam1 (T := TT) (k := 8) TB rfl hmT hu (lamD_by (by kernel_rfl)) rfl rfl rfl (fun _ _ _ _ _ _ _ => ⟨_, rfl, fun _ => rfl⟩) (fun A outer s H E f c' hr => (pe_cal (E := E) C_shown (hr.mono (by first | decide | omega)) (passes_call (takes_of rfl rfl rfl rfl) (fun _ _ _ _ h => h)) (pa_cons (pv 0) (pa_cons (pe_lst (pa_cons pe_int pa_nil)) pa_nil))))) pa_nil))))))
 (psr_cons (ps_set (i := 1) sc_law_wide.nd rfl (by first | exact Or.inl rfl | exact Or.inr rfl) (pe_op op_cat (pv 1) (pe_lst (pa_cons (pe_lam1 (T := TT) (k := 8) TB rfl hmT hu (lamD_by (by kernel_rfl)) rfl rfl rfl (fun _ _ _ _ _ _ _ => ⟨_, rfl, fun _ => rfl⟩) (fun A outer s H E f c' hr => (pe_cal (E := E) C_judged (hr.mono (by first | decide | omega)) (passes_call (takes_of rfl rfl rfl rfl) (fun _ _ _ _ h => h)) (pa_cons (pv 0) (pa_cons (pe_lst pa_nil) (pa_cons (pe_lst (pa_cons pe_int pa_nil)) pa_nil)))))) (pa_cons (pe_lam1 (T := TT) (k := 8) TB rfl hmT hu (lamD_by (by kernel_rfl)) rfl rfl rfl (fun _ _ _ _ _ _ _ => ⟨_, rfl, fun _ => rfl⟩) (fun A outer s H E f c' hr => (pe_cal (E := E) C_least (hr.mono (by first | decide | omega)) (passes_call (takes_of rfl rfl rfl rfl) (fun _ _ _ _ h => h)) (pa_cons (pv 0) (pa_cons (pe_lst pa_nil) (pa_cons (pe_lst (pa_cons pe_int pa_nil)) pa_nil)))))) (pa_cons (pe_lam1 (T := TT) (k := 8) TB rfl hmT hu (lamD_by (by kernel_rfl)) rfl rfl rfl (fun _ _ _ _ _ _ _ => ⟨_, rfl, fun _ => rfl⟩) (fun A outer s H E f c' hr => (pe_cal (E := E) C_plan_of (hr.mono (by first | decide | omega)) (passes_call (takes_of rfl rfl rfl rfl) (fun _ _ _ _ h => h)) (pa_cons (pv 0) (pa_cons (pe_lst pa_nil) pa_nil))))) pa_nil))))))
 (psr_ret (pe_op op_cat (pv 1) (pe_lst (pa_cons (pe_lam1 (T := TT) (k := 8) TB rfl hmT hu (lamD_by (by kernel_rfl)) rfl rfl rfl (fun _ _ _ _ _ _ _ => ⟨_, rfl, fun _ => rfl⟩) (fun A outer s H E f c' hr => (pe_cal (E := E) C_follows (hr.mono (by first | decide | omega)) (passes_call (takes_of rfl rfl rfl rfl) (fun _ _ _ _ h => h)) (pa_cons (pv 0) (pa_cons (pe_lst pa_nil) (pa_cons pe_int pa_nil)))))) (pa_cons (pe_lam1 (T := TT) (k := 8) TB rfl hmT hu (lamD_by (by kernel_rfl)) rfl rfl rfl (fun _ _ _ _ _ _ _ => ⟨_, rfl, fun _ => rfl⟩) (fun A outer s H E f c' hr => (pe_cal (E := E) C_played (hr.mono (by first | decide | omega)) (passes_call (takes_of rfl rfl rfl rfl) (fun _ _ _ _ h => h)) (pa_cons (pv 0) (pa_cons (pe_lst (pa_cons pe_int pa_nil)) pa_nil))))) pa_nil))))))), ?_⟩)
  · obtain ⟨v, rfl, _⟩ := h
    rfl
  · obtain ⟨v, rfl, hb, htab, q⟩ := h
    dsimp only
    tm_at "r"
    refine ⟨htab, fun f1 H1 eH1 tab1 _ lam1 => ?_⟩
    have sH1 : StepN TT [] [] H H1 := StepN.lam eH1 tab1
    tm_at "r"
    refine ⟨tab1, fun f2 H2 eH2 tab2 _ lam2 => ?_⟩
    have sH2 : StepN TT [] [] H1 H2 := StepN.lam eH2 tab2
    tm_at "r"
    refine ⟨tab2, fun f3 H3 eH3 tab3 _ lam3 => ?_⟩
    have sH3 : StepN TT [] [] H2 H3 := StepN.lam eH3 tab3
    tm_at "r"
    refine ⟨tab3, fun f4 H4 eH4 tab4 _ lam4 => ?_⟩
    have sH4 : StepN TT [] [] H3 H4 := StepN.lam eH4 tab4
    tm_at "r"
    intro p1 H5 _ eH5 hp1
    have hp1 : H5 p1 = some (.lst ([f1, f2, f3, f4].map V.ref)) := hp1
    have sH5 : StepN TT [] [] H4 H5 := StepN.ofExt eH5
    have tabH5 := tabs_ext tab4 eH5
    refine w_gname ?_
    refine w_next ?_
    dsimp only
    tm_at "r"
    refine ⟨tabH5, fun f5 H6 eH6 tab5 _ lam5 => ?_⟩
    have sH6 : StepN TT [] [] H5 H6 := StepN.lam eH6 tab5
    tm_at "r"
    refine ⟨tab5, fun f6 H7 eH7 tab6 _ lam6 => ?_⟩
    have sH7 : StepN TT [] [] H6 H7 := StepN.lam eH7 tab6
    tm_at "r"
    refine ⟨tab6, fun f7 H8 eH8 tab7 _ lam7 => ?_⟩
    have sH8 : StepN TT [] [] H7 H8 := StepN.lam eH8 tab7
    tm_at "r"
    intro p2 H9 _ eH9 hp2
    have hp2 : H9 p2 = some (.lst ([f5, f6, f7].map V.ref)) := hp2
    have sH9 : StepN TT [] [] H8 H9 := StepN.ofExt eH9
    have tabH9 := tabs_ext tab7 eH9
    have hp1 := eH9.st _ _ (eH8 _ _ (eH7 _ _ (eH6 _ _ hp1 (fun ps q => by cases q)) (fun ps q => by cases q)) (fun ps q => by cases q)) (nsh_refs _)
    refine w_cat hp1 hp2 (by show 4 + 3 ≤ 100000; decide) fun p3 H10 _ eH10 hp3 => ?_
    have hp3 : H10 p3 = some (.lst ([f1, f2, f3, f4, f5, f6, f7].map V.ref)) := hp3
    have sH10 : StepN TT [] [] H9 H10 := StepN.ofExt eH10
    have tabH10 := tabs_ext tabH9 eH10
    refine w_gname ?_
    refine w_next ?_
    dsimp only
    tm_at "r"
    refine ⟨tabH10, fun f8 H11 eH11 tab8 _ lam8 => ?_⟩
    have sH11 : StepN TT [] [] H10 H11 := StepN.lam eH11 tab8
    tm_at "r"
    refine ⟨tab8, fun f9 H12 eH12 tab9 _ lam9 => ?_⟩
    have sH12 : StepN TT [] [] H11 H12 := StepN.lam eH12 tab9
    tm_at "r"
    intro p4 H13 _ eH13 hp4
    have hp4 : H13 p4 = some (.lst ([f8, f9].map V.ref)) := hp4
    have sH13 : StepN TT [] [] H12 H13 := StepN.ofExt eH13
    have hp3 := eH13.st _ _ (eH12 _ _ (eH11 _ _ hp3 (fun ps q => by cases q)) (fun ps q => by cases q)) (nsh_refs _)
    refine w_cat hp3 hp4 (by show 7 + 2 ≤ 100000; decide) fun p5 H14 _ eH14 hp5 => ?_
    have hp5 : H14 p5 = some (.lst ([f1, f2, f3, f4, f5, f6, f7, f8, f9].map V.ref)) := hp5
    refine ⟨v, rfl, fun d D hd => ?_⟩
    have eP : Ext H14 (plusC d v H14) := Ext.new hd
    have s9 : StepN TT [] [] H12 (plusC d v H14) := (sH13.trans (StepN.ofExt eH14)).trans (StepN.ofExt eP)
    have s8 := sH12.trans s9
    have s7 := (sH9.trans (sH10.trans sH11)).trans s8
    have s6 := sH8.trans s7
    have s5 := sH7.trans s6
    have s4 := (sH5.trans sH6).trans s5
    have s3 := sH4.trans s4
    have s2 := sH3.trans s3
    have s1 := sH2.trans s2
    have cel : plusC d v H14 d = some (CelO d v) := upd_same
    refine q p5 _ (plusC d v H14) (sH1.trans s1) (eP.st _ _ hp5 (nsh_refs _)) rfl fun fy hf => ?_
    simp only [List.mem_cons, List.not_mem_nil, or_false] at hf
    have mk : ∀ {t : XK → TE} {Hf : Hp} {fx : Addr}, Lam (cxOf (L2.CX P w) P w K mg base ["_law_bad", "_law_works"] "_law_wide" (defScope s_law_wide) f (.ref c) A outer s H E) 8 Hf fx t → StepN TT [] [] Hf (plusC d v H14) →
        (∀ E H Q, (∀ H', Ext H H' → E (.ref cW) none H') → t E (List.set (L2.start ["_law_bad", "_law_works"] [v]) 1 (some (V.ref p3))) H Q) → DLam P w K mg base 8 (plusC d v H14) fx cW := fun L st T => ⟨_, _, d, v, _, ⟨rfl, rfl, rfl, rfl, rfl⟩, D, cel, L.st fun b o hb ho => st.st b o hb (by simp) (by
      rcases ho with ⟨φ, rfl⟩ | ⟨xs, rfl⟩
      · exact nsh_ext
      · exact nsh_tup) (by
      rcases ho with ⟨φ, rfl⟩ | ⟨xs, rfl⟩
      · exact fun ps z => by cases z
      · exact fun ps z => by cases z), T⟩
    rcases hf with rfl | rfl | rfl | rfl | rfl | rfl | rfl | rfl | rfl
    · refine mk lam1 s1 fun E Ha Q k => ?_
      tm_at "r"
      refine w_make ?_
      tm_at "r"
      intro a2 dx ha hdx hne2
      exact ⟨.ref a2, v, rfl, hb, fun H' e => k H' ((ext_make (C := CW) ha hdx hne2).trans e)⟩
    · refine mk lam2 s2 fun E Ha Q k => ?_
      tm_at "r"
      intro z1 G1 _ g1 _
      tm_at "r"
      exact ⟨v, [.ref z1], rfl, rfl, hb, fun H' e => k H' (((Ext.refl Ha).trans g1).trans e)⟩
    · refine mk lam3 s3 fun E Ha Q k => ?_
      tm_at "r"
      intro z1 G1 _ g1 _
      tm_at "r"
      exact ⟨v, [.ref z1], rfl, rfl, hb, fun H' e => k H' (((Ext.refl Ha).trans g1).trans e)⟩
    · refine mk lam4 s4 fun E Ha Q k => ?_
      tm_at "r"
      intro z1 G1 _ g1 _
      tm_at "r"
      exact ⟨v, [.ref z1], rfl, rfl, hb, fun H' e => k H' (((Ext.refl Ha).trans g1).trans e)⟩
    · refine mk lam5 s5 fun E Ha Q k => ?_
      tm_at "r"
      intro z1 G1 _ g1 _
      tm_at "r"
      intro z2 G2 _ g2 _
      tm_at "r"
      exact ⟨v, [.ref z1, .ref z2], rfl, rfl, hb, fun H' e => k H' ((((Ext.refl Ha).trans g1).trans g2).trans e)⟩
    · refine mk lam6 s6 fun E Ha Q k => ?_
      tm_at "r"
      intro z1 G1 _ g1 _
      tm_at "r"
      intro z2 G2 _ g2 _
      tm_at "r"
      exact ⟨v, [.ref z1, .ref z2], rfl, rfl, hb, fun H' e => k H' ((((Ext.refl Ha).trans g1).trans g2).trans e)⟩
    · refine mk lam7 s7 fun E Ha Q k => ?_
      tm_at "r"
      intro z1 G1 _ g1 _
      tm_at "r"
      exact ⟨v, [.ref z1], rfl, rfl, hb, fun H' e => k H' (((Ext.refl Ha).trans g1).trans e)⟩
    · refine mk lam8 s8 fun E Ha Q k => ?_
      tm_at "r"
      intro z1 G1 _ g1 _
      tm_at "r"
      exact ⟨v, [.ref z1, .int 5], rfl, rfl, hb, fun H' e => k H' (((Ext.refl Ha).trans g1).trans e)⟩
    · refine mk lam9 s9 fun E Ha Q k => ?_
      tm_at "r"
      intro z1 G1 _ g1 _
      tm_at "r"
      exact ⟨v, [.ref z1], rfl, rfl, hb, fun H' e => k H' (((Ext.refl Ha).trans g1).trans e)⟩
end
end My
end

section
set_option pp.maxSteps 700
open PySem L2 Lw
local macro_rules | `(tactic| tm_at "s") => `(tactic| first
  | with_reducible refine w_seq ?_ | with_reducible refine w_asg ?_ | with_reducible refine w_gname ?_ | with_reducible refine w_ret ?_ | with_reducible refine w_drop ?_ | with_reducible refine w_ifS ?_ | with_reducible refine w_next ?_ | with_reducible refine w_retN ?_
  | with_reducible refine w_c ?_ | ((with_reducible refine w_var (v := ?vv) ?hh ?kk); (case hh => exact rfl)) | with_reducible refine w_op ?_ | with_reducible refine w_un ?_ | with_reducible refine w_cons ?_ | with_reducible refine w_nil ?_ | with_reducible refine w_test ?_ | with_reducible refine w_B ?_
  | with_reducible refine w_isbl ?_ | with_reducible refine w_not ?_ | with_reducible refine w_and ?_ | with_reducible refine w_or ?_ | with_reducible refine w_andV ?_ | with_reducible refine w_orV ?_ | with_reducible refine w_notV ?_ | with_reducible refine w_if ?_ | with_reducible refine w_chain ?_
  | with_reducible refine w_isN ?_ | with_reducible refine w_notN ?_ | with_reducible refine w_yes ?_ | with_reducible refine w_call ?_ | with_reducible refine w_CB ?_ | with_reducible refine w_tup ?_ | with_reducible refine w_lst ?_ | with_reducible refine w_sl ?_ | with_reducible refine w_noPart ?_
  | with_reducible refine w_part ?_ | with_reducible refine w_isint ?_ | with_reducible refine w_gSub ?_ | with_reducible refine w_break ?_ | with_reducible refine w_cont ?_
  | with_reducible refine w_I0 ?_ | with_reducible refine w_eqI ?_ | with_reducible refine w_neI ?_ | with_reducible refine w_eqS ?_ | with_reducible refine w_neS ?_ | with_reducible refine w_eqB ?_ | with_reducible refine w_neB ?_ | ((with_reducible refine w_isi (d := ?dd) ?hh ?kk); (case hh => assumption))
  | with_reducible refine w_sg ?_ | with_reducible refine w_notSg ?_ | with_reducible refine w_starts ?_ | with_reducible refine w_max2 ?_ | with_reducible refine w_min2 ?_ | with_reducible refine w_intB ?_ | with_reducible refine w_intI ?_ | with_reducible refine w_bm ?_ | with_reducible refine w_bm0 ?_ | with_reducible refine w_m1 ?_ | with_reducible refine w_m0 ?_ | with_reducible refine w_isstr ?_
  | with_reducible refine w_for ?_ | with_reducible refine w_lc ?_ | with_reducible refine w_rng ?_ | with_reducible refine w_rng2 ?_ | with_reducible refine w_ilist ?_ | with_reducible refine w_itup ?_ | with_reducible refine w_istr ?_ | with_reducible refine w_strOk ?_
  | ((with_reducible refine w_rngOk ?hh ?h2 ?kk); (case hh => omega); (case h2 => omega)) | ((with_reducible refine w_lstOk (xs := ?xx) ?hh ?kk); (case hh => assumption))
  | ((with_reducible refine w_alL ?hh ?kk); (case hh => exact Nat.le_of_ble_eq_true rfl)) | ((with_reducible refine w_alT ?hh ?kk); (case hh => exact Nat.le_of_ble_eq_true rfl))
  | ((with_reducible refine w_lenL (xs := ?xx) ?hh ?kk); (case hh => assumption)) | ((with_reducible refine w_lenT (xs := ?xx) ?hh ?kk); (case hh => assumption))
  | ((with_reducible refine w_I ?hh ?kk); (case hh => first | (show _ ≠ (0 : Int); omega) | (show (0 : Int) < _; omega) | exact ⟨by omega, by omega⟩ | exact .inl ⟨by omega, by omega⟩ | exact .inr ⟨by omega, by omega⟩ | exact ⟨by decide, by decide, by decide⟩))
  | with_reducible refine w_din ?_ | with_reducible refine w_dnot ?_ | with_reducible refine w_dget ?_ | with_reducible refine w_dput ?_ | with_reducible refine w_fld ?_ | with_reducible refine w_sto ?_ | with_reducible refine w_meth ?_ | with_reducible refine w_pop1 ?_ | with_reducible refine w_pop2 ?_ | with_reducible refine w_ikeys ?_
  | ((with_reducible refine f_width (CW := ?v1) (dx := ?v2) (t := ?v3) (l := ?v4) (w := ?v5) (told := ?v6) (many := ?v7) ?tw ?hh ?kk); (case tw => assumption); (case hh => assumption))
  | ((with_reducible refine f_things (CW := ?v1) (dx := ?v2) (t := ?v3) (l := ?v4) (w := ?v5) (told := ?v6) (many := ?v7) ?tw ?hh ?kk); (case tw => assumption); (case hh => assumption))
  | ((with_reducible refine f_listening (CW := ?v1) (dx := ?v2) (t := ?v3) (l := ?v4) (w := ?v5) (told := ?v6) (many := ?v7) ?tw ?hh ?kk); (case tw => assumption); (case hh => assumption))
  | ((with_reducible refine f_tolds (CW := ?v1) (dx := ?v2) (t := ?v3) (l := ?v4) (w := ?v5) (b := ?v6) (many := ?v7) ?tw ?hh ?kk); (case tw => assumption); (case hh => assumption))
  | ((with_reducible refine f_told (CW := ?v1) (dx := ?v2) (t := ?v3) (l := ?v4) (w := ?v5) (told := ?v6) (many := ?v7) ?tw ?hh ?kk); (case tw => assumption); (case hh => assumption))
  | ((with_reducible refine f_many (CW := ?v1) (dx := ?v2) (t := ?v3) (l := ?v4) (w := ?v5) (told := ?v6) (many := ?v7) ?tw ?hh ?kk); (case tw => assumption); (case hh => assumption))
  | ((with_reducible refine w_ixL (v := ?vv) (xs := ?xx) ?hh ?h2 ?kk); (case hh => assumption); (case h2 => exact rfl)) | ((with_reducible refine w_ixT (v := ?vv) (xs := ?xx) ?hh ?h2 ?kk); (case hh => assumption); (case h2 => exact rfl)))
local macro_rules | `(tactic| tm_at "r") => `(tactic| repeat tm_at "s")
local macro_rules | `(tactic| tm_at "b") => `(tactic| first | refine w_iteT (by with_reducible rfl) ?_ | refine w_iteF (by with_reducible rfl) ?_ | refine w_iteT (by rfl) ?_ | refine w_iteF (by rfl) ?_)
local macro_rules | `(tactic| tm_at "e") => `(tactic| repeat (first | tm_at "s" | tm_at "b"))
local macro_rules | `(tactic| tm_at "s") => `(tactic| first
  | with_reducible refine w_gcons ?_ | with_reducible refine w_gnil ?_
  | ((with_reducible refine g_wire (CK := ?v1) (dx := ?v2) (a := ?v3) (c := ?v4) (r := ?v5) (said := ?v6) (n := ?v7) (s := ?v8) ?tw ?hh ?kk); (case tw => assumption); (case hh => assumption))
  | ((with_reducible refine g_kind (CK := ?v1) (dx := ?v2) (a := ?v3) (c := ?v4) (r := ?v5) (said := ?v6) (n := ?v7) (s := ?v8) ?tw ?hh ?kk); (case tw => assumption); (case hh => assumption))
  | ((with_reducible refine g_rest (CK := ?v1) (dx := ?v2) (a := ?v3) (c := ?v4) (r := ?v5) (said := ?v6) (n := ?v7) (s := ?v8) ?tw ?hh ?kk); (case tw => assumption); (case hh => assumption))
  | ((with_reducible refine g_saids (CK := ?v1) (dx := ?v2) (a := ?v3) (c := ?v4) (r := ?v5) (b := ?v6) (n := ?v7) (s := ?v8) ?tw ?hh ?kk); (case tw => assumption); (case hh => assumption))
  | ((with_reducible refine g_said (CK := ?v1) (dx := ?v2) (a := ?v3) (c := ?v4) (r := ?v5) (said := ?v6) (n := ?v7) (s := ?v8) ?tw ?hh ?kk); (case tw => assumption); (case hh => assumption))
  | ((with_reducible refine g_names (CK := ?v1) (dx := ?v2) (a := ?v3) (c := ?v4) (r := ?v5) (said := ?v6) (n := ?v7) (s := ?v8) ?tw ?hh ?kk); (case tw => assumption); (case hh => assumption))
  | ((with_reducible refine g_seen (CK := ?v1) (dx := ?v2) (a := ?v3) (c := ?v4) (r := ?v5) (said := ?v6) (n := ?v7) (s := ?v8) ?tw ?hh ?kk); (case tw => assumption); (case hh => assumption)))
local macro_rules | `(tactic| tm_at "q") => `(tactic| repeat (first | with_reducible refine w_next ?_ | with_reducible refine w_seq ?_))
namespace My
abbrev s_law_rounds : Stmt := top 93
theorem sc_law_rounds : FnScope ["_law_row", "_law_wire", "_law_width_here", "_law_far", "_law_bad", "_law_works", "_law_k", "_law_walk", "_law_work"] ["_law_row", "_law_wire", "_law_width_here", "_law_far"] (defScope s_law_rounds) := ⟨rfl, rfl, rfl, by decide +kernel, rfl, by decide +kernel, by decide +kernel⟩
theorem w_word {K : PySem.W.Frag} {mg : Str → Option Value} {g : Kinds K mg} {tl : XK → Hp → VK → Prop} {H : Hp} {Q : VK} (k : tl (fun cls d H' => WordOk g cls d H' Q) H fun _ H' => Q (.str "") H') : TWord g tl H Q := k
theorem lam_ext {X : Cx} {k : Nat} {H H' : Hp} {f : Addr} {t : XK → TE} (h : Lam X k H f t) (e : Ext H H') : Lam X k H' f t := h.st fun b o hb ho => e.st _ _ hb (by
  rcases ho with ⟨φ, rfl⟩ | ⟨xs, rfl⟩
  · exact fun ⟨_, _, _, _, z⟩ => by cases z
  · exact nsh_tup)
theorem lam_lam {X : Cx} {k : Nat} {H H' : Hp} {f : Addr} {t : XK → TE} (h : Lam X k H f t) (e : LamX.ExtN H H') : Lam X k H' f t := h.st fun b o hb ho => e _ _ hb (by
  rcases ho with ⟨φ, rfl⟩ | ⟨xs, rfl⟩
  · exact fun ps z => by cases z
  · exact fun ps z => by cases z)
/-- no bit -/
def BadBit (v : V) : Prop := (∃ i : Int, v = .int i ∧ ¬ (i = 0 ∨ i = 1)) ∨ v = .bl true
theorem u_sayNo {CW cR cB a dx t l : Addr} {M : WM} {v : V} {H : Hp} {Q : VK} {E : XK} (W : WAt CW a dx t l M H) (ok : WOk M) (hv : BadBit v ∨ v = .int 0) (nu : ∀ b, ¬ Under M b) (k : E (.ref cR) none H) : sp_sayV CW cR cB ([.ref a, v] ++ []) H Q E := by
  rcases hv with (⟨i, rfl, _⟩ | rfl) | rfl
  · exact .inl ⟨a, dx, t, l, M, i, rfl, W, ok, fun _ => k, fun b h => absurd h (nu b), fun b c H' h => absurd h (nu b)⟩
  · exact .inr ⟨a, dx, t, l, M, rfl, W, ok, fun _ => k, fun b h => absurd h (nu b)⟩
  · exact .inl ⟨a, dx, t, l, M, 0, rfl, W, ok, fun _ => k, fun b h => absurd h (nu b), fun b c H' h => absurd h (nu b)⟩
theorem u_sayBad {CW cR cB a dx t l : Addr} {M : WM} {v : V} {b : Bits} {H : Hp} {Q : VK} {E : XK} (W : WAt CW a dx t l M H) (ok : WOk M) (hv : BadBit v) (hu : Under M b) (k : ∀ H', Ext H H' → E (.ref cB) none H') : sp_sayV CW cR cB ([.ref a, v] ++ []) H Q E := by
  rcases hv with ⟨i, rfl, h⟩ | rfl
  · exact .inl ⟨a, dx, t, l, M, i, rfl, W, ok, fun n => absurd hu (n b), fun _ _ _ => k, fun b c H' _ e => absurd (by rw [e]; cases c <;> decide) h⟩
  · exact .inr ⟨a, dx, t, l, M, rfl, W, ok, fun n => absurd hu (n b), fun _ _ => k H (Ext.refl H)⟩
theorem u_sayC {CW cR cB a dx t l : Addr} {M : WM} {b : Bits} {c : Bool} {H : Hp} {Q : VK} {E : XK} (W : WAt CW a dx t l M H) (ok : WOk M) (hu : Under M b) (k : ∀ H', WAt CW a dx t l (M.say b c) H' → Step [a, t, l] [a, t, l] H H' → Q .non H') : sp_sayV CW cR cB ([.ref a, .int (bi c)] ++ []) H Q E :=
  .inl ⟨a, dx, t, l, M, bi c, rfl, W, ok, fun n => absurd hu (n b), fun _ _ h => absurd (by cases c <;> decide) h, fun b' c' H' hu' e w st => by
    have e1 : b' = b := by
      have := hu'.1.symm.trans hu.1
      exact Option.some.inj this
    have e2 : c' = c := by cases c <;> cases c' <;> first | rfl | exact absurd e (by decide)
    subst e1 e2
    exact k H' w st⟩
/-- what lambdas and lists of them lean on stays -/
def Kp (H H' : Hp) : Prop := ∀ b o, H b = some o → ((∃ φ, o = .ext φ) ∨ (∃ xs, o = .tup xs) ∨ ∃ xs : List Addr, o = .lst (xs.map V.ref)) → H' b = some o
theorem Kp.trans {H H' H2 : Hp} (a : Kp H H') (b : Kp H' H2) : Kp H H2 := fun c o h k => b c o (a c o h k) k
theorem Kp.ext {H H' : Hp} (e : Ext H H') : Kp H H' := fun b o h k => e.st b o h (by
  rcases k with ⟨φ, rfl⟩ | ⟨xs, rfl⟩ | ⟨xs, rfl⟩
  · exact nsh_ext
  · exact nsh_tup
  · exact nsh_refs _)
theorem Kp.lam {H H' : Hp} (e : LamX.ExtN H H') : Kp H H' := fun b o h k => e b o h (by
  rcases k with ⟨φ, rfl⟩ | ⟨xs, rfl⟩ | ⟨xs, rfl⟩ <;> exact fun ps z => by cases z)
theorem Kp.wire {H H' : Hp} {CW a dx t l : Addr} {M : WM} {F' : List Addr} (W : WAt CW a dx t l M H) (s : Step [a, t, l] F' H H') : Kp H H' := fun b o h k => s.st b o h (fun hb => by
  simp only [List.mem_cons, List.not_mem_nil, or_false] at hb
  rcases hb with rfl | rfl | rfl
  · rw [W.ob] at h; rcases k with ⟨φ, rfl⟩ | ⟨xs, rfl⟩ | ⟨xs, rfl⟩ <;> cases h
  · rw [W.th] at h; rcases k with ⟨φ, rfl⟩ | ⟨xs, rfl⟩ | ⟨xs, rfl⟩ <;> cases h
  · rw [W.li] at h; rcases k with ⟨φ, rfl⟩ | ⟨xs, rfl⟩ | ⟨xs, rfl⟩ <;> cases h) (by
  rcases k with ⟨φ, rfl⟩ | ⟨xs, rfl⟩ | ⟨xs, rfl⟩
  · exact nsh_ext
  · exact nsh_tup
  · exact nsh_refs _)
theorem lam_kp {X : Cx} {k : Nat} {H H' : Hp} {f : Addr} {t : XK → TE} (h : Lam X k H f t) (e : Kp H H') : Lam X k H' f t := h.st fun b o hb ho => e b o hb (ho.elim .inl fun q => .inr (.inl q))
/-- one wire, as a def goes on -/
structure In1 (K : PySem.W.Frag) (TT : List (Addr × Str)) (r CW a dx t : Addr) (F0 : List Addr) (H0 : Hp) (l : Addr) (M : WM) (H : Hp) : Prop where
  row : RowOk K H r
  W : WAt CW a dx t l M H
  tab : LamX.Tabs TT H
  m : StepN TT F0 [a, t, l] H0 H
section
variable {K : PySem.W.Frag} {TT : List (Addr × Str)} {r CW a dx t l l' : Addr} {F0 : List Addr} {H0 H H' : Hp} {M M' : WM}
theorem In1.ext (h : In1 K TT r CW a dx t F0 H0 l M H) (e : Ext H H') : In1 K TT r CW a dx t F0 H0 l M H' := ⟨e.rowOk h.row, (oWire CW a dx t l M).ext e h.W, tabs_ext h.tab e, h.m.trans (StepN.ofExt e)⟩
theorem In1.sts (h : In1 K TT r CW a dx t F0 H0 l M H) : Sts H [oWire CW a dx t l M] := ⟨fun V hV => by rw [List.mem_singleton.mp hV]; exact h.W, List.pairwise_singleton _ _⟩
theorem In1.lam (h : In1 K TT r CW a dx t F0 H0 l M H) (e : LamX.ExtN H H') (T : LamX.Tabs TT H') : In1 K TT r CW a dx t F0 H0 l M H' := ⟨RowOk.lam e h.row, (h.sts.lam e).1 (oWire CW a dx t l M) (by simp), T, h.m.trans (StepN.lam e T)⟩
theorem In1.one (h : In1 K TT r CW a dx t F0 H0 l M H) (W : WAt CW a dx t l' M' H') (s : Step [a, t, l] [a, t, l'] H H') : In1 K TT r CW a dx t F0 H0 l' M' H' :=
  ⟨Sts.row (l1 := []) (l2 := []) (W' := oWire CW a dx t l' M') h.sts s h.row, W, Sts.tabs (l1 := []) (l2 := []) (W' := oWire CW a dx t l' M') h.sts s h.tab, h.m.trans (StepN.of s (oWire CW a dx t l M |>.al h.W))⟩
end
def sp_rounds (K : PySem.W.Frag) (TT : List (Addr × Str)) (CW : Addr) : Sp := fun vs H Q _ => ∃ (r a dx t l : Addr) (M : WM) (far : Int), vs = [.ref r, .ref a, .int (M.width : Int), .int far] ∧ RowOk K H r ∧ LamX.Tabs TT H ∧ WAt CW a dx t l M H ∧ WOk M ∧ M.told = none ∧ M.many = 0 ∧ M.things.length ≤ 40 ∧ 1 ≤ far ∧ far ≤ 1000000 ∧
  ∀ (F' : List Addr) (H' : Hp), StepN TT [a, t, l] F' H H' → Q (.bl true) H'
section
variable {P : Program} {w : World} {K : PySem.W.Frag} {mg : Str → Option Value} {base : Heap}
theorem ok_rounds {f c Pt fw CW CK : Addr} {fd fdw : FuncData} {TT : List (Addr × Str)} (g : Kinds K mg) (F : FunC K "_law_rounds" "_law_rounds" s_law_rounds f fd c) (T : TxB mg) (TW : ClW K CW) (TK : ClK K CK) (Fw : Fun K "_law_word" "_law_word" s_law_word fw fdw) (bw : Binds K fdw ["_law_work"] []) (m_word : mg "_law_word" = some (.ref fw))
    (TB : LamX.TabB base mg c Pt) (hmT : (Pt, ("_law_rounds.<locals>.<lambda>" : Str)) ∈ TT) (hu : ∀ p ∈ TT, p.1 = Pt → p.2 = ("_law_rounds.<locals>.<lambda>" : Str))
    (C_law_taken : Cal P w K mg base 1 "_law_taken" ["_law_row", "_law_many"] (sp_taken K)) (C_Wire_look : CalM P w K mg base 2 CW "look" ["self"] (sp_look CW g.c_NoRound)) (C_Wire_say : CalM P w K mg base 2 CW "say" ["self", "bit"] (sp_sayV CW g.c_NoRound g.c_BadBit))
    (C_Wire_begin : CalM P w K mg base 2 CW "begin" ["self", "kind"] (sp_begin CW g.c_BadKind)) (C_Wire_looks : CalM P w K mg base 1 CW "looks" ["self"] (sp_looks CW)) (C_Walk : CalC P w K mg base 2 CK "Walk" ["self", "wire", "kind"] (sp_kinit CK g.c_BadKind))
    (C_Walk_go_all : CalM P w K mg base 7 CK "go_all" ["self"] (sp_kall CW CK)) (C_Walk_step : CalM P w K mg base 5 CK "step" ["self"] (sp_kstep K CW CK g.c_Over)) (C_Walk_go_round : CalM P w K mg base 6 CK "go_round" ["self"] (sp_kround K CW CK g.c_Over)) :
    FnOk P w K mg base (L2.CX P w) 22 f fd ["_law_row", "_law_wire", "_law_width_here", "_law_far"] (sp_rounds K TT CW) := by
  have cl_Wire := TW.cl
  have cl_Walk := TK.cl
  obtain ⟨ocw, odw, kVw, docw, pmw, anw, cdw, ctw, oslw, rfl, lkw, hcw⟩ := Fw.ex
  refine F.okX sc_law_rounds (fun vs H Q E h => ?_) (fun A outer s H vs Q E hr h => ⟨_, (pss_cons (ps_set (i := 4) sc_law_rounds.nd rfl (by first | exact Or.inl rfl | exact Or.inr rfl) (pe_ix (ixL (K := K) rfl) (pe_lst (pa_cons pe_int (pa_cons (pe_op op_sub pe_int pe_int) (pa_cons (pe_op op_add pe_int (pv 3)) (pa_cons (pe_op op_sub pe_int (pv 3)) (pa_cons pe_bl pa_nil)))))) (pe_cal (E := E0) C_law_taken (hr.mono (by first | decide | omega)) passL (pa_cons (pv 0) (pa_cons pe_int pa_nil))) (fun _ _ => rfl)))
 (pss_cons (ps_set (i := 5) sc_law_rounds.nd rfl (by first | exact Or.inl rfl | exact Or.inr rfl) (pe_lst (pa_cons (pe_lam0 (T := TT) (k := 18) TB rfl hmT hu (lamD_by (by kernel_rfl)) rfl (fun _ _ _ _ _ _ => rfl) (fun A outer s H E f c' hr => (pe_me0 (E := E) (pv 1) cl_Wire C_Wire_look (hr.mono (by first | decide | omega)) (passes_call (takes_of rfl rfl rfl rfl) (fun _ _ _ _ h => h))))) (pa_cons (pe_lam1 (T := TT) (k := 18) TB rfl hmT hu (lamD_by (by kernel_rfl)) rfl rfl rfl (fun _ _ _ _ _ _ _ => ⟨_, rfl, fun _ => rfl⟩) (fun A outer s H E f c' hr => (pe_me (E := E) (pv 1) cl_Wire C_Wire_say (hr.mono (by first | decide | omega)) (passes_call (takes_of rfl rfl rfl rfl) (fun _ _ _ _ h => h)) (pa_cons pe_int pa_nil)))) (pa_cons (pe_lam1 (T := TT) (k := 18) TB rfl hmT hu (lamD_by (by kernel_rfl)) rfl rfl rfl (fun _ _ _ _ _ _ _ => ⟨_, rfl, fun _ => rfl⟩) (fun A outer s H E f c' hr => (pe_me (E := E) (pv 1) cl_Wire C_Wire_say (hr.mono (by first | decide | omega)) (passes_call (takes_of rfl rfl rfl rfl) (fun _ _ _ _ h => h)) (pa_cons (pv 4) pa_nil)))) pa_nil)))))
 (pss_cons (ps_if (pt_cmpR (oNeD (K := K) rfl hr.units) (pe_lcB (own := [("_law_work", 8)]) (g := gName 8) rfl sc_law_rounds.nd (piL (K := K) rfl (pv 5)) (blkOk_by (own := [("_law_work", 8)]) (N := ["_law_row", "_law_wire", "_law_width_here", "_law_far", "_law_bad", "_law_works", "_law_k", "_law_walk", "_law_work"]) (sc := defScope s_law_rounds) (by decide +kernel)) (fun _ _ _ _ _ => pg_name (i := 8) sc_law_rounds.nd rfl (Or.inl rfl)) (fun _ _ _ _ _ _ st => pts_one (pt_cmpR op_ne (pe_workB (TT := TWord g) (k := 18) st rfl m_word Fw.kp lkw hcw bw sc_law_word rfl (Or.inl rfl) (gives_wordR (K := K) (mg := mg) _ rfl rfl T g fw _) (hr.mono (by first | decide | omega)) (pv 8)) pe_str (nomark _))) (fun _ _ _ _ _ _ st => (pv 8))) (pe_lst pa_nil) (nomark _))
 (pss_one (ps_ret pe_bl))
 pss_nil)
 (pss_cons (ps_expr (pe_me (E := E0) (pv 1) cl_Wire C_Wire_begin (hr.mono (by first | decide | omega)) passL (pa_cons (pe_ix (ixL (K := K) rfl) (pe_lst (pa_cons pe_str (pa_cons pe_str pa_nil))) (pe_cal (E := E0) C_law_taken (hr.mono (by first | decide | omega)) passL (pa_cons (pv 0) (pa_cons pe_int pa_nil))) (fun _ _ => rfl)) pa_nil)))
 (pss_cons (ps_for (passes_of rfl) rfl (pi_range1 rfl T.n_range (pa_cons (pv 2) pa_nil)) (pg_name (i := 6) sc_law_rounds.nd rfl (by first | exact Or.inl rfl | exact Or.inr rfl))
 (pss_cons (ps_if (pt_cmpR op_ne (pe_work (k := 18) rfl m_word Fw.kp lkw hcw bw sc_law_word rfl (Or.inl rfl) (gives_wordR _ rfl rfl T g fw _) (hr.mono (by first | decide | omega)) (pe_lam0 (T := TT) (k := 18) TB rfl hmT hu (lamD_by (by kernel_rfl)) rfl (fun _ _ _ _ _ _ => rfl) (fun A outer s H E f c' hr => (pe_me (E := E) (pv 1) cl_Wire C_Wire_say (hr.mono (by first | decide | omega)) (passes_call (takes_of rfl rfl rfl rfl) (fun _ _ _ _ h => h)) (pa_cons (pv 4) pa_nil))))) pe_str (nomark _))
 (pss_one (ps_ret pe_bl))
 pss_nil)
 (pss_one (ps_expr (pe_me (E := E0) (pv 1) cl_Wire C_Wire_say (hr.mono (by first | decide | omega)) passL (pa_cons (pe_cal (E := E0) C_law_taken (hr.mono (by first | decide | omega)) passL (pa_cons (pv 0) (pa_cons pe_int pa_nil))) pa_nil))))))
 (pss_cons (ps_if (PW.pt (pw_or (pt_cmpR (oNeD (K := K) rfl hr.units) (pe_lcB (own := [("_law_work", 8)]) (g := gName 8) rfl sc_law_rounds.nd (piL (K := K) rfl (pv 5)) (blkOk_by (own := [("_law_work", 8)]) (N := ["_law_row", "_law_wire", "_law_width_here", "_law_far", "_law_bad", "_law_works", "_law_k", "_law_walk", "_law_work"]) (sc := defScope s_law_rounds) (by decide +kernel)) (fun _ _ _ _ _ => pg_name (i := 8) sc_law_rounds.nd rfl (Or.inl rfl)) (fun _ _ _ _ _ _ st => pts_one (pt_cmpR op_ne (pe_workB (TT := TWord g) (k := 18) st rfl m_word Fw.kp lkw hcw bw sc_law_word rfl (Or.inl rfl) (gives_wordR (K := K) (mg := mg) _ rfl rfl T g fw _) (hr.mono (by first | decide | omega)) (pv 8)) pe_str (nomark _))) (fun _ _ _ _ _ _ st => (pv 8))) (pe_lst pa_nil) (nomark _)) (pw_or1 (pt_cmpR op_ne (pe_me0 (E := E0) (pv 1) cl_Wire C_Wire_looks (hr.mono (by first | decide | omega)) passL) pe_int (nomark _)))))
 (pss_one (ps_ret pe_bl))
 pss_nil)
 (pss_cons (ps_set (i := 7) sc_law_rounds.nd rfl (by first | exact Or.inl rfl | exact Or.inr rfl) (pe_mk C_Walk (hr.mono (by first | decide | omega)) passL (pa_cons (pv 1) (pa_cons pe_str pa_nil))))
 (pss_cons (ps_expr (pe_me0 (E := E0) (pv 7) cl_Walk C_Walk_go_all (hr.mono (by first | decide | omega)) passL))
 (pss_one (ps_ret (pe_cmpR (oEqD (K := K) rfl hr.units) (pe_lst (pa_cons (pe_work (k := 18) rfl m_word Fw.kp lkw hcw bw sc_law_word rfl (Or.inl rfl) (gives_wordR _ rfl rfl T g fw _) (hr.mono (by first | decide | omega)) (pe_lam0 (T := TT) (k := 18) TB rfl hmT hu (lamD_by (by kernel_rfl)) rfl (fun _ _ _ _ _ _ => rfl) (fun A outer s H E f c' hr => (pe_me0 (E := E) (pv 7) cl_Walk C_Walk_step (hr.mono (by first | decide | omega)) (passes_call (takes_of rfl rfl rfl rfl) (fun _ _ _ _ h => h)))))) (pa_cons (pe_work (k := 18) rfl m_word Fw.kp lkw hcw bw sc_law_word rfl (Or.inl rfl) (gives_wordR _ rfl rfl T g fw _) (hr.mono (by first | decide | omega)) (pe_lam1 (T := TT) (k := 18) TB rfl hmT hu (lamD_by (by kernel_rfl)) rfl rfl rfl (fun _ _ _ _ _ _ _ => ⟨_, rfl, fun _ => rfl⟩) (fun A outer s H E f c' hr => (pe_me0 (E := E) (pv 7) cl_Walk C_Walk_go_round (hr.mono (by first | decide | omega)) (passes_call (takes_of rfl rfl rfl rfl) (fun _ _ _ _ h => h)))))) pa_nil))) (pe_lst (pa_cons pe_str (pa_cons pe_str pa_nil))) (nomark _)))))))))))), ?_⟩)
  · obtain ⟨r, a, dx, t, l, M, far, rfl, _⟩ := h
    rfl
  · obtain ⟨r, a, dx, t, l, M, far, rfl, hrow, htab, W, ok, hnone, hmany, hz, hf1, hf2, q⟩ := h
    have J : In1 K TT r CW a dx t [a, t, l] H l M H := ⟨hrow, W, htab, StepN.ofExt (Ext.refl H)⟩
    tm_at "r"
    intro pb H1 _ e1 hpb
    have J := J.ext e1
    tm_at "r"
    refine u_taken J.row (by omega) (by omega) fun x H2 hx0 hx1 e2 => ?_
    have J := J.ext e2
    obtain ⟨bad, hat, hbad⟩ : ∃ bad : V, atI [V.int 2, V.int (0 - 1), V.int (1 + far), V.int (0 - far), V.bl true] x = some bad ∧ BadBit bad := by
      have : x = 0 ∨ x = 1 ∨ x = 2 ∨ x = 3 ∨ x = 4 := by omega
      rcases this with rfl | rfl | rfl | rfl | rfl
      · exact ⟨_, rfl, .inl ⟨_, rfl, by decide⟩⟩
      · exact ⟨_, rfl, .inl ⟨_, rfl, by decide⟩⟩
      · exact ⟨_, rfl, .inl ⟨_, rfl, by omega⟩⟩
      · exact ⟨_, rfl, .inl ⟨_, rfl, by omega⟩⟩
      · exact ⟨_, rfl, .inr rfl⟩
    refine w_ixL (v := bad) (SqL.of (e2.st _ _ hpb (nsh_of fun a i m z e => by cases e))) hat ?_
    clear e1 e2 hpb hat hx0 hx1 W htab hrow
    tm_at "r"
    refine ⟨J.tab, fun f1 H3 e3 t3 _ lam1 => ?_⟩
    have J := J.lam e3 t3
    clear e3
    tm_at "r"
    refine ⟨J.tab, fun f2 H4 e4 t4 _ lam2 => ?_⟩
    have J := J.lam e4 t4
    have lam1 := lam_lam lam1 e4
    clear e4
    tm_at "r"
    refine ⟨J.tab, fun f3 H5 e5 t5 _ lam3 => ?_⟩
    have J := J.lam e5 t5
    have lam1 := lam_lam lam1 e5
    have lam2 := lam_lam lam2 e5
    clear e5
    tm_at "r"
    intro pw H6 _ e6 hpw
    have hpw : H6 pw = some (.lst ([f1, f2, f3].map V.ref)) := hpw
    have J := J.ext e6
    have lam1 := lam_ext lam1 e6
    have lam2 := lam_ext lam2 e6
    have lam3 := lam_ext lam3 e6
    clear e6 t3 t4 t5
    have nu : ∀ b, ¬ Under M b := fun b h => by have := h.1; rw [hnone] at this; cases this
    have wordR : ∀ (H : Hp) (Q : VK), (∀ H', Ext H H' → Q (.str "round") H') → WordOk g (.ref g.c_NoRound) none H Q := fun H Q k => ⟨6, g.c_NoRound, "round", rfl, rfl, by decide, by decide, by decide, rfl, rfl, k⟩
    have spw : SqL K H6 pw ([f1, f2, f3].map V.ref) := SqL.of hpw
    tm_at "r"
    refine lcFx (bs := [f1, f2, f3]) (gv := V.ref) (fun _ => false) spw nsh_refs (by show 3 ≤ 100000; decide) (fun _ => rfl) (fun b H' NF NE hb e kF kE => ?_) fun D2 H7 _ e7 hD2 => ?_
    · have J := J.ext e
      have hb : b = f1 ∨ b = f2 ∨ b = f3 := by simpa using hb
      rcases hb with rfl | rfl | rfl
      · tm_at "r"
        refine ⟨_, rfl, b, _, rfl, lam_ext lam1 e, ?_⟩
        refine w_word ?_
        tm_at "r"
        refine w_meOk J.W.ob (by kernel_rfl) ?_
        tm_at "r"
        refine ⟨a, dx, t, _, _, rfl, J.W, ok, fun _ => ?_, fun b p H' h => absurd h (nu b)⟩
        refine wordR _ _ fun H4 e4 => ?_
        tm_at "r"
        refine w_iteF (by decide +kernel) ?_
        exact kF rfl H4 e4
      · tm_at "r"
        refine ⟨_, rfl, b, _, rfl, lam_ext lam2 e, ?_⟩
        refine w_word ?_
        tm_at "r"
        refine w_meOk J.W.ob (by kernel_rfl) ?_
        tm_at "r"
        refine u_sayNo J.W ok (.inr rfl) nu ?_
        refine wordR _ _ fun H4 e4 => ?_
        tm_at "r"
        refine w_iteF (by decide +kernel) ?_
        exact kF rfl H4 e4
      · tm_at "r"
        refine ⟨_, rfl, b, _, rfl, lam_ext lam3 e, ?_⟩
        refine w_word ?_
        tm_at "r"
        refine w_meOk J.W.ob (by kernel_rfl) ?_
        tm_at "r"
        refine u_sayNo J.W ok (.inl hbad) nu ?_
        refine wordR _ _ fun H4 e4 => ?_
        tm_at "r"
        refine w_iteF (by decide +kernel) ?_
        exact kF rfl H4 e4
    · have J := J.ext e7
      have hD2 : H7 D2 = some (.lst (bvs [])) := hD2
      tm_at "r"
      intro z1 H7b _ e7b hz1
      have hz1 : H7b z1 = some (.lst (bvs [])) := hz1
      have J := J.ext e7b
      refine w_neLs (SqL.of (e7b.st _ _ hD2 nsh_nil)) (SqL.of hz1) ?_
      have kp := (Kp.ext e7).trans (Kp.ext e7b)
      have lam1 := lam_kp lam1 kp
      have lam2 := lam_kp lam2 kp
      have lam3 := lam_kp lam3 kp
      have hpw := kp _ _ hpw (.inr (.inr ⟨_, rfl⟩))
      clear spw hD2 e7 e7b hz1 kp
      tm_at "r"
      refine w_iteF (by decide +kernel) ?_
      tm_at "r"
      refine w_meOk J.W.ob (by kernel_rfl) ?_
      tm_at "r"
      intro pk H8 _ e8 hpk
      have J := J.ext e8
      tm_at "r"
      refine u_taken J.row (by omega) (by omega) fun x H9 hx0 hx1 e9 => ?_
      have J := J.ext e9
      obtain ⟨cc, hat⟩ : ∃ cc : Bool, atI [V.str (Str.ofString "all"), V.str (Str.ofString "alarm")] x = some (.str (kindS cc)) := by
        have : x = 0 ∨ x = 1 := by omega
        rcases this with rfl | rfl
        · exact ⟨true, rfl⟩
        · exact ⟨false, rfl⟩
      refine w_ixL (v := .str (kindS cc)) (SqL.of (e9.st _ _ hpk (nsh_of fun a i m z e => by cases e))) hat ?_
      have kp := (Kp.ext e8).trans (Kp.ext e9)
      have lam1 := lam_kp lam1 kp
      have lam2 := lam_kp lam2 kp
      have lam3 := lam_kp lam3 kp
      have hpw := kp _ _ hpw (.inr (.inr ⟨_, rfl⟩))
      clear e8 e9 kp hpk hat hx0 hx1
      tm_at "r"
      refine ⟨a, dx, t, _, _, _, rfl, J.W, ok, fun h => absurd (kindS_or cc) h, fun l1 H10 _ W1 s1 => ?_⟩
      have kp := Kp.wire J.W s1
      have lam1 := lam_kp lam1 kp
      have lam2 := lam_kp lam2 kp
      have lam3 := lam_kp lam3 kp
      have hpw := kp _ _ hpw (.inr (.inr ⟨_, rfl⟩))
      have J := J.one W1 s1
      have ok1 : WOk (M.begin (decide (kindS cc = Str.ofString "all"))) := ok.begin
      have told1 : (M.begin (decide (kindS cc = Str.ofString "all"))).told = some [] := rfl
      have wid1 : (M.begin (decide (kindS cc = Str.ofString "all"))).width = M.width := rfl
      have many1 : (M.begin (decide (kindS cc = Str.ofString "all"))).many = 0 := hmany
      have thg1 : (M.begin (decide (kindS cc = Str.ofString "all"))).things = M.things := rfl
      generalize M.begin (decide (kindS cc = Str.ofString "all")) = M1 at J ok1 told1 wid1 many1 thg1
      clear W1 s1 kp nu
      tm_at "r"
      have hw12 := ok.w2
      refine w_rngOk (by omega) (by omega) ?_
      rw [Int.toNat_natCast]
      refine forR (fun i σ H' => (∃ y6 : Option V, σ = [some (.ref r), some (.ref a), some (.int (M.width : Int)), some (.int far), some bad, some (.ref pw), y6, none, none]) ∧ ∃ (l' : Addr) (M' : WM) (b : Bits), In1 K TT r CW a dx t [a, t, l] H l' M' H' ∧ WOk M' ∧ M'.told = some b ∧ b.length = i ∧ M'.width = M.width ∧ M'.many = 0 ∧ M'.things = M.things ∧ Kp H10 H')
        ⟨⟨_, rfl⟩, l1, M1, [], J, ok1, told1, rfl, wid1, many1, thg1, fun b o h _ => h⟩ ?_ ?_
      · clear J ok1 told1 wid1 many1 thg1
        rintro i σ H11 NN hi ⟨⟨y6, rfl⟩, l2, M2, b, J, ok2, told2, hbl, wid2, many2, thg2, kp⟩ kN
        have hU : Under M2 b := ⟨told2, by rw [wid2, hbl]; omega⟩
        tm_at "r"
        refine ⟨J.tab, fun fx H12 e12 t12 _ lam4 => ⟨fx, _, rfl, lam4, ?_⟩⟩
        have J := J.lam e12 t12
        have kp := kp.trans (Kp.lam e12)
        refine w_word ?_
        tm_at "r"
        refine w_meOk J.W.ob (by kernel_rfl) ?_
        tm_at "r"
        refine u_sayBad J.W ok2 hbad hU fun H13 e13 => ?_
        refine ⟨3, g.c_BadBit, "bit", rfl, rfl, by decide, by decide, by decide, rfl, rfl, fun H14 e14 => ?_⟩
        have J := J.ext (e13.trans e14)
        have kp := kp.trans (Kp.ext (e13.trans e14))
        tm_at "r"
        refine w_iteF (by decide +kernel) ?_
        tm_at "r"
        refine w_meOk J.W.ob (by kernel_rfl) ?_
        tm_at "r"
        refine u_taken J.row (by omega) (by omega) fun x H15 hx0 hx1 e15 => ?_
        have J := J.ext e15
        have kp := kp.trans (Kp.ext e15)
        obtain ⟨cb, rfl⟩ : ∃ cb : Bool, x = bi cb := by
          have : x = 0 ∨ x = 1 := by omega
          rcases this with rfl | rfl
          · exact ⟨false, rfl⟩
          · exact ⟨true, rfl⟩
        tm_at "r"
        refine u_sayC J.W ok2 hU fun H16 W16 s16 => ?_
        have kp := kp.trans (Kp.wire J.W s16)
        have J := J.one W16 s16
        exact kN _ _ ⟨⟨_, rfl⟩, l2, M2.say b cb, b ++ [cb], J, ok2.say hU.2, rfl, by rw [List.length_append, hbl]; rfl, wid2, many2, thg2, kp⟩
      · clear J ok1 told1 wid1 many1 thg1
        rintro σ H11 ⟨⟨y6, rfl⟩, l2, M2, b, J, ok, told2, hbl, wid2, many2, thg2, kp⟩
        have nu : ∀ b, ¬ Under M2 b := fun b' h => by
          have h1 := h.1
          rw [told2] at h1
          cases h1
          have h2 := h.2
          rw [wid2, hbl] at h2
          omega
        have lam1 := lam_kp lam1 kp
        have lam2 := lam_kp lam2 kp
        have lam3 := lam_kp lam3 kp
        have hpw := kp _ _ hpw (.inr (.inr ⟨_, rfl⟩))
        clear kp
        have spw : SqL K H11 pw ([f1, f2, f3].map V.ref) := SqL.of hpw
        tm_at "r"
        refine lcFx (bs := [f1, f2, f3]) (gv := V.ref) (fun _ => false) spw nsh_refs (by show 3 ≤ 100000; decide) (fun _ => rfl) (fun b H' NF NE hb e kF kE => ?_) fun D3 H12 _ e12 hD2 => ?_
        · have J := J.ext e
          have hb : b = f1 ∨ b = f2 ∨ b = f3 := by simpa using hb
          rcases hb with rfl | rfl | rfl
          · tm_at "r"
            refine ⟨_, rfl, b, _, rfl, lam_ext lam1 e, ?_⟩
            refine w_word ?_
            tm_at "r"
            refine w_meOk J.W.ob (by kernel_rfl) ?_
            tm_at "r"
            refine ⟨a, dx, t, _, _, rfl, J.W, ok, fun _ => ?_, fun b p H' h => absurd h (nu b)⟩
            refine wordR _ _ fun H4 e4 => ?_
            tm_at "r"
            refine w_iteF (by decide +kernel) ?_
            exact kF rfl H4 e4
          · tm_at "r"
            refine ⟨_, rfl, b, _, rfl, lam_ext lam2 e, ?_⟩
            refine w_word ?_
            tm_at "r"
            refine w_meOk J.W.ob (by kernel_rfl) ?_
            tm_at "r"
            refine u_sayNo J.W ok (.inr rfl) nu ?_
            refine wordR _ _ fun H4 e4 => ?_
            tm_at "r"
            refine w_iteF (by decide +kernel) ?_
            exact kF rfl H4 e4
          · tm_at "r"
            refine ⟨_, rfl, b, _, rfl, lam_ext lam3 e, ?_⟩
            refine w_word ?_
            tm_at "r"
            refine w_meOk J.W.ob (by kernel_rfl) ?_
            tm_at "r"
            refine u_sayNo J.W ok (.inl hbad) nu ?_
            refine wordR _ _ fun H4 e4 => ?_
            tm_at "r"
            refine w_iteF (by decide +kernel) ?_
            exact kF rfl H4 e4
        · have J := J.ext e12
          have hD2 : H12 D3 = some (.lst (bvs [])) := hD2
          tm_at "r"
          intro z1 H12b _ e12b hz1
          have hz1 : H12b z1 = some (.lst (bvs [])) := hz1
          have J := J.ext e12b
          refine w_neLs (SqL.of (e12b.st _ _ hD2 nsh_nil)) (SqL.of hz1) ?_
          have kp := (Kp.ext e12).trans (Kp.ext e12b)
          have lam1 := lam_kp lam1 kp
          have lam2 := lam_kp lam2 kp
          have lam3 := lam_kp lam3 kp
          have hpw := kp _ _ hpw (.inr (.inr ⟨_, rfl⟩))
          clear spw hD2 e12 e12b hz1 kp
          tm_at "r"
          refine w_iteF (by decide +kernel) ?_
          tm_at "r"
          refine w_meOk J.W.ob (by kernel_rfl) ?_
          tm_at "r"
          refine ⟨a, dx, t, _, _, rfl, J.W, ?_⟩
          rw [many2]
          tm_at "r"
          refine w_iteF (by decide +kernel) ?_
          clear lam1 lam2 lam3 hpw
          tm_at "r"
          refine w_make ?_
          tm_at "r"
          intro k2 dk2 hk hdk hne
          have ex := ext_make (C := CK) hk hdk hne
          have k6 : upd (upd H12b dk2 (.own k2)) k2 (.ins CK dk2 []) k2 = some (.ins CK dk2 []) := upd_same
          have nn : ∀ b, upd (upd H12b dk2 (.own k2)) k2 (.ins CK dk2 []) b = none → H12b b = none := fun b hb => make_none hb
          generalize upd (upd H12b dk2 (.own k2)) k2 (.ins CK dk2 []) = H13 at ex k6 nn ⊢
          refine ⟨k2, a, dk2, kindS true, rfl, k6, fun h => absurd (kindS_or true) h, fun c2 r2 n2 s2 H14 hc K3 m3 => ⟨rfl, ?_⟩⟩
          have ec : c2 = true := by cases c2 <;> first | rfl | exact absurd hc (by decide)
          subst ec
          have e3 := ext_fresh hk ex m3
          have J3 := J.ext e3
          have n02 : ∀ b ∈ [k2, r2, n2, s2] ++ [], H12b b = none := fun b hb => by
            rcases m3.nw b hb with h | h
            · rw [List.mem_singleton.mp h]
              exact hk
            · exact nn b h
          obtain ⟨j, M1', N1, hrun, hj, S1⟩ := still_run ok (by rw [thg2]; exact hz) true
          tm_at "r"
          refine w_meOk K3.ob (by kernel_rfl) ?_
          tm_at "r"
          refine ⟨a, dx, t, _, k2, dk2, r2, n2, s2, [], M2, ⟨true, [[]], none, [], []⟩, j, M1', N1, rfl, J3.W, K3, ok, (KS.new (c := true) ok).kp, hrun, ⟨by show 1 ≤ 8900 - j; omega, Nat.zero_le _, Nat.zero_le _⟩, by omega, ?_⟩
          intro l3 ps1 pq H15 W4 K4 hpq hpn m4
          have M4 : Step [a, t, l2] [a, t, l3] H12b H15 := Step.forget e3 n02 m4
          have J := J.one W4 M4
          clear J3 m3 m4 M4 n02 e3 k6 nn ex hk hdk hne hpn hpq
          have ov1 : N1.said = none ∧ N1.rest = [] := by
            have := S1.ov
            simpa only [KM.over, Bool.and_eq_true, decide_eq_true_eq] using this
          have kpw : KP M1' N1 := ⟨fun b hb => (by rw [ov1.1] at hb; cases hb), fun x hx => (by rw [ov1.2] at hx; cases hx)⟩
          have hrest : N1.rest = [] := by
            have := S1.ov
            simp only [KM.over, Bool.and_eq_true, decide_eq_true_eq] at this
            exact this.2
          have okM := S1.ok
          obtain ⟨hs1, hs2⟩ := S1.sz
          have over1 := S1.ov
          have wordO : ∀ (H : Hp) (Q : VK), (∀ H', Ext H H' → Q (.str "over") H') → WordOk g (.ref g.c_Over) none H Q := fun H Q k => ⟨7, g.c_Over, "over", rfl, rfl, by decide, by decide, by decide, rfl, rfl, k⟩
          have stK : Sts H15 [oWalk CK k2 dk2 a r2 n2 s2 ps1 N1] := ⟨fun V hV => by rw [List.mem_singleton.mp hV]; exact K4, List.pairwise_singleton _ _⟩
          clear K4 S1 hrun hj W4
          tm_at "r"
          refine ⟨J.tab, fun fx H16 e16 t16 _ lam4 => ⟨fx, _, rfl, lam4, ?_⟩⟩
          have J := J.lam e16 t16
          have stK := stK.lam e16
          have K4 : KAt CK k2 dk2 a r2 n2 s2 ps1 N1 H16 := stK.1 (oWalk CK k2 dk2 a r2 n2 s2 ps1 N1) (by simp)
          refine w_word ?_
          tm_at "r"
          refine w_meOk K4.ob (by kernel_rfl) ?_
          tm_at "r"
          refine ⟨a, dx, t, _, k2, dk2, r2, n2, s2, ps1, M1', N1, rfl, J.W, K4, okM, kpw, ⟨by rw [hrest]; show 0 < 9000; decide, by omega, by omega⟩, fun _ H17 e17 => ?_, fun h => absurd h (by rw [over1]; decide)⟩
          refine wordO _ _ fun H18 e18 => ?_
          have J := J.ext (e17.trans e18)
          have stK := stK.ext (e17.trans e18)
          tm_at "r"
          refine ⟨J.tab, fun fy H19 e19 t19 _ lam5 => ⟨fy, _, rfl, lam5, ?_⟩⟩
          have J := J.lam e19 t19
          have stK := stK.lam e19
          have K4 : KAt CK k2 dk2 a r2 n2 s2 ps1 N1 H19 := stK.1 (oWalk CK k2 dk2 a r2 n2 s2 ps1 N1) (by simp)
          refine w_word ?_
          tm_at "r"
          refine w_meOk K4.ob (by kernel_rfl) ?_
          tm_at "r"
          refine ⟨a, dx, t, _, k2, dk2, r2, n2, s2, ps1, M1', N1, rfl, J.W, K4, okM, kpw, ⟨by rw [hrest]; show 0 ≤ 8900; decide, by omega, by omega⟩, fun _ H20 e20 => ?_, fun h => absurd h (by rw [over1]; decide)⟩
          refine wordO _ _ fun H21 e21 => ?_
          have J := J.ext (e20.trans e21)
          tm_at "r"
          intro l4 H22 _ e22 hl4
          have J := J.ext e22
          tm_at "r"
          intro l5 H23 _ e23 hl5
          have J := J.ext e23
          have hd1 : Dp K H23 (.ref l4) (.list [.str "over", .str "over"]) := .lst (SqL.of (e23.st _ _ hl4 (nsh_of fun a i m z e => by cases e))) (.cons (.str _) (.cons (.str _) .nil))
          have hd2 : Dp K H23 (.ref l5) (.list [.str "over", .str "over"]) := .lst (SqL.of hl5) (.cons (.str _) (.cons (.str _) .nil))
          refine w_eqDb (b := true) hd1 hd2 (by decide +kernel) (by decide +kernel) (by decide +kernel) ?_
          tm_at "r"
          exact q _ _ J.m
end
end My
end

section
set_option pp.maxSteps 700
open PySem L2 Lw
local macro_rules | `(tactic| tm_at "s") => `(tactic| first
  | with_reducible refine w_seq ?_ | with_reducible refine w_asg ?_ | with_reducible refine w_gname ?_ | with_reducible refine w_ret ?_ | with_reducible refine w_drop ?_ | with_reducible refine w_ifS ?_ | with_reducible refine w_next ?_ | with_reducible refine w_retN ?_
  | with_reducible refine w_c ?_ | ((with_reducible refine w_var (v := ?vv) ?hh ?kk); (case hh => exact rfl)) | with_reducible refine w_op ?_ | with_reducible refine w_un ?_ | with_reducible refine w_cons ?_ | with_reducible refine w_nil ?_ | with_reducible refine w_test ?_ | with_reducible refine w_B ?_
  | with_reducible refine w_isbl ?_ | with_reducible refine w_not ?_ | with_reducible refine w_and ?_ | with_reducible refine w_or ?_ | with_reducible refine w_andV ?_ | with_reducible refine w_orV ?_ | with_reducible refine w_notV ?_ | with_reducible refine w_if ?_ | with_reducible refine w_chain ?_
  | with_reducible refine w_isN ?_ | with_reducible refine w_notN ?_ | with_reducible refine w_yes ?_ | with_reducible refine w_call ?_ | with_reducible refine w_CB ?_ | with_reducible refine w_tup ?_ | with_reducible refine w_lst ?_ | with_reducible refine w_sl ?_ | with_reducible refine w_noPart ?_
  | with_reducible refine w_part ?_ | with_reducible refine w_isint ?_ | with_reducible refine w_gSub ?_ | with_reducible refine w_break ?_ | with_reducible refine w_cont ?_
  | with_reducible refine w_I0 ?_ | with_reducible refine w_eqI ?_ | with_reducible refine w_neI ?_ | with_reducible refine w_eqS ?_ | with_reducible refine w_neS ?_ | with_reducible refine w_eqB ?_ | with_reducible refine w_neB ?_ | ((with_reducible refine w_isi (d := ?dd) ?hh ?kk); (case hh => assumption))
  | with_reducible refine w_sg ?_ | with_reducible refine w_notSg ?_ | with_reducible refine w_starts ?_ | with_reducible refine w_max2 ?_ | with_reducible refine w_min2 ?_ | with_reducible refine w_intB ?_ | with_reducible refine w_intI ?_ | with_reducible refine w_bm ?_ | with_reducible refine w_bm0 ?_ | with_reducible refine w_m1 ?_ | with_reducible refine w_m0 ?_ | with_reducible refine w_isstr ?_
  | with_reducible refine w_for ?_ | with_reducible refine w_lc ?_ | with_reducible refine w_rng ?_ | with_reducible refine w_rng2 ?_ | with_reducible refine w_ilist ?_ | with_reducible refine w_itup ?_ | with_reducible refine w_istr ?_ | with_reducible refine w_strOk ?_
  | ((with_reducible refine w_rngOk ?hh ?h2 ?kk); (case hh => omega); (case h2 => omega)) | ((with_reducible refine w_lstOk (xs := ?xx) ?hh ?kk); (case hh => assumption))
  | ((with_reducible refine w_alL ?hh ?kk); (case hh => exact Nat.le_of_ble_eq_true rfl)) | ((with_reducible refine w_alT ?hh ?kk); (case hh => exact Nat.le_of_ble_eq_true rfl))
  | ((with_reducible refine w_lenL (xs := ?xx) ?hh ?kk); (case hh => assumption)) | ((with_reducible refine w_lenT (xs := ?xx) ?hh ?kk); (case hh => assumption))
  | ((with_reducible refine w_I ?hh ?kk); (case hh => first | (show _ ≠ (0 : Int); omega) | (show (0 : Int) < _; omega) | exact ⟨by omega, by omega⟩ | exact .inl ⟨by omega, by omega⟩ | exact .inr ⟨by omega, by omega⟩ | exact ⟨by decide, by decide, by decide⟩))
  | with_reducible refine w_din ?_ | with_reducible refine w_dnot ?_ | with_reducible refine w_dget ?_ | with_reducible refine w_dput ?_ | with_reducible refine w_fld ?_ | with_reducible refine w_sto ?_ | with_reducible refine w_meth ?_ | with_reducible refine w_pop1 ?_ | with_reducible refine w_pop2 ?_ | with_reducible refine w_ikeys ?_
  | ((with_reducible refine f_width (CW := ?v1) (dx := ?v2) (t := ?v3) (l := ?v4) (w := ?v5) (told := ?v6) (many := ?v7) ?tw ?hh ?kk); (case tw => assumption); (case hh => assumption))
  | ((with_reducible refine f_things (CW := ?v1) (dx := ?v2) (t := ?v3) (l := ?v4) (w := ?v5) (told := ?v6) (many := ?v7) ?tw ?hh ?kk); (case tw => assumption); (case hh => assumption))
  | ((with_reducible refine f_listening (CW := ?v1) (dx := ?v2) (t := ?v3) (l := ?v4) (w := ?v5) (told := ?v6) (many := ?v7) ?tw ?hh ?kk); (case tw => assumption); (case hh => assumption))
  | ((with_reducible refine f_tolds (CW := ?v1) (dx := ?v2) (t := ?v3) (l := ?v4) (w := ?v5) (b := ?v6) (many := ?v7) ?tw ?hh ?kk); (case tw => assumption); (case hh => assumption))
  | ((with_reducible refine f_told (CW := ?v1) (dx := ?v2) (t := ?v3) (l := ?v4) (w := ?v5) (told := ?v6) (many := ?v7) ?tw ?hh ?kk); (case tw => assumption); (case hh => assumption))
  | ((with_reducible refine f_many (CW := ?v1) (dx := ?v2) (t := ?v3) (l := ?v4) (w := ?v5) (told := ?v6) (many := ?v7) ?tw ?hh ?kk); (case tw => assumption); (case hh => assumption))
  | ((with_reducible refine w_ixL (v := ?vv) (xs := ?xx) ?hh ?h2 ?kk); (case hh => assumption); (case h2 => exact rfl)) | ((with_reducible refine w_ixT (v := ?vv) (xs := ?xx) ?hh ?h2 ?kk); (case hh => assumption); (case h2 => exact rfl)))
local macro_rules | `(tactic| tm_at "r") => `(tactic| repeat tm_at "s")
local macro_rules | `(tactic| tm_at "b") => `(tactic| first | refine w_iteT (by with_reducible rfl) ?_ | refine w_iteF (by with_reducible rfl) ?_ | refine w_iteT (by rfl) ?_ | refine w_iteF (by rfl) ?_)
local macro_rules | `(tactic| tm_at "e") => `(tactic| repeat (first | tm_at "s" | tm_at "b"))
local macro_rules | `(tactic| tm_at "s") => `(tactic| first
  | with_reducible refine w_gcons ?_ | with_reducible refine w_gnil ?_
  | ((with_reducible refine g_wire (CK := ?v1) (dx := ?v2) (a := ?v3) (c := ?v4) (r := ?v5) (said := ?v6) (n := ?v7) (s := ?v8) ?tw ?hh ?kk); (case tw => assumption); (case hh => assumption))
  | ((with_reducible refine g_kind (CK := ?v1) (dx := ?v2) (a := ?v3) (c := ?v4) (r := ?v5) (said := ?v6) (n := ?v7) (s := ?v8) ?tw ?hh ?kk); (case tw => assumption); (case hh => assumption))
  | ((with_reducible refine g_rest (CK := ?v1) (dx := ?v2) (a := ?v3) (c := ?v4) (r := ?v5) (said := ?v6) (n := ?v7) (s := ?v8) ?tw ?hh ?kk); (case tw => assumption); (case hh => assumption))
  | ((with_reducible refine g_saids (CK := ?v1) (dx := ?v2) (a := ?v3) (c := ?v4) (r := ?v5) (b := ?v6) (n := ?v7) (s := ?v8) ?tw ?hh ?kk); (case tw => assumption); (case hh => assumption))
  | ((with_reducible refine g_said (CK := ?v1) (dx := ?v2) (a := ?v3) (c := ?v4) (r := ?v5) (said := ?v6) (n := ?v7) (s := ?v8) ?tw ?hh ?kk); (case tw => assumption); (case hh => assumption))
  | ((with_reducible refine g_names (CK := ?v1) (dx := ?v2) (a := ?v3) (c := ?v4) (r := ?v5) (said := ?v6) (n := ?v7) (s := ?v8) ?tw ?hh ?kk); (case tw => assumption); (case hh => assumption))
  | ((with_reducible refine g_seen (CK := ?v1) (dx := ?v2) (a := ?v3) (c := ?v4) (r := ?v5) (said := ?v6) (n := ?v7) (s := ?v8) ?tw ?hh ?kk); (case tw => assumption); (case hh => assumption)))
local macro_rules | `(tactic| tm_at "s") => `(tactic| first
  | with_reducible refine w_pcons ?_ | with_reducible refine w_pnil ?_
  | ((with_reducible refine m_width (w := ?v1) (t := ?v2) (l := ?v3) (told := ?v4) (many := ?v5) ?hh ?kk); (case hh => assumption))
  | ((with_reducible refine m_things (w := ?v1) (t := ?v2) (l := ?v3) (told := ?v4) (many := ?v5) ?hh ?kk); (case hh => assumption))
  | ((with_reducible refine m_lis (w := ?v1) (t := ?v2) (l := ?v3) (told := ?v4) (many := ?v5) ?hh ?kk); (case hh => assumption))
  | ((with_reducible refine m_saids (w := ?v1) (t := ?v2) (l := ?v3) (b := ?v4) (many := ?v5) ?hh ?kk); (case hh => assumption))
  | ((with_reducible refine m_said (w := ?v1) (t := ?v2) (l := ?v3) (told := ?v4) (many := ?v5) ?hh ?kk); (case hh => assumption))
  | ((with_reducible refine m_looks (w := ?v1) (t := ?v2) (l := ?v3) (told := ?v4) (many := ?v5) ?hh ?kk); (case hh => assumption))
  | ((with_reducible refine j_kind (c := ?v1) (r := ?v2) (said := ?v3) (n := ?v4) (s := ?v5) ?hh ?kk); (case hh => assumption))
  | ((with_reducible refine j_rest (c := ?v1) (r := ?v2) (said := ?v3) (n := ?v4) (s := ?v5) ?hh ?kk); (case hh => assumption))
  | ((with_reducible refine j_saids (c := ?v1) (r := ?v2) (b := ?v3) (n := ?v4) (s := ?v5) ?hh ?kk); (case hh => assumption))
  | ((with_reducible refine j_said (c := ?v1) (r := ?v2) (said := ?v3) (n := ?v4) (s := ?v5) ?hh ?kk); (case hh => assumption))
  | ((with_reducible refine j_found (c := ?v1) (r := ?v2) (said := ?v3) (n := ?v4) (s := ?v5) ?hh ?kk); (case hh => assumption))
  | ((with_reducible refine j_paper (c := ?v1) (r := ?v2) (said := ?v3) (n := ?v4) (s := ?v5) ?hh ?kk); (case hh => assumption)))
namespace My
abbrev s_law_made : Stmt := top 90
theorem sc_law_made : FnScope ["_law_width_here", "_law_numbers", "_law_wire", "_law_number_here"] ["_law_width_here", "_law_numbers"] (defScope s_law_made) := ⟨rfl, rfl, rfl, by decide +kernel, rfl, by decide +kernel, by decide +kernel⟩
def newW (n : Nat) (ls : List Bits) : WM := ⟨n, ls.map fun x => (x, false), [], none, 0⟩
theorem newW_keys (n : Nat) (ls : List Bits) : (newW n ls).keys = ls := by simp [newW, WM.keys, Function.comp_def]
theorem newW_ok {n : Nat} {ls : List Bits} (h1 : 1 ≤ n) (h2 : n ≤ 12) (nd : ls.Nodup) (hl : ∀ x ∈ ls, x.length = n) (hz : ls.length ≤ 40) : WOk (newW n ls) := ⟨h1, h2, by rw [show (newW n ls).things.map (·.1) = ls from newW_keys n ls]; exact nd, fun x hx => hl x (by rw [← newW_keys n ls]; exact hx), by show (ls.map _).length ≤ 60; rw [List.length_map]; omega, List.Pairwise.nil, fun x hx => absurd hx (by simp [newW]), Nat.zero_le _, fun b hb => (by cases hb), fun _ => rfl⟩
def sp_made (K : PySem.W.Frag) (CW : Addr) : Sp := fun vs H Q _ => ∃ (n : Nat) (p : Addr) (ls : List Bits), vs = [.int (n : Int), .ref p] ∧ 1 ≤ n ∧ n ≤ 12 ∧ SqL K H p (bvs ls) ∧ ls.Nodup ∧ (∀ x ∈ ls, x.length = n) ∧ ls.length ≤ 40 ∧
  ∀ (a dx t l : Addr) (H' : Hp), (∀ b ∈ [a, t, l], H b = none) → Ext H H' → WAt CW a dx t l (newW n ls) H' → Q (.ref a) H'
section
variable {P : Program} {w : World} {K : PySem.W.Frag} {mg : Str → Option Value} {base : Heap} {CW : Addr}
theorem ok_made {f cN cB cT : Addr} {fd : FuncData} (F : Fun K "_law_made" "_law_made" s_law_made f fd) (T : TxB mg) (TW : ClW K CW) (C_Wire : CalC P w K mg base 2 CW "Wire" ["self", "width"] (sp_winit CW cN)) (C_Wire_hang : CalM P w K mg base 4 CW "hang" ["self", "number"] (sp_hang K CW cB cT)) :
    FnOk P w K mg base (L2.CX P w) 5 f fd ["_law_width_here", "_law_numbers"] (sp_made K CW) := by
  have cl_Wire := TW.cl
  refine F.okX sc_law_made (fun vs H Q E h => ?_) (fun cdv A outer s H vs Q E hr h => ⟨_, (pss_cons (ps_set (i := 2) sc_law_made.nd rfl (by first | exact Or.inl rfl | exact Or.inr rfl) (pe_mk C_Wire (hr.mono (by first | decide | omega)) passL (pa_cons (pv 0) pa_nil)))
 (pss_cons (ps_for (passes_of rfl) rfl (piL (K := K) rfl (pv 1)) (pg_name (i := 3) sc_law_made.nd rfl (by first | exact Or.inl rfl | exact Or.inr rfl))
 (pss_one (ps_expr (pe_me (E := E0) (pv 2) cl_Wire C_Wire_hang (hr.mono (by first | decide | omega)) passL (pa_cons (pv 3) pa_nil)))))
 (pss_one (ps_ret (pv 2))))), ?_⟩)
  · obtain ⟨n, p, ls, rfl, _⟩ := h
    rfl
  · obtain ⟨n, p, ls, rfl, hn1, hn2, hp, hnd, hlen, hl40, q⟩ := h
    tm_at "r"
    refine w_make ?_
    tm_at "r"
    intro a dx ha hdx hne2
    have ex := ext_make (C := CW) ha hdx hne2
    have a6 : upd (upd H dx (.own a)) a (.ins CW dx []) a = some (.ins CW dx []) := upd_same
    have nn : ∀ b, upd (upd H dx (.own a)) a (.ins CW dx []) b = none → H b = none := fun b hb => make_none hb
    generalize upd (upd H dx (.own a)) a (.ins CW dx []) = H6 at ex a6 nn ⊢
    refine ⟨a, dx, (n : Int), rfl, a6, fun h => absurd ⟨by omega, by omega⟩ h, fun n' t l H7 hn' _ _ W7 m7 => ⟨rfl, ?_⟩⟩
    obtain rfl : n' = n := by omega
    clear hn'
    have e7 := ext_fresh ha ex m7
    have fr : ∀ b ∈ [a, t, l], H b = none := fun b hb => by
      rcases m7.nw b hb with h | h
      · rw [List.mem_singleton.mp h]
        exact ha
      · exact nn b h
    clear m7 nn a6 ex hdx hne2
    tm_at "r"
    refine w_lstOk (e7.seq (nsh_bvs _) hp) ?_
    refine forL (fun i σ H2 => ∃ v3 : Option V, σ = [some (.int (n' : Int)), some (.ref p), some (.ref a), v3] ∧ Ext H H2 ∧ WAt CW a dx t l (newW n' (ls.take i)) H2) (fun i σ H2 ⟨_, _, e, _⟩ => e.seq (nsh_bvs _) hp) ⟨_, rfl, e7, W7⟩ ?_ ?_
    · clear e7 W7
      rintro i x σ H2 NN hi ⟨v3, rfl, e2, W2⟩ kN
      obtain ⟨u, hu, rfl⟩ := bvs_get hi
      have hul := hlen u (List.mem_of_getElem? hu)
      have etk : ls.take (i + 1) = ls.take i ++ [u] := by
        rw [List.take_succ, hu]
        rfl
      have ok2 : WOk (newW n' (ls.take i)) := newW_ok hn1 hn2 (hnd.sublist (List.take_sublist _ _)) (fun x hx => hlen x ((List.take_sublist _ _).subset hx)) (Nat.le_trans (List.take_sublist i ls).length_le hl40)
      have hnk : u ∉ (newW n' (ls.take i)).keys := fun h => by
        rw [newW_keys] at h
        have : (ls.take (i + 1)).Nodup := hnd.sublist (List.take_sublist _ _)
        rw [etk] at this
        exact (List.nodup_append.mp this).2.2 u h u (by simp) rfl
      have okd : OkD (.str (B u)) := okD_bits (by rw [hul]; omega)
      have nmd : numD (newW n' (ls.take i)).width (.str (B u)) = true := by rw [numD_bits]; exact decide_eq_true (by rw [hul]; rfl)
      tm_at "r"
      refine w_meOk W2.ob (by kernel_rfl) ?_
      tm_at "r"
      refine ⟨a, dx, t, l, newW n' (ls.take i), .str (B u), .str (B u), rfl, W2, ok2, ?_, .str _, okd, fun h => (by rw [nmd] at h; cases h), fun y hy _ hk2 => ?_, fun y H11 hy _ _ W1 m1 => ?_⟩
      · show ((ls.take i).map _).length < 60
        rw [List.length_map]
        have := (List.take_sublist i ls).length_le
        omega
      · cases B_inj (PyData.str.inj hy)
        exact absurd hk2 hnk
      · cases B_inj (PyData.str.inj hy)
        refine kN _ _ ⟨_, rfl, ext_news fr e2 m1, ?_⟩
        have e : (newW n' (ls.take i)).hang u = newW n' (ls.take (i + 1)) := by
          rw [etk]
          simp [newW, WM.hang]
        rw [← e]
        exact W1
    · rintro σ H2 ⟨v3, rfl, e2, W2⟩
      rw [bvs_len, List.take_length] at W2
      tm_at "r"
      exact q a dx t l H2 fr e2 W2
end
end My
end

section
open PySem L2 Lw
local macro_rules | `(tactic| tm_at "s") => `(tactic| first
  | with_reducible refine w_seq ?_ | with_reducible refine w_asg ?_ | with_reducible refine w_gname ?_ | with_reducible refine w_ret ?_ | with_reducible refine w_drop ?_ | with_reducible refine w_ifS ?_ | with_reducible refine w_next ?_ | with_reducible refine w_retN ?_
  | with_reducible refine w_c ?_ | ((with_reducible refine w_var (v := ?vv) ?hh ?kk); (case hh => exact rfl)) | with_reducible refine w_op ?_ | with_reducible refine w_un ?_ | with_reducible refine w_cons ?_ | with_reducible refine w_nil ?_ | with_reducible refine w_test ?_ | with_reducible refine w_B ?_
  | with_reducible refine w_isbl ?_ | with_reducible refine w_not ?_ | with_reducible refine w_and ?_ | with_reducible refine w_or ?_ | with_reducible refine w_andV ?_ | with_reducible refine w_orV ?_ | with_reducible refine w_notV ?_ | with_reducible refine w_if ?_ | with_reducible refine w_chain ?_
  | with_reducible refine w_isN ?_ | with_reducible refine w_notN ?_ | with_reducible refine w_yes ?_ | with_reducible refine w_call ?_ | with_reducible refine w_CB ?_ | with_reducible refine w_tup ?_ | with_reducible refine w_lst ?_ | with_reducible refine w_sl ?_ | with_reducible refine w_noPart ?_
  | with_reducible refine w_part ?_ | with_reducible refine w_isint ?_ | with_reducible refine w_gSub ?_ | with_reducible refine w_break ?_ | with_reducible refine w_cont ?_
  | with_reducible refine w_I0 ?_ | with_reducible refine w_eqI ?_ | with_reducible refine w_neI ?_ | with_reducible refine w_eqS ?_ | with_reducible refine w_neS ?_ | with_reducible refine w_eqB ?_ | with_reducible refine w_neB ?_ | ((with_reducible refine w_isi (d := ?dd) ?hh ?kk); (case hh => assumption))
  | with_reducible refine w_sg ?_ | with_reducible refine w_notSg ?_ | with_reducible refine w_starts ?_ | with_reducible refine w_max2 ?_ | with_reducible refine w_min2 ?_ | with_reducible refine w_intB ?_ | with_reducible refine w_intI ?_ | with_reducible refine w_bm ?_ | with_reducible refine w_bm0 ?_ | with_reducible refine w_m1 ?_ | with_reducible refine w_m0 ?_ | with_reducible refine w_isstr ?_
  | with_reducible refine w_for ?_ | with_reducible refine w_lc ?_ | with_reducible refine w_rng ?_ | with_reducible refine w_rng2 ?_ | with_reducible refine w_ilist ?_ | with_reducible refine w_itup ?_ | with_reducible refine w_istr ?_ | with_reducible refine w_strOk ?_
  | ((with_reducible refine w_rngOk ?hh ?h2 ?kk); (case hh => omega); (case h2 => omega)) | ((with_reducible refine w_lstOk (xs := ?xx) ?hh ?kk); (case hh => assumption))
  | ((with_reducible refine w_alL ?hh ?kk); (case hh => exact Nat.le_of_ble_eq_true rfl)) | ((with_reducible refine w_alT ?hh ?kk); (case hh => exact Nat.le_of_ble_eq_true rfl))
  | ((with_reducible refine w_lenL (xs := ?xx) ?hh ?kk); (case hh => assumption)) | ((with_reducible refine w_lenT (xs := ?xx) ?hh ?kk); (case hh => assumption))
  | ((with_reducible refine w_I ?hh ?kk); (case hh => first | (show _ ≠ (0 : Int); omega) | (show (0 : Int) < _; omega) | exact ⟨by omega, by omega⟩ | exact .inl ⟨by omega, by omega⟩ | exact .inr ⟨by omega, by omega⟩ | exact ⟨by decide, by decide, by decide⟩))
  | with_reducible refine w_din ?_ | with_reducible refine w_dnot ?_ | with_reducible refine w_dget ?_ | with_reducible refine w_dput ?_ | with_reducible refine w_fld ?_ | with_reducible refine w_sto ?_ | with_reducible refine w_meth ?_ | with_reducible refine w_pop1 ?_ | with_reducible refine w_pop2 ?_ | with_reducible refine w_ikeys ?_
  | ((with_reducible refine f_width (CW := ?v1) (dx := ?v2) (t := ?v3) (l := ?v4) (w := ?v5) (told := ?v6) (many := ?v7) ?tw ?hh ?kk); (case tw => assumption); (case hh => assumption))
  | ((with_reducible refine f_things (CW := ?v1) (dx := ?v2) (t := ?v3) (l := ?v4) (w := ?v5) (told := ?v6) (many := ?v7) ?tw ?hh ?kk); (case tw => assumption); (case hh => assumption))
  | ((with_reducible refine f_listening (CW := ?v1) (dx := ?v2) (t := ?v3) (l := ?v4) (w := ?v5) (told := ?v6) (many := ?v7) ?tw ?hh ?kk); (case tw => assumption); (case hh => assumption))
  | ((with_reducible refine f_tolds (CW := ?v1) (dx := ?v2) (t := ?v3) (l := ?v4) (w := ?v5) (b := ?v6) (many := ?v7) ?tw ?hh ?kk); (case tw => assumption); (case hh => assumption))
  | ((with_reducible refine f_told (CW := ?v1) (dx := ?v2) (t := ?v3) (l := ?v4) (w := ?v5) (told := ?v6) (many := ?v7) ?tw ?hh ?kk); (case tw => assumption); (case hh => assumption))
  | ((with_reducible refine f_many (CW := ?v1) (dx := ?v2) (t := ?v3) (l := ?v4) (w := ?v5) (told := ?v6) (many := ?v7) ?tw ?hh ?kk); (case tw => assumption); (case hh => assumption))
  | ((with_reducible refine w_ixL (v := ?vv) (xs := ?xx) ?hh ?h2 ?kk); (case hh => assumption); (case h2 => exact rfl)) | ((with_reducible refine w_ixT (v := ?vv) (xs := ?xx) ?hh ?h2 ?kk); (case hh => assumption); (case h2 => exact rfl)))
local macro_rules | `(tactic| tm_at "r") => `(tactic| repeat tm_at "s")
local macro_rules | `(tactic| tm_at "b") => `(tactic| first | refine w_iteT (by with_reducible rfl) ?_ | refine w_iteF (by with_reducible rfl) ?_ | refine w_iteT (by rfl) ?_ | refine w_iteF (by rfl) ?_)
local macro_rules | `(tactic| tm_at "e") => `(tactic| repeat (first | tm_at "s" | tm_at "b"))
local macro_rules | `(tactic| tm_at "s") => `(tactic| first
  | with_reducible refine w_gcons ?_ | with_reducible refine w_gnil ?_
  | ((with_reducible refine g_wire (CK := ?v1) (dx := ?v2) (a := ?v3) (c := ?v4) (r := ?v5) (said := ?v6) (n := ?v7) (s := ?v8) ?tw ?hh ?kk); (case tw => assumption); (case hh => assumption))
  | ((with_reducible refine g_kind (CK := ?v1) (dx := ?v2) (a := ?v3) (c := ?v4) (r := ?v5) (said := ?v6) (n := ?v7) (s := ?v8) ?tw ?hh ?kk); (case tw => assumption); (case hh => assumption))
  | ((with_reducible refine g_rest (CK := ?v1) (dx := ?v2) (a := ?v3) (c := ?v4) (r := ?v5) (said := ?v6) (n := ?v7) (s := ?v8) ?tw ?hh ?kk); (case tw => assumption); (case hh => assumption))
  | ((with_reducible refine g_saids (CK := ?v1) (dx := ?v2) (a := ?v3) (c := ?v4) (r := ?v5) (b := ?v6) (n := ?v7) (s := ?v8) ?tw ?hh ?kk); (case tw => assumption); (case hh => assumption))
  | ((with_reducible refine g_said (CK := ?v1) (dx := ?v2) (a := ?v3) (c := ?v4) (r := ?v5) (said := ?v6) (n := ?v7) (s := ?v8) ?tw ?hh ?kk); (case tw => assumption); (case hh => assumption))
  | ((with_reducible refine g_names (CK := ?v1) (dx := ?v2) (a := ?v3) (c := ?v4) (r := ?v5) (said := ?v6) (n := ?v7) (s := ?v8) ?tw ?hh ?kk); (case tw => assumption); (case hh => assumption))
  | ((with_reducible refine g_seen (CK := ?v1) (dx := ?v2) (a := ?v3) (c := ?v4) (r := ?v5) (said := ?v6) (n := ?v7) (s := ?v8) ?tw ?hh ?kk); (case tw => assumption); (case hh => assumption)))
local macro_rules | `(tactic| tm_at "s") => `(tactic| first
  | with_reducible refine w_pcons ?_ | with_reducible refine w_pnil ?_
  | ((with_reducible refine m_width (w := ?v1) (t := ?v2) (l := ?v3) (told := ?v4) (many := ?v5) ?hh ?kk); (case hh => assumption))
  | ((with_reducible refine m_things (w := ?v1) (t := ?v2) (l := ?v3) (told := ?v4) (many := ?v5) ?hh ?kk); (case hh => assumption))
  | ((with_reducible refine m_lis (w := ?v1) (t := ?v2) (l := ?v3) (told := ?v4) (many := ?v5) ?hh ?kk); (case hh => assumption))
  | ((with_reducible refine m_saids (w := ?v1) (t := ?v2) (l := ?v3) (b := ?v4) (many := ?v5) ?hh ?kk); (case hh => assumption))
  | ((with_reducible refine m_said (w := ?v1) (t := ?v2) (l := ?v3) (told := ?v4) (many := ?v5) ?hh ?kk); (case hh => assumption))
  | ((with_reducible refine m_looks (w := ?v1) (t := ?v2) (l := ?v3) (told := ?v4) (many := ?v5) ?hh ?kk); (case hh => assumption))
  | ((with_reducible refine j_kind (c := ?v1) (r := ?v2) (said := ?v3) (n := ?v4) (s := ?v5) ?hh ?kk); (case hh => assumption))
  | ((with_reducible refine j_rest (c := ?v1) (r := ?v2) (said := ?v3) (n := ?v4) (s := ?v5) ?hh ?kk); (case hh => assumption))
  | ((with_reducible refine j_saids (c := ?v1) (r := ?v2) (b := ?v3) (n := ?v4) (s := ?v5) ?hh ?kk); (case hh => assumption))
  | ((with_reducible refine j_said (c := ?v1) (r := ?v2) (said := ?v3) (n := ?v4) (s := ?v5) ?hh ?kk); (case hh => assumption))
  | ((with_reducible refine j_found (c := ?v1) (r := ?v2) (said := ?v3) (n := ?v4) (s := ?v5) ?hh ?kk); (case hh => assumption))
  | ((with_reducible refine j_paper (c := ?v1) (r := ?v2) (said := ?v3) (n := ?v4) (s := ?v5) ?hh ?kk); (case hh => assumption)))
namespace My
section
variable (K : PySem.W.Frag)
def sp_looked : Sp := fun vs H Q _ => ∃ (p : Addr) (ls : List Bits) (b : Bits), vs = [.ref p, .str (B b)] ∧ SqL K H p (bvs ls) ∧ ls.length ≤ 1000 ∧ (∀ l ∈ ls, b.length < l.length ∧ l.length ≤ 1000) ∧
  ∀ (q : Addr) (H' : Hp), H q = none → Ext H H' → H' q = some (.tup [.bl (lookZ ls b false), .bl (lookZ ls b true)]) → Q (.ref q) H'
def sp_model : Sp := fun vs H Q _ => ∃ n : Nat, vs = [.int (n : Int)] ∧ ∀ (d t l : Addr) (H' : Hp), H d = none → H t = none → H l = none → Ext H H' → MAt d t l ⟨n, [], [], none, 0⟩ H' → Q (.ref d) H'
def sp_begun : Sp := fun vs H Q _ => ∃ (d t l : Addr) (M : WM) (c : Bool), vs = [.ref d, .str (kindS c)] ∧ MAt d t l M H ∧ WOk M ∧ ∀ (l' : Addr) (H' : Hp), MAt d t l' (M.begin c) H' → Step [d, t, l] [d, t, l'] H H' → Q .non H'
def sp_said : Sp := fun vs H Q _ => ∃ (d t l : Addr) (M : WM) (b : Bits) (c : Bool), vs = [.ref d, .int (bi c)] ∧ MAt d t l M H ∧ WOk M ∧ M.told = some b ∧ b.length < M.width ∧ ∀ (l' : Addr) (H' : Hp), MAt d t l' (M.say b c) H' → Step [d, t, l] [d, t, l'] H H' → Q .non H'
def sp_deed : Sp := fun vs H Q _ => ∃ (d t l : Addr) (M : WM) (wd : Str) (x : Bits), vs = [.ref d, .str wd, .str (B x)] ∧ MAt d t l M H ∧ WOk M ∧ M.things.length < 60 ∧ ∀ (l' : Addr) (H' : Hp), MAt d t l' (deedM M wd x).1 H' → Step [d, t, l] [d, t, l'] H H' → Q (.str (deedM M wd x).2) H'
end
section
variable {P : Program} {w : World} {K : PySem.W.Frag} {mg : Str → Option Value} {base : Heap}
end
end My
end

section
open PySem L2 Lw
local macro_rules | `(tactic| tm_at "s") => `(tactic| first
  | with_reducible refine w_seq ?_ | with_reducible refine w_asg ?_ | with_reducible refine w_gname ?_ | with_reducible refine w_ret ?_ | with_reducible refine w_drop ?_ | with_reducible refine w_ifS ?_ | with_reducible refine w_next ?_ | with_reducible refine w_retN ?_
  | with_reducible refine w_c ?_ | ((with_reducible refine w_var (v := ?vv) ?hh ?kk); (case hh => exact rfl)) | with_reducible refine w_op ?_ | with_reducible refine w_un ?_ | with_reducible refine w_cons ?_ | with_reducible refine w_nil ?_ | with_reducible refine w_test ?_ | with_reducible refine w_B ?_
  | with_reducible refine w_isbl ?_ | with_reducible refine w_not ?_ | with_reducible refine w_and ?_ | with_reducible refine w_or ?_ | with_reducible refine w_andV ?_ | with_reducible refine w_orV ?_ | with_reducible refine w_notV ?_ | with_reducible refine w_if ?_ | with_reducible refine w_chain ?_
  | with_reducible refine w_isN ?_ | with_reducible refine w_notN ?_ | with_reducible refine w_yes ?_ | with_reducible refine w_call ?_ | with_reducible refine w_CB ?_ | with_reducible refine w_tup ?_ | with_reducible refine w_lst ?_ | with_reducible refine w_sl ?_ | with_reducible refine w_noPart ?_
  | with_reducible refine w_part ?_ | with_reducible refine w_isint ?_ | with_reducible refine w_gSub ?_ | with_reducible refine w_break ?_ | with_reducible refine w_cont ?_
  | with_reducible refine w_I0 ?_ | with_reducible refine w_eqI ?_ | with_reducible refine w_neI ?_ | with_reducible refine w_eqS ?_ | with_reducible refine w_neS ?_ | with_reducible refine w_eqB ?_ | with_reducible refine w_neB ?_ | ((with_reducible refine w_isi (d := ?dd) ?hh ?kk); (case hh => assumption))
  | with_reducible refine w_sg ?_ | with_reducible refine w_notSg ?_ | with_reducible refine w_starts ?_ | with_reducible refine w_max2 ?_ | with_reducible refine w_min2 ?_ | with_reducible refine w_intB ?_ | with_reducible refine w_intI ?_ | with_reducible refine w_bm ?_ | with_reducible refine w_bm0 ?_ | with_reducible refine w_m1 ?_ | with_reducible refine w_m0 ?_ | with_reducible refine w_isstr ?_
  | with_reducible refine w_for ?_ | with_reducible refine w_lc ?_ | with_reducible refine w_rng ?_ | with_reducible refine w_rng2 ?_ | with_reducible refine w_ilist ?_ | with_reducible refine w_itup ?_ | with_reducible refine w_istr ?_ | with_reducible refine w_strOk ?_
  | ((with_reducible refine w_rngOk ?hh ?h2 ?kk); (case hh => omega); (case h2 => omega)) | ((with_reducible refine w_lstOk (xs := ?xx) ?hh ?kk); (case hh => assumption))
  | ((with_reducible refine w_alL ?hh ?kk); (case hh => exact Nat.le_of_ble_eq_true rfl)) | ((with_reducible refine w_alT ?hh ?kk); (case hh => exact Nat.le_of_ble_eq_true rfl))
  | ((with_reducible refine w_lenL (xs := ?xx) ?hh ?kk); (case hh => assumption)) | ((with_reducible refine w_lenT (xs := ?xx) ?hh ?kk); (case hh => assumption))
  | ((with_reducible refine w_I ?hh ?kk); (case hh => first | (show _ ≠ (0 : Int); omega) | (show (0 : Int) < _; omega) | exact ⟨by omega, by omega⟩ | exact .inl ⟨by omega, by omega⟩ | exact .inr ⟨by omega, by omega⟩ | exact ⟨by decide, by decide, by decide⟩))
  | with_reducible refine w_din ?_ | with_reducible refine w_dnot ?_ | with_reducible refine w_dget ?_ | with_reducible refine w_dput ?_ | with_reducible refine w_fld ?_ | with_reducible refine w_sto ?_ | with_reducible refine w_meth ?_ | with_reducible refine w_pop1 ?_ | with_reducible refine w_pop2 ?_ | with_reducible refine w_ikeys ?_
  | ((with_reducible refine f_width (CW := ?v1) (dx := ?v2) (t := ?v3) (l := ?v4) (w := ?v5) (told := ?v6) (many := ?v7) ?tw ?hh ?kk); (case tw => assumption); (case hh => assumption))
  | ((with_reducible refine f_things (CW := ?v1) (dx := ?v2) (t := ?v3) (l := ?v4) (w := ?v5) (told := ?v6) (many := ?v7) ?tw ?hh ?kk); (case tw => assumption); (case hh => assumption))
  | ((with_reducible refine f_listening (CW := ?v1) (dx := ?v2) (t := ?v3) (l := ?v4) (w := ?v5) (told := ?v6) (many := ?v7) ?tw ?hh ?kk); (case tw => assumption); (case hh => assumption))
  | ((with_reducible refine f_tolds (CW := ?v1) (dx := ?v2) (t := ?v3) (l := ?v4) (w := ?v5) (b := ?v6) (many := ?v7) ?tw ?hh ?kk); (case tw => assumption); (case hh => assumption))
  | ((with_reducible refine f_told (CW := ?v1) (dx := ?v2) (t := ?v3) (l := ?v4) (w := ?v5) (told := ?v6) (many := ?v7) ?tw ?hh ?kk); (case tw => assumption); (case hh => assumption))
  | ((with_reducible refine f_many (CW := ?v1) (dx := ?v2) (t := ?v3) (l := ?v4) (w := ?v5) (told := ?v6) (many := ?v7) ?tw ?hh ?kk); (case tw => assumption); (case hh => assumption))
  | ((with_reducible refine w_ixL (v := ?vv) (xs := ?xx) ?hh ?h2 ?kk); (case hh => assumption); (case h2 => exact rfl)) | ((with_reducible refine w_ixT (v := ?vv) (xs := ?xx) ?hh ?h2 ?kk); (case hh => assumption); (case h2 => exact rfl)))
local macro_rules | `(tactic| tm_at "r") => `(tactic| repeat tm_at "s")
local macro_rules | `(tactic| tm_at "b") => `(tactic| first | refine w_iteT (by with_reducible rfl) ?_ | refine w_iteF (by with_reducible rfl) ?_ | refine w_iteT (by rfl) ?_ | refine w_iteF (by rfl) ?_)
local macro_rules | `(tactic| tm_at "e") => `(tactic| repeat (first | tm_at "s" | tm_at "b"))
local macro_rules | `(tactic| tm_at "s") => `(tactic| first
  | with_reducible refine w_gcons ?_ | with_reducible refine w_gnil ?_
  | ((with_reducible refine g_wire (CK := ?v1) (dx := ?v2) (a := ?v3) (c := ?v4) (r := ?v5) (said := ?v6) (n := ?v7) (s := ?v8) ?tw ?hh ?kk); (case tw => assumption); (case hh => assumption))
  | ((with_reducible refine g_kind (CK := ?v1) (dx := ?v2) (a := ?v3) (c := ?v4) (r := ?v5) (said := ?v6) (n := ?v7) (s := ?v8) ?tw ?hh ?kk); (case tw => assumption); (case hh => assumption))
  | ((with_reducible refine g_rest (CK := ?v1) (dx := ?v2) (a := ?v3) (c := ?v4) (r := ?v5) (said := ?v6) (n := ?v7) (s := ?v8) ?tw ?hh ?kk); (case tw => assumption); (case hh => assumption))
  | ((with_reducible refine g_saids (CK := ?v1) (dx := ?v2) (a := ?v3) (c := ?v4) (r := ?v5) (b := ?v6) (n := ?v7) (s := ?v8) ?tw ?hh ?kk); (case tw => assumption); (case hh => assumption))
  | ((with_reducible refine g_said (CK := ?v1) (dx := ?v2) (a := ?v3) (c := ?v4) (r := ?v5) (said := ?v6) (n := ?v7) (s := ?v8) ?tw ?hh ?kk); (case tw => assumption); (case hh => assumption))
  | ((with_reducible refine g_names (CK := ?v1) (dx := ?v2) (a := ?v3) (c := ?v4) (r := ?v5) (said := ?v6) (n := ?v7) (s := ?v8) ?tw ?hh ?kk); (case tw => assumption); (case hh => assumption))
  | ((with_reducible refine g_seen (CK := ?v1) (dx := ?v2) (a := ?v3) (c := ?v4) (r := ?v5) (said := ?v6) (n := ?v7) (s := ?v8) ?tw ?hh ?kk); (case tw => assumption); (case hh => assumption)))
local macro_rules | `(tactic| tm_at "s") => `(tactic| first
  | with_reducible refine w_pcons ?_ | with_reducible refine w_pnil ?_
  | ((with_reducible refine m_width (w := ?v1) (t := ?v2) (l := ?v3) (told := ?v4) (many := ?v5) ?hh ?kk); (case hh => assumption))
  | ((with_reducible refine m_things (w := ?v1) (t := ?v2) (l := ?v3) (told := ?v4) (many := ?v5) ?hh ?kk); (case hh => assumption))
  | ((with_reducible refine m_lis (w := ?v1) (t := ?v2) (l := ?v3) (told := ?v4) (many := ?v5) ?hh ?kk); (case hh => assumption))
  | ((with_reducible refine m_saids (w := ?v1) (t := ?v2) (l := ?v3) (b := ?v4) (many := ?v5) ?hh ?kk); (case hh => assumption))
  | ((with_reducible refine m_said (w := ?v1) (t := ?v2) (l := ?v3) (told := ?v4) (many := ?v5) ?hh ?kk); (case hh => assumption))
  | ((with_reducible refine m_looks (w := ?v1) (t := ?v2) (l := ?v3) (told := ?v4) (many := ?v5) ?hh ?kk); (case hh => assumption))
  | ((with_reducible refine j_kind (c := ?v1) (r := ?v2) (said := ?v3) (n := ?v4) (s := ?v5) ?hh ?kk); (case hh => assumption))
  | ((with_reducible refine j_rest (c := ?v1) (r := ?v2) (said := ?v3) (n := ?v4) (s := ?v5) ?hh ?kk); (case hh => assumption))
  | ((with_reducible refine j_saids (c := ?v1) (r := ?v2) (b := ?v3) (n := ?v4) (s := ?v5) ?hh ?kk); (case hh => assumption))
  | ((with_reducible refine j_said (c := ?v1) (r := ?v2) (said := ?v3) (n := ?v4) (s := ?v5) ?hh ?kk); (case hh => assumption))
  | ((with_reducible refine j_found (c := ?v1) (r := ?v2) (said := ?v3) (n := ?v4) (s := ?v5) ?hh ?kk); (case hh => assumption))
  | ((with_reducible refine j_paper (c := ?v1) (r := ?v2) (said := ?v3) (n := ?v4) (s := ?v5) ?hh ?kk); (case hh => assumption)))
namespace My
section
variable (K : PySem.W.Frag)
def sp_path : Sp := fun vs H Q _ => ∃ c : Bool, vs = [.str (kindS c)] ∧ ∀ (d r n s : Addr) (H' : Hp), H d = none → H r = none → H n = none → H s = none → Ext H H' → JAt d r n s [] ⟨c, [[]], none, [], []⟩ H' → Q (.ref d) H'
def sp_over : Sp := fun vs H Q _ => ∃ (d dm t l r n s : Addr) (ps : List Addr) (M : WM) (N : KM) (b : Bits), vs = [.ref d, .ref dm] ∧ Sts H [oM dm t l M, oJ d r n s ps N] ∧ N.said = some b ∧ b.length ≤ 1000 ∧ N.Sz ∧
  ∀ (v : V) (H' : Hp), Sts H' [oM dm t l M, oJ d r n s ps (N.ended M.width b).1] → Dq K H' v (dres (N.ended M.width b).2) → Step ([d, r, n, s] ++ ps) ([d, r, n, s] ++ ps) H H' → Q v H'
def JOut (dm t l d r n s : Addr) (ps : List Addr) (H : Hp) (Q : VK) (M : WM) (N : KM) (e : Res) : Prop := ∀ (l' : Addr) (ps' : List Addr) (v : V) (H' : Hp), Sts H' [oM dm t l' M, oJ d r n s ps' N] → Dq K H' v (dres e) → Step ([dm, t, l] ++ ([d, r, n, s] ++ ps)) ([dm, t, l'] ++ ([d, r, n, s] ++ ps')) H H' → Q v H'
def sp_jstep : Sp := fun vs H Q _ => ∃ (d dm t l r n s : Addr) (ps : List Addr) (M : WM) (N : KM), vs = [.ref d, .ref dm] ∧ Sts H [oM dm t l M, oJ d r n s ps N] ∧ WOk M ∧ KP M N ∧ Szz N ∧ N.over = false ∧ JOut K dm t l d r n s ps H Q (kstep M N).1 (kstep M N).2.1 (kstep M N).2.2
def sp_jround : Sp := fun vs H Q _ => ∃ (d dm t l r n s : Addr) (ps : List Addr) (M : WM) (N : KM) (j : Nat) (M1 : WM) (N1 : KM) (e : Res), vs = [.ref d, .ref dm] ∧ Sts H [oM dm t l M, oJ d r n s ps N] ∧ WOk M ∧ KP M N ∧ SzB 8900 N ∧ N.over = false ∧ KRound j M N M1 N1 e ∧ j ≤ 13 ∧ JOut K dm t l d r n s ps H Q M1 N1 e
end
section
variable {P : Program} {w : World} {K : PySem.W.Frag} {mg : Str → Option Value} {base : Heap}
def RJ_ (K : PySem.W.Frag) (dm t l d r n s : Addr) (ps : List Addr) (H0 : Hp) (M' : WM) (N' : KM) (e' : Res) (m : Nat) (σ : St) (H : Hp) : Prop := ∃ (v : V) (M1 : WM) (N1 : KM) (e : Res) (l1 : Addr) (ps1 : List Addr), σ = [some (.ref d), some (.ref dm), some v] ∧ Sts H [oM dm t l1 M1, oJ d r n s ps1 N1] ∧ Dq K H v (dres e) ∧
  Step ([dm, t, l] ++ ([d, r, n, s] ++ ps)) ([dm, t, l1] ++ ([d, r, n, s] ++ ps1)) H0 H ∧ ((m = 0 ∧ e ≠ .none ∧ M1 = M' ∧ N1 = N' ∧ e = e') ∨ (e = .none ∧ KRound m M1 N1 M' N' e' ∧ WOk M1 ∧ KP M1 N1 ∧ N1.over = false ∧ SzB (8914 - m) N1 ∧ m ≤ 13))
end
end My
end

section
open PySem L2 Lw
local macro_rules | `(tactic| tm_at "s") => `(tactic| first
  | with_reducible refine w_seq ?_ | with_reducible refine w_asg ?_ | with_reducible refine w_gname ?_ | with_reducible refine w_ret ?_ | with_reducible refine w_drop ?_ | with_reducible refine w_ifS ?_ | with_reducible refine w_next ?_ | with_reducible refine w_retN ?_
  | with_reducible refine w_c ?_ | ((with_reducible refine w_var (v := ?vv) ?hh ?kk); (case hh => exact rfl)) | with_reducible refine w_op ?_ | with_reducible refine w_un ?_ | with_reducible refine w_cons ?_ | with_reducible refine w_nil ?_ | with_reducible refine w_test ?_ | with_reducible refine w_B ?_
  | with_reducible refine w_isbl ?_ | with_reducible refine w_not ?_ | with_reducible refine w_and ?_ | with_reducible refine w_or ?_ | with_reducible refine w_andV ?_ | with_reducible refine w_orV ?_ | with_reducible refine w_notV ?_ | with_reducible refine w_if ?_ | with_reducible refine w_chain ?_
  | with_reducible refine w_isN ?_ | with_reducible refine w_notN ?_ | with_reducible refine w_yes ?_ | with_reducible refine w_call ?_ | with_reducible refine w_CB ?_ | with_reducible refine w_tup ?_ | with_reducible refine w_lst ?_ | with_reducible refine w_sl ?_ | with_reducible refine w_noPart ?_
  | with_reducible refine w_part ?_ | with_reducible refine w_isint ?_ | with_reducible refine w_gSub ?_ | with_reducible refine w_break ?_ | with_reducible refine w_cont ?_
  | with_reducible refine w_I0 ?_ | with_reducible refine w_eqI ?_ | with_reducible refine w_neI ?_ | with_reducible refine w_eqS ?_ | with_reducible refine w_neS ?_ | with_reducible refine w_eqB ?_ | with_reducible refine w_neB ?_ | ((with_reducible refine w_isi (d := ?dd) ?hh ?kk); (case hh => assumption))
  | with_reducible refine w_sg ?_ | with_reducible refine w_notSg ?_ | with_reducible refine w_starts ?_ | with_reducible refine w_max2 ?_ | with_reducible refine w_min2 ?_ | with_reducible refine w_intB ?_ | with_reducible refine w_intI ?_ | with_reducible refine w_bm ?_ | with_reducible refine w_bm0 ?_ | with_reducible refine w_m1 ?_ | with_reducible refine w_m0 ?_ | with_reducible refine w_isstr ?_
  | with_reducible refine w_for ?_ | with_reducible refine w_lc ?_ | with_reducible refine w_rng ?_ | with_reducible refine w_rng2 ?_ | with_reducible refine w_ilist ?_ | with_reducible refine w_itup ?_ | with_reducible refine w_istr ?_ | with_reducible refine w_strOk ?_
  | ((with_reducible refine w_rngOk ?hh ?h2 ?kk); (case hh => omega); (case h2 => omega)) | ((with_reducible refine w_lstOk (xs := ?xx) ?hh ?kk); (case hh => assumption))
  | ((with_reducible refine w_alL ?hh ?kk); (case hh => exact Nat.le_of_ble_eq_true rfl)) | ((with_reducible refine w_alT ?hh ?kk); (case hh => exact Nat.le_of_ble_eq_true rfl))
  | ((with_reducible refine w_lenL (xs := ?xx) ?hh ?kk); (case hh => assumption)) | ((with_reducible refine w_lenT (xs := ?xx) ?hh ?kk); (case hh => assumption))
  | ((with_reducible refine w_I ?hh ?kk); (case hh => first | (show _ ≠ (0 : Int); omega) | (show (0 : Int) < _; omega) | exact ⟨by omega, by omega⟩ | exact .inl ⟨by omega, by omega⟩ | exact .inr ⟨by omega, by omega⟩ | exact ⟨by decide, by decide, by decide⟩))
  | with_reducible refine w_din ?_ | with_reducible refine w_dnot ?_ | with_reducible refine w_dget ?_ | with_reducible refine w_dput ?_ | with_reducible refine w_fld ?_ | with_reducible refine w_sto ?_ | with_reducible refine w_meth ?_ | with_reducible refine w_pop1 ?_ | with_reducible refine w_pop2 ?_ | with_reducible refine w_ikeys ?_
  | ((with_reducible refine f_width (CW := ?v1) (dx := ?v2) (t := ?v3) (l := ?v4) (w := ?v5) (told := ?v6) (many := ?v7) ?tw ?hh ?kk); (case tw => assumption); (case hh => assumption))
  | ((with_reducible refine f_things (CW := ?v1) (dx := ?v2) (t := ?v3) (l := ?v4) (w := ?v5) (told := ?v6) (many := ?v7) ?tw ?hh ?kk); (case tw => assumption); (case hh => assumption))
  | ((with_reducible refine f_listening (CW := ?v1) (dx := ?v2) (t := ?v3) (l := ?v4) (w := ?v5) (told := ?v6) (many := ?v7) ?tw ?hh ?kk); (case tw => assumption); (case hh => assumption))
  | ((with_reducible refine f_tolds (CW := ?v1) (dx := ?v2) (t := ?v3) (l := ?v4) (w := ?v5) (b := ?v6) (many := ?v7) ?tw ?hh ?kk); (case tw => assumption); (case hh => assumption))
  | ((with_reducible refine f_told (CW := ?v1) (dx := ?v2) (t := ?v3) (l := ?v4) (w := ?v5) (told := ?v6) (many := ?v7) ?tw ?hh ?kk); (case tw => assumption); (case hh => assumption))
  | ((with_reducible refine f_many (CW := ?v1) (dx := ?v2) (t := ?v3) (l := ?v4) (w := ?v5) (told := ?v6) (many := ?v7) ?tw ?hh ?kk); (case tw => assumption); (case hh => assumption))
  | ((with_reducible refine w_ixL (v := ?vv) (xs := ?xx) ?hh ?h2 ?kk); (case hh => assumption); (case h2 => exact rfl)) | ((with_reducible refine w_ixT (v := ?vv) (xs := ?xx) ?hh ?h2 ?kk); (case hh => assumption); (case h2 => exact rfl)))
local macro_rules | `(tactic| tm_at "r") => `(tactic| repeat tm_at "s")
local macro_rules | `(tactic| tm_at "b") => `(tactic| first | refine w_iteT (by with_reducible rfl) ?_ | refine w_iteF (by with_reducible rfl) ?_ | refine w_iteT (by rfl) ?_ | refine w_iteF (by rfl) ?_)
local macro_rules | `(tactic| tm_at "e") => `(tactic| repeat (first | tm_at "s" | tm_at "b"))
local macro_rules | `(tactic| tm_at "s") => `(tactic| first
  | with_reducible refine w_gcons ?_ | with_reducible refine w_gnil ?_
  | ((with_reducible refine g_wire (CK := ?v1) (dx := ?v2) (a := ?v3) (c := ?v4) (r := ?v5) (said := ?v6) (n := ?v7) (s := ?v8) ?tw ?hh ?kk); (case tw => assumption); (case hh => assumption))
  | ((with_reducible refine g_kind (CK := ?v1) (dx := ?v2) (a := ?v3) (c := ?v4) (r := ?v5) (said := ?v6) (n := ?v7) (s := ?v8) ?tw ?hh ?kk); (case tw => assumption); (case hh => assumption))
  | ((with_reducible refine g_rest (CK := ?v1) (dx := ?v2) (a := ?v3) (c := ?v4) (r := ?v5) (said := ?v6) (n := ?v7) (s := ?v8) ?tw ?hh ?kk); (case tw => assumption); (case hh => assumption))
  | ((with_reducible refine g_saids (CK := ?v1) (dx := ?v2) (a := ?v3) (c := ?v4) (r := ?v5) (b := ?v6) (n := ?v7) (s := ?v8) ?tw ?hh ?kk); (case tw => assumption); (case hh => assumption))
  | ((with_reducible refine g_said (CK := ?v1) (dx := ?v2) (a := ?v3) (c := ?v4) (r := ?v5) (said := ?v6) (n := ?v7) (s := ?v8) ?tw ?hh ?kk); (case tw => assumption); (case hh => assumption))
  | ((with_reducible refine g_names (CK := ?v1) (dx := ?v2) (a := ?v3) (c := ?v4) (r := ?v5) (said := ?v6) (n := ?v7) (s := ?v8) ?tw ?hh ?kk); (case tw => assumption); (case hh => assumption))
  | ((with_reducible refine g_seen (CK := ?v1) (dx := ?v2) (a := ?v3) (c := ?v4) (r := ?v5) (said := ?v6) (n := ?v7) (s := ?v8) ?tw ?hh ?kk); (case tw => assumption); (case hh => assumption)))
local macro_rules | `(tactic| tm_at "s") => `(tactic| first
  | with_reducible refine w_pcons ?_ | with_reducible refine w_pnil ?_
  | ((with_reducible refine m_width (w := ?v1) (t := ?v2) (l := ?v3) (told := ?v4) (many := ?v5) ?hh ?kk); (case hh => assumption))
  | ((with_reducible refine m_things (w := ?v1) (t := ?v2) (l := ?v3) (told := ?v4) (many := ?v5) ?hh ?kk); (case hh => assumption))
  | ((with_reducible refine m_lis (w := ?v1) (t := ?v2) (l := ?v3) (told := ?v4) (many := ?v5) ?hh ?kk); (case hh => assumption))
  | ((with_reducible refine m_saids (w := ?v1) (t := ?v2) (l := ?v3) (b := ?v4) (many := ?v5) ?hh ?kk); (case hh => assumption))
  | ((with_reducible refine m_said (w := ?v1) (t := ?v2) (l := ?v3) (told := ?v4) (many := ?v5) ?hh ?kk); (case hh => assumption))
  | ((with_reducible refine m_looks (w := ?v1) (t := ?v2) (l := ?v3) (told := ?v4) (many := ?v5) ?hh ?kk); (case hh => assumption))
  | ((with_reducible refine j_kind (c := ?v1) (r := ?v2) (said := ?v3) (n := ?v4) (s := ?v5) ?hh ?kk); (case hh => assumption))
  | ((with_reducible refine j_rest (c := ?v1) (r := ?v2) (said := ?v3) (n := ?v4) (s := ?v5) ?hh ?kk); (case hh => assumption))
  | ((with_reducible refine j_saids (c := ?v1) (r := ?v2) (b := ?v3) (n := ?v4) (s := ?v5) ?hh ?kk); (case hh => assumption))
  | ((with_reducible refine j_said (c := ?v1) (r := ?v2) (said := ?v3) (n := ?v4) (s := ?v5) ?hh ?kk); (case hh => assumption))
  | ((with_reducible refine j_found (c := ?v1) (r := ?v2) (said := ?v3) (n := ?v4) (s := ?v5) ?hh ?kk); (case hh => assumption))
  | ((with_reducible refine j_paper (c := ?v1) (r := ?v2) (said := ?v3) (n := ?v4) (s := ?v5) ?hh ?kk); (case hh => assumption)))
namespace My
abbrev s_Wire_alarms : Stmt := inClass (top 30) 7
theorem sc_Wire_alarms : FnScope ["self", "number"] ["self"] (defScope s_Wire_alarms) := ⟨rfl, rfl, rfl, by decide +kernel, rfl, by decide +kernel, by decide +kernel⟩
def sp_alarms (CW : Addr) : Sp := fun vs H Q _ => ∃ (a dx t l : Addr) (M : WM), vs = [.ref a] ∧ WAt CW a dx t l M H ∧ WOk M ∧
  ∀ (p : Addr) (ls : List Bits) (H' : Hp), H p = none → Ext H H' → H' p = some (.lst (bvs ls)) → Rise ls → ls.Perm ((M.things.filter fun p => p.2).map (·.1)) → Q (.ref p) H'
theorem keys_ring {M : WM} (nd : (M.things.map (·.1)).Nodup) : (M.things.map (·.1)).filter (fun y => (alook M.things y).getD false) = (M.things.filter fun p => p.2).map (·.1) := by
  rw [List.filter_map]
  congr 1
  apply List.filter_congr
  rintro ⟨y, u⟩ hm
  simp only [Function.comp]
  rw [alook_of nd hm]
  rfl
section
variable {P : Program} {w : World} {K : PySem.W.Frag} {mg : Str → Option Value} {base : Heap} {CW CK : Addr}
theorem ok_alarms {f : Addr} {fd : FuncData} (F : Fun K "alarms" "Wire.alarms" s_Wire_alarms f fd) (T : TxB mg) (TW : ClW K CW) : FnOk P w K mg base (L2.CX P w) 1 f fd ["self"] (sp_alarms CW) := by
  refine F.okX sc_Wire_alarms (fun vs H Q E h => ?_) (fun cdv A outer s H vs Q E hr h => ⟨_, (pss_one (ps_ret (pe_lc (own := [("number", 1)]) (g := gName 1) rfl sc_Wire_alarms.nd (piL (K := K) rfl (pe_callB (c_sortD rfl) (by rfl) T.n_sorted (by decide +kernel) (pa_cons (pFld (K := K) rfl (pv 0) rfl) pa_nil))) (blkOk_by (own := [("number", 1)]) (N := ["self", "number"]) (sc := defScope s_Wire_alarms) (by decide +kernel)) (fun _ _ _ _ _ => pg_name (i := 1) sc_Wire_alarms.nd rfl (Or.inl rfl)) (fun _ _ _ _ _ => pts_one (pt_val (pe_dget (hu_of hr) (pFld (K := K) rfl (pv 0) rfl) (pv 1) (fun _ _ => rfl)))) (fun _ _ _ _ _ => (pv 1))))), ?_⟩)
  · obtain ⟨a, dx, t, l, M, rfl, _⟩ := h
    rfl
  · obtain ⟨a, dx, t, l, M, rfl, W, ok, q⟩ := h
    have ob := W.ob
    tm_at "r"
    refine w_sortD (.inl W.th) (by have := ok.sz; omega) ok.nd fun ms p H1 hpm hri hp e1 hp1 => ?_
    tm_at "r"
    refine w_lstOk (SqL.of hp1) ?_
    have hml : ms.length ≤ 60 := by
      rw [hpm.length_eq, List.length_map]
      exact ok.sz
    refine lcFB (fun y => (alook M.things y).getD false) (src_bits (SqL.of hp1)) (fun i x h => yb h) (by omega) (fun _ => rfl) (fun y H2 NF NE hy e2 kF kE => ?_) fun p2 H2 hp2 e2 hp3 => ?_
    · have ob2 := (e1.trans e2).st _ _ ob nsh_ins
      have th2 := (e1.trans e2).st _ _ W.th nsh_dK
      obtain ⟨u, hu⟩ := alook_some (hpm.subset hy)
      rw [hu] at kF kE
      tm_at "r"
      refine w_dgetB (.inl th2) hu ?_
      tm_at "r"
      cases u
      · tm_at "e"
        exact kF rfl
      · tm_at "e"
        exact kE rfl
    · refine q p2 _ H2 (e1.free hp2) (e1.trans e2) hp3 (List.Pairwise.filter _ hri) ?_
      rw [← keys_ring ok.nd]
      exact hpm.filter _
end
end My
end

section
set_option pp.maxSteps 700
open PySem L2 Lw
local macro_rules | `(tactic| tm_at "s") => `(tactic| first
  | with_reducible refine w_seq ?_ | with_reducible refine w_asg ?_ | with_reducible refine w_gname ?_ | with_reducible refine w_ret ?_ | with_reducible refine w_drop ?_ | with_reducible refine w_ifS ?_ | with_reducible refine w_next ?_ | with_reducible refine w_retN ?_
  | with_reducible refine w_c ?_ | ((with_reducible refine w_var (v := ?vv) ?hh ?kk); (case hh => exact rfl)) | with_reducible refine w_op ?_ | with_reducible refine w_un ?_ | with_reducible refine w_cons ?_ | with_reducible refine w_nil ?_ | with_reducible refine w_test ?_ | with_reducible refine w_B ?_
  | with_reducible refine w_isbl ?_ | with_reducible refine w_not ?_ | with_reducible refine w_and ?_ | with_reducible refine w_or ?_ | with_reducible refine w_andV ?_ | with_reducible refine w_orV ?_ | with_reducible refine w_notV ?_ | with_reducible refine w_if ?_ | with_reducible refine w_chain ?_
  | with_reducible refine w_isN ?_ | with_reducible refine w_notN ?_ | with_reducible refine w_yes ?_ | with_reducible refine w_call ?_ | with_reducible refine w_CB ?_ | with_reducible refine w_tup ?_ | with_reducible refine w_lst ?_ | with_reducible refine w_sl ?_ | with_reducible refine w_noPart ?_
  | with_reducible refine w_part ?_ | with_reducible refine w_isint ?_ | with_reducible refine w_gSub ?_ | with_reducible refine w_break ?_ | with_reducible refine w_cont ?_
  | with_reducible refine w_I0 ?_ | with_reducible refine w_eqI ?_ | with_reducible refine w_neI ?_ | with_reducible refine w_eqS ?_ | with_reducible refine w_neS ?_ | with_reducible refine w_eqB ?_ | with_reducible refine w_neB ?_ | ((with_reducible refine w_isi (d := ?dd) ?hh ?kk); (case hh => assumption))
  | with_reducible refine w_sg ?_ | with_reducible refine w_notSg ?_ | with_reducible refine w_starts ?_ | with_reducible refine w_max2 ?_ | with_reducible refine w_min2 ?_ | with_reducible refine w_intB ?_ | with_reducible refine w_intI ?_ | with_reducible refine w_bm ?_ | with_reducible refine w_bm0 ?_ | with_reducible refine w_m1 ?_ | with_reducible refine w_m0 ?_ | with_reducible refine w_isstr ?_
  | with_reducible refine w_for ?_ | with_reducible refine w_lc ?_ | with_reducible refine w_rng ?_ | with_reducible refine w_rng2 ?_ | with_reducible refine w_ilist ?_ | with_reducible refine w_itup ?_ | with_reducible refine w_istr ?_ | with_reducible refine w_strOk ?_
  | ((with_reducible refine w_rngOk ?hh ?h2 ?kk); (case hh => omega); (case h2 => omega)) | ((with_reducible refine w_lstOk (xs := ?xx) ?hh ?kk); (case hh => assumption))
  | ((with_reducible refine w_alL ?hh ?kk); (case hh => exact Nat.le_of_ble_eq_true rfl)) | ((with_reducible refine w_alT ?hh ?kk); (case hh => exact Nat.le_of_ble_eq_true rfl))
  | ((with_reducible refine w_lenL (xs := ?xx) ?hh ?kk); (case hh => assumption)) | ((with_reducible refine w_lenT (xs := ?xx) ?hh ?kk); (case hh => assumption))
  | ((with_reducible refine w_I ?hh ?kk); (case hh => first | (show _ ≠ (0 : Int); omega) | (show (0 : Int) < _; omega) | exact ⟨by omega, by omega⟩ | exact .inl ⟨by omega, by omega⟩ | exact .inr ⟨by omega, by omega⟩ | exact ⟨by decide, by decide, by decide⟩))
  | with_reducible refine w_din ?_ | with_reducible refine w_dnot ?_ | with_reducible refine w_dget ?_ | with_reducible refine w_dput ?_ | with_reducible refine w_fld ?_ | with_reducible refine w_sto ?_ | with_reducible refine w_meth ?_ | with_reducible refine w_pop1 ?_ | with_reducible refine w_pop2 ?_ | with_reducible refine w_ikeys ?_
  | ((with_reducible refine f_width (CW := ?v1) (dx := ?v2) (t := ?v3) (l := ?v4) (w := ?v5) (told := ?v6) (many := ?v7) ?tw ?hh ?kk); (case tw => assumption); (case hh => assumption))
  | ((with_reducible refine f_things (CW := ?v1) (dx := ?v2) (t := ?v3) (l := ?v4) (w := ?v5) (told := ?v6) (many := ?v7) ?tw ?hh ?kk); (case tw => assumption); (case hh => assumption))
  | ((with_reducible refine f_listening (CW := ?v1) (dx := ?v2) (t := ?v3) (l := ?v4) (w := ?v5) (told := ?v6) (many := ?v7) ?tw ?hh ?kk); (case tw => assumption); (case hh => assumption))
  | ((with_reducible refine f_tolds (CW := ?v1) (dx := ?v2) (t := ?v3) (l := ?v4) (w := ?v5) (b := ?v6) (many := ?v7) ?tw ?hh ?kk); (case tw => assumption); (case hh => assumption))
  | ((with_reducible refine f_told (CW := ?v1) (dx := ?v2) (t := ?v3) (l := ?v4) (w := ?v5) (told := ?v6) (many := ?v7) ?tw ?hh ?kk); (case tw => assumption); (case hh => assumption))
  | ((with_reducible refine f_many (CW := ?v1) (dx := ?v2) (t := ?v3) (l := ?v4) (w := ?v5) (told := ?v6) (many := ?v7) ?tw ?hh ?kk); (case tw => assumption); (case hh => assumption))
  | ((with_reducible refine w_ixL (v := ?vv) (xs := ?xx) ?hh ?h2 ?kk); (case hh => assumption); (case h2 => exact rfl)) | ((with_reducible refine w_ixT (v := ?vv) (xs := ?xx) ?hh ?h2 ?kk); (case hh => assumption); (case h2 => exact rfl)))
local macro_rules | `(tactic| tm_at "r") => `(tactic| repeat tm_at "s")
local macro_rules | `(tactic| tm_at "b") => `(tactic| first | refine w_iteT (by with_reducible rfl) ?_ | refine w_iteF (by with_reducible rfl) ?_ | refine w_iteT (by rfl) ?_ | refine w_iteF (by rfl) ?_)
local macro_rules | `(tactic| tm_at "e") => `(tactic| repeat (first | tm_at "s" | tm_at "b"))
local macro_rules | `(tactic| tm_at "s") => `(tactic| first
  | with_reducible refine w_gcons ?_ | with_reducible refine w_gnil ?_
  | ((with_reducible refine g_wire (CK := ?v1) (dx := ?v2) (a := ?v3) (c := ?v4) (r := ?v5) (said := ?v6) (n := ?v7) (s := ?v8) ?tw ?hh ?kk); (case tw => assumption); (case hh => assumption))
  | ((with_reducible refine g_kind (CK := ?v1) (dx := ?v2) (a := ?v3) (c := ?v4) (r := ?v5) (said := ?v6) (n := ?v7) (s := ?v8) ?tw ?hh ?kk); (case tw => assumption); (case hh => assumption))
  | ((with_reducible refine g_rest (CK := ?v1) (dx := ?v2) (a := ?v3) (c := ?v4) (r := ?v5) (said := ?v6) (n := ?v7) (s := ?v8) ?tw ?hh ?kk); (case tw => assumption); (case hh => assumption))
  | ((with_reducible refine g_saids (CK := ?v1) (dx := ?v2) (a := ?v3) (c := ?v4) (r := ?v5) (b := ?v6) (n := ?v7) (s := ?v8) ?tw ?hh ?kk); (case tw => assumption); (case hh => assumption))
  | ((with_reducible refine g_said (CK := ?v1) (dx := ?v2) (a := ?v3) (c := ?v4) (r := ?v5) (said := ?v6) (n := ?v7) (s := ?v8) ?tw ?hh ?kk); (case tw => assumption); (case hh => assumption))
  | ((with_reducible refine g_names (CK := ?v1) (dx := ?v2) (a := ?v3) (c := ?v4) (r := ?v5) (said := ?v6) (n := ?v7) (s := ?v8) ?tw ?hh ?kk); (case tw => assumption); (case hh => assumption))
  | ((with_reducible refine g_seen (CK := ?v1) (dx := ?v2) (a := ?v3) (c := ?v4) (r := ?v5) (said := ?v6) (n := ?v7) (s := ?v8) ?tw ?hh ?kk); (case tw => assumption); (case hh => assumption)))
local macro_rules | `(tactic| tm_at "q") => `(tactic| repeat (first | with_reducible refine w_next ?_ | with_reducible refine w_seq ?_))
namespace My
abbrev s_law : Stmt := top 94
theorem sc_law : FnScope ["_law_script", "_law_row", "_law_turn", "_law_width_here", "_law_names", "_law_wire", "_law_far", "_law_bad", "_law_odd_here", "_law_works", "_law_number_here", "_law_kind", "_law_work"] ["_law_script"] (defScope s_law) := ⟨rfl, rfl, rfl, by decide +kernel, rfl, by decide +kernel, by decide +kernel⟩
def sp_law01 (K : PySem.W.Frag) (TT : List (Addr × Str)) : Sp := fun vs H Q _ => ∃ (a : Addr) (ns : List Int), vs = [.ref a] ∧ SqL K H a (ns.map V.int) ∧ LamX.Tabs TT H ∧ ∀ H', Q (.bl true) H'
theorem stepN_mutL {T : List (Addr × Str)} {F F' : List Addr} {H H' : Hp} {p : Addr} {xs ys : List V} (s : StepN T F F' H H') (hn : H p = none) (hp : H' p = some (.lst xs)) : StepN T F F' H (upd H' p (.lst ys)) where
  st := fun b o h n ns nt => by rw [upd_ne (ne_of_none h hn)]; exact s.st b o h n ns nt
  rw_ := fun b a i m z h n hi => by
    obtain ⟨i', m', z', h1, h2⟩ := s.rw_ b a i m z h n hi
    exact ⟨i', m', z', by rw [upd_ne (ne_of_none h hn)]; exact h1, h2⟩
  nw := s.nw
  tb := fun h => tabs_by (s.tb h) fun b o hb ho => by
    rw [upd_ne (fun e => by
      rw [e, hp] at hb
      cases hb
      rcases ho with ⟨x, q⟩ | ⟨x, q⟩ <;> cases q)]
    exact hb
theorem lam_upd {X : Cx} {k : Nat} {H : Hp} {f p : Addr} {t : XK → TE} {xs ys : List V} (h : Lam X k H f t) (hp : H p = some (.lst xs)) : Lam X k (upd H p (.lst ys)) f t := h.st fun b o hb ho => by
  rw [upd_ne (fun e => by
    rw [e, hp] at hb
    cases hb
    rcases ho with ⟨x, q⟩ | ⟨x, q⟩ <;> cases q)]
  exact hb
/-- what a turn keeps -/
structure In01 (K : PySem.W.Frag) (TT : List (Addr × Str)) (z : Option (Addr × Obj × HO)) (r pn CW a dx t l : Addr) (n : Nat) (ls : List Bits) (H : Hp) : Prop where
  lg : LG K TT z r H
  nm : H pn = some (.lst (bvs ls))
  W : WAt CW a dx t l (newW n ls) H
section
variable {K : PySem.W.Frag} {TT : List (Addr × Str)} {z : Option (Addr × Obj × HO)} {r pn CW a dx t l : Addr} {n : Nat} {ls : List Bits} {H H' : Hp}
theorem In01.ext (h : In01 K TT z r pn CW a dx t l n ls H) (e : Ext H H') : In01 K TT z r pn CW a dx t l n ls H' := ⟨h.lg.ext e, e.st _ _ h.nm (nsh_bvs _), (oWire CW a dx t l (newW n ls)).ext e h.W⟩
theorem In01.stp (h : In01 K TT z r pn CW a dx t l n ls H) (e : StepN TT [] [] H H') : In01 K TT z r pn CW a dx t l n ls H' := ⟨h.lg.stepN e (fun b hb => (by cases hb)), e.st _ _ h.nm (by simp) (nsh_bvs _) (fun ps q => by cases q), (oWire CW a dx t l (newW n ls)).loc (fun b hb o ho => by
  obtain ⟨o', e1, n1, _, n2, _⟩ := (oWire CW a dx t l (newW n ls)).al h.W b hb
  rw [ho] at e1
  cases e1
  exact e.st b o ho (by simp) n1 n2) h.W⟩
theorem In01.lam (h : In01 K TT z r pn CW a dx t l n ls H) (e : LamX.ExtN H H') (T : LamX.Tabs TT H') : In01 K TT z r pn CW a dx t l n ls H' := h.stp (StepN.lam e T)
end
section
variable {P : Program} {w : World} {K : PySem.W.Frag} {mg : Str → Option Value} {base : Heap}
theorem ok_law01 {f c Pt fw CW CK : Addr} {fd fdw : FuncData} {TT : List (Addr × Str)} (g : Kinds K mg) (F : FunC K "law" "law" s_law f fd c) (T : TxB mg) (TW : ClW K CW) (Fw : Fun K "_law_word" "_law_word" s_law_word fw fdw) (bw : Binds K fdw ["_law_work"] []) (m_word : mg "_law_word" = some (.ref fw))
    (TB : LamX.TabB base mg c Pt) (hmT : (Pt, ("law.<locals>.<lambda>" : Str)) ∈ TT) (hu : ∀ p ∈ TT, p.1 = Pt → p.2 = ("law.<locals>.<lambda>" : Str))
    (C_law_taken : Cal P w K mg base 1 "_law_taken" ["_law_row", "_law_many"] (sp_taken K)) (C_law_width : Cal P w K mg base 2 "_law_width" ["_law_row"] (sp_width K)) (C_law_things : Cal P w K mg base 4 "_law_things" ["_law_row", "_law_width_here", "_law_most"] (sp_things K)) (C_law_made : Cal P w K mg base 5 "_law_made" ["_law_width_here", "_law_numbers"] (sp_made K CW))
    (C_law_wide : Cal P w K mg base 2 "_law_wide" ["_law_bad"] (sp_wide P w K mg base TT g.c_BadWidth)) (C_law_odd : Cal P w K mg base 3 "_law_odd" ["_law_row", "_law_width_here", "_law_far"] (sp_odd01 K)) (C_law_number : Cal P w K mg base 2 "_law_number" ["_law_row", "_law_width_here"] (sp_number K)) (C_law_rounds : Cal P w K mg base 22 "_law_rounds" ["_law_row", "_law_wire", "_law_width_here", "_law_far"] (sp_rounds K TT CW)) (C_law_alike : Cal P w K mg base 7 "_law_alike" ["_law_found", "_law_due"] (sp_alike K 7))
    (C_Wire_hang : CalM P w K mg base 4 CW "hang" ["self", "number"] (sp_hang K CW g.c_BadNumber g.c_There)) (C_Wire_off : CalM P w K mg base 5 CW "off" ["self", "number"] (sp_thing K CW g.c_BadNumber g.c_NotThere (gOff CW))) (C_Wire_alarm : CalM P w K mg base 5 CW "alarm" ["self", "number"] (sp_thing K CW g.c_BadNumber g.c_NotThere (gSet CW true))) (C_Wire_calm : CalM P w K mg base 5 CW "calm" ["self", "number"] (sp_thing K CW g.c_BadNumber g.c_NotThere (gSet CW false)))
    (C_met : Cal P w K mg base 4 "met" ["width", "numbers"] (sp_badN K g.c_BadNumber)) (C_fewest : Cal P w K mg base 4 "fewest" ["width", "numbers"] (sp_badN K g.c_BadNumber)) (C_Wire_begin : CalM P w K mg base 2 CW "begin" ["self", "kind"] (sp_begin CW g.c_BadKind)) (C_Walk : CalC P w K mg base 2 CK "Walk" ["self", "wire", "kind"] (sp_kinit CK g.c_BadKind))
    (C_Wire_hung : CalM P w K mg base 1 CW "hung" ["self"] (sp_hung CW)) (C_Wire_alarms : CalM P w K mg base 1 CW "alarms" ["self"] (sp_alarms CW)) (C_Wire_looks : CalM P w K mg base 1 CW "looks" ["self"] (sp_looks CW)) :
    FnOk P w K mg base (L2.CX P w) 30 f fd ["_law_script"] (sp_law01 K TT) := by
  have cl_Wire := TW.cl
  obtain ⟨ocw, odw, kVw, docw, pmw, anw, cdw, ctw, oslw, rfl, lkw, hcw⟩ := Fw.ex
  refine F.okX sc_law (fun vs H Q E h => ?_) (fun A outer s H vs Q E hr h => ⟨_, (pss_cons (ps_set (i := 1) sc_law.nd rfl (by first | exact Or.inl rfl | exact Or.inr rfl) (pe_lst (pa_cons (pv 0) (pa_cons pe_int (pa_cons pe_int (pa_cons pe_int pa_nil))))))
 (pss_lk (pss_cons (ps_for (passes_of rfl) rfl (pi_range1 rfl T.n_range (pa_cons pe_int pa_nil)) (pg_name (i := 2) sc_law.nd rfl (by first | exact Or.inl rfl | exact Or.inr rfl))
 (pss_cons (ps_set (i := 3) sc_law.nd rfl (by first | exact Or.inl rfl | exact Or.inr rfl) (pe_cal (E := E0) C_law_width (hr.mono (by first | decide | omega)) passL (pa_cons (pv 1) pa_nil)))
 (pss_cons (ps_set (i := 4) sc_law.nd rfl (by first | exact Or.inl rfl | exact Or.inr rfl) (pe_cal (E := E0) C_law_things (hr.mono (by first | decide | omega)) passL (pa_cons (pv 1) (pa_cons (pv 3) (pa_cons pe_int pa_nil)))))
 (pss_cons (ps_set (i := 5) sc_law.nd rfl (by first | exact Or.inl rfl | exact Or.inr rfl) (pe_cal (E := E0) C_law_made (hr.mono (by first | decide | omega)) passL (pa_cons (pv 3) (pa_cons (pv 4) pa_nil))))
 (pss_cons (ps_set (i := 6) sc_law.nd rfl (by first | exact Or.inl rfl | exact Or.inr rfl) (pe_op op_add pe_int (pe_cal (E := E0) C_law_taken (hr.mono (by first | decide | omega)) passL (pa_cons (pv 1) (pa_cons (pe_op op_pow pe_int pe_int) pa_nil)))))
 (pss_cons (ps_set (i := 7) sc_law.nd rfl (by first | exact Or.inl rfl | exact Or.inr rfl) (pe_ix (ixL (K := K) rfl) (pe_lst (pa_cons pe_int (pa_cons pe_int (pa_cons (pe_op op_add pe_int (pv 6)) (pa_cons (pe_op op_sub pe_int (pv 6)) (pa_cons pe_bl pa_nil)))))) (pe_cal (E := E0) C_law_taken (hr.mono (by first | decide | omega)) passL (pa_cons (pv 1) (pa_cons pe_int pa_nil))) (fun _ _ => rfl)))
 (pss_cons (ps_if (pt_cmpR (oNeD (K := K) rfl hr.units) (pe_lc (own := [("_law_work", 12)]) (g := gName 12) rfl sc_law.nd (piL (K := K) rfl (pe_cal (E := E0) C_law_wide (hr.mono (by first | decide | omega)) passL (pa_cons (pv 7) pa_nil))) (blkOk_by (own := [("_law_work", 12)]) (N := ["_law_script", "_law_row", "_law_turn", "_law_width_here", "_law_names", "_law_wire", "_law_far", "_law_bad", "_law_odd_here", "_law_works", "_law_number_here", "_law_kind", "_law_work"]) (sc := defScope s_law) (by decide +kernel)) (fun _ _ _ _ _ => pg_name (i := 12) sc_law.nd rfl (Or.inl rfl)) (fun _ _ _ _ _ => pts_one (pt_cmpR op_ne (pe_workF (TT := TWord g) (P := P) (w := w) (K := K) (mg := mg) (base := base) (cB := g.c_BadWidth) (k := 8) ⟨rfl, rfl, rfl, rfl, rfl⟩ rfl m_word Fw.kp lkw hcw bw sc_law_word rfl (Or.inl rfl) (gives_wordR (K := K) (mg := mg) _ rfl rfl T g fw _) (hr.mono (by first | decide | omega)) (pv 12)) pe_str (nomark _))) (fun _ _ _ _ _ => (pv 12))) (pe_lst pa_nil) (nomark _))
 (pss_one (ps_ret pe_bl))
 pss_nil)
 (pss_cons (ps_set (i := 8) sc_law.nd rfl (by first | exact Or.inl rfl | exact Or.inr rfl) (pe_cal (E := E0) C_law_odd (hr.mono (by first | decide | omega)) passL (pa_cons (pv 1) (pa_cons (pv 3) (pa_cons (pv 6) pa_nil)))))
 (pss_cons (ps_set (i := 9) sc_law.nd rfl (by first | exact Or.inl rfl | exact Or.inr rfl) (pe_lst (pa_cons (pe_lam0 (T := TT) (k := 18) TB rfl hmT hu (lamD_by (by kernel_rfl)) rfl (fun _ _ _ _ _ _ => rfl) (fun A outer s H E f c' hr => (pe_me (E := E) (pv 5) cl_Wire C_Wire_hang (hr.mono (by first | decide | omega)) (passes_call (takes_of rfl rfl rfl rfl) (fun _ _ _ _ h => h)) (pa_cons (pv 8) pa_nil)))) (pa_cons (pe_lam1 (T := TT) (k := 18) TB rfl hmT hu (lamD_by (by kernel_rfl)) rfl rfl rfl (fun _ _ _ _ _ _ _ => ⟨_, rfl, fun _ => rfl⟩) (fun A outer s H E f c' hr => (pe_me (E := E) (pv 5) cl_Wire C_Wire_off (hr.mono (by first | decide | omega)) (passes_call (takes_of rfl rfl rfl rfl) (fun _ _ _ _ h => h)) (pa_cons (pv 8) pa_nil)))) (pa_cons (pe_lam1 (T := TT) (k := 18) TB rfl hmT hu (lamD_by (by kernel_rfl)) rfl rfl rfl (fun _ _ _ _ _ _ _ => ⟨_, rfl, fun _ => rfl⟩) (fun A outer s H E f c' hr => (pe_me (E := E) (pv 5) cl_Wire C_Wire_alarm (hr.mono (by first | decide | omega)) (passes_call (takes_of rfl rfl rfl rfl) (fun _ _ _ _ h => h)) (pa_cons (pv 8) pa_nil)))) pa_nil)))))
 (pss_cons (ps_set (i := 9) sc_law.nd rfl (by first | exact Or.inl rfl | exact Or.inr rfl) (pe_op op_cat (pv 9) (pe_lst (pa_cons (pe_lam1 (T := TT) (k := 18) TB rfl hmT hu (lamD_by (by kernel_rfl)) rfl rfl rfl (fun _ _ _ _ _ _ _ => ⟨_, rfl, fun _ => rfl⟩) (fun A outer s H E f c' hr => (pe_me (E := E) (pv 5) cl_Wire C_Wire_calm (hr.mono (by first | decide | omega)) (passes_call (takes_of rfl rfl rfl rfl) (fun _ _ _ _ h => h)) (pa_cons (pv 8) pa_nil)))) (pa_cons (pe_lam1 (T := TT) (k := 18) TB rfl hmT hu (lamD_by (by kernel_rfl)) rfl rfl rfl (fun _ _ _ _ _ _ _ => ⟨_, rfl, fun _ => rfl⟩) (fun A outer s H E f c' hr => (pe_cal (E := E) C_met (hr.mono (by first | decide | omega)) (passes_call (takes_of rfl rfl rfl rfl) (fun _ _ _ _ h => h)) (pa_cons (pv 3) (pa_cons (pe_op op_cat (pv 4) (pe_lst (pa_cons (pv 8) (pa_cons pe_int pa_nil)))) pa_nil))))) pa_nil)))))
 (pss_cons (ps_expr (pBm (K := K) rfl PySem.F.plainAttrs_list PySem.F.slot_list_append PySem.F.type_list_append mt_append (pv 9) (pa_cons (pe_lam1 (T := TT) (k := 18) TB rfl hmT hu (lamD_by (by kernel_rfl)) rfl rfl rfl (fun _ _ _ _ _ _ _ => ⟨_, rfl, fun _ => rfl⟩) (fun A outer s H E f c' hr => (pe_cal (E := E) C_fewest (hr.mono (by first | decide | omega)) (passes_call (takes_of rfl rfl rfl rfl) (fun _ _ _ _ h => h)) (pa_cons (pv 3) (pa_cons (pe_op op_cat (pv 4) (pe_lst (pa_cons (pv 8) (pa_cons pe_int pa_nil)))) pa_nil))))) pa_nil)))
 (pss_cons (ps_if (pt_cmpR (oNeD (K := K) rfl hr.units) (pe_lcB (own := [("_law_work", 12)]) (g := gName 12) rfl sc_law.nd (piL (K := K) rfl (pv 9)) (blkOk_by (own := [("_law_work", 12)]) (N := ["_law_script", "_law_row", "_law_turn", "_law_width_here", "_law_names", "_law_wire", "_law_far", "_law_bad", "_law_odd_here", "_law_works", "_law_number_here", "_law_kind", "_law_work"]) (sc := defScope s_law) (by decide +kernel)) (fun _ _ _ _ _ => pg_name (i := 12) sc_law.nd rfl (Or.inl rfl)) (fun _ _ _ _ _ _ st => pts_one (pt_cmpR op_ne (pe_workB (TT := TWord g) (k := 18) st rfl m_word Fw.kp lkw hcw bw sc_law_word rfl (Or.inl rfl) (gives_wordR (K := K) (mg := mg) _ rfl rfl T g fw _) (hr.mono (by first | decide | omega)) (pv 12)) pe_str (nomark _))) (fun _ _ _ _ _ _ st => (pv 12))) (pe_lst pa_nil) (nomark _))
 (pss_one (ps_ret pe_bl))
 pss_nil)
 (pss_cons (ps_set (i := 10) sc_law.nd rfl (by first | exact Or.inl rfl | exact Or.inr rfl) (pe_cal (E := E0) C_law_number (hr.mono (by first | decide | omega)) passL (pa_cons (pv 1) (pa_cons (pv 3) pa_nil))))
 (pss_cons (ps_if (pt_cmpR (oIn (K := K) rfl) (pv 10) (pv 4) (by rfl))
 (pss_one (ps_if (pt_cmpR op_ne (pe_work (k := 18) rfl m_word Fw.kp lkw hcw bw sc_law_word rfl (Or.inl rfl) (gives_wordR _ rfl rfl T g fw _) (hr.mono (by first | decide | omega)) (pe_lam0 (T := TT) (k := 18) TB rfl hmT hu (lamD_by (by kernel_rfl)) rfl (fun _ _ _ _ _ _ => rfl) (fun A outer s H E f c' hr => (pe_me (E := E) (pv 5) cl_Wire C_Wire_hang (hr.mono (by first | decide | omega)) (passes_call (takes_of rfl rfl rfl rfl) (fun _ _ _ _ h => h)) (pa_cons (pv 10) pa_nil))))) pe_str (nomark _))
 (pss_one (ps_ret pe_bl))
 pss_nil))
 (pss_cons (ps_set (i := 9) sc_law.nd rfl (by first | exact Or.inl rfl | exact Or.inr rfl) (pe_lst (pa_cons (pe_lam0 (T := TT) (k := 18) TB rfl hmT hu (lamD_by (by kernel_rfl)) rfl (fun _ _ _ _ _ _ => rfl) (fun A outer s H E f c' hr => (pe_me (E := E) (pv 5) cl_Wire C_Wire_off (hr.mono (by first | decide | omega)) (passes_call (takes_of rfl rfl rfl rfl) (fun _ _ _ _ h => h)) (pa_cons (pv 10) pa_nil)))) (pa_cons (pe_lam1 (T := TT) (k := 18) TB rfl hmT hu (lamD_by (by kernel_rfl)) rfl rfl rfl (fun _ _ _ _ _ _ _ => ⟨_, rfl, fun _ => rfl⟩) (fun A outer s H E f c' hr => (pe_me (E := E) (pv 5) cl_Wire C_Wire_alarm (hr.mono (by first | decide | omega)) (passes_call (takes_of rfl rfl rfl rfl) (fun _ _ _ _ h => h)) (pa_cons (pv 10) pa_nil)))) (pa_cons (pe_lam1 (T := TT) (k := 18) TB rfl hmT hu (lamD_by (by kernel_rfl)) rfl rfl rfl (fun _ _ _ _ _ _ _ => ⟨_, rfl, fun _ => rfl⟩) (fun A outer s H E f c' hr => (pe_me (E := E) (pv 5) cl_Wire C_Wire_calm (hr.mono (by first | decide | omega)) (passes_call (takes_of rfl rfl rfl rfl) (fun _ _ _ _ h => h)) (pa_cons (pv 10) pa_nil)))) pa_nil)))))
 (pss_one (ps_if (pt_cmpR (oNeD (K := K) rfl hr.units) (pe_lcB (own := [("_law_work", 12)]) (g := gName 12) rfl sc_law.nd (piL (K := K) rfl (pv 9)) (blkOk_by (own := [("_law_work", 12)]) (N := ["_law_script", "_law_row", "_law_turn", "_law_width_here", "_law_names", "_law_wire", "_law_far", "_law_bad", "_law_odd_here", "_law_works", "_law_number_here", "_law_kind", "_law_work"]) (sc := defScope s_law) (by decide +kernel)) (fun _ _ _ _ _ => pg_name (i := 12) sc_law.nd rfl (Or.inl rfl)) (fun _ _ _ _ _ _ st => pts_one (pt_cmpR op_ne (pe_workB (TT := TWord g) (k := 18) st rfl m_word Fw.kp lkw hcw bw sc_law_word rfl (Or.inl rfl) (gives_wordR (K := K) (mg := mg) _ rfl rfl T g fw _) (hr.mono (by first | decide | omega)) (pv 12)) pe_str (nomark _))) (fun _ _ _ _ _ _ st => (pv 12))) (pe_lst pa_nil) (nomark _))
 (pss_one (ps_ret pe_bl))
 pss_nil))))
 (pss_cons (ps_set (i := 11) sc_law.nd rfl (by first | exact Or.inl rfl | exact Or.inr rfl) (pe_ix (ixL (K := K) rfl) (pe_lst (pa_cons pe_str (pa_cons pe_str (pa_cons pe_str (pa_cons pe_str (pa_cons pe_str pa_nil)))))) (pe_cal (E := E0) C_law_taken (hr.mono (by first | decide | omega)) passL (pa_cons (pv 1) (pa_cons pe_int pa_nil))) (fun _ _ => rfl)))
 (pss_cons (ps_if (pt_cmpR (oNeD (K := K) rfl hr.units) (pe_lst (pa_cons (pe_work (k := 18) rfl m_word Fw.kp lkw hcw bw sc_law_word rfl (Or.inl rfl) (gives_wordR _ rfl rfl T g fw _) (hr.mono (by first | decide | omega)) (pe_lam0 (T := TT) (k := 18) TB rfl hmT hu (lamD_by (by kernel_rfl)) rfl (fun _ _ _ _ _ _ => rfl) (fun A outer s H E f c' hr => (pe_me (E := E) (pv 5) cl_Wire C_Wire_begin (hr.mono (by first | decide | omega)) (passes_call (takes_of rfl rfl rfl rfl) (fun _ _ _ _ h => h)) (pa_cons (pv 11) pa_nil))))) (pa_cons (pe_work (k := 18) rfl m_word Fw.kp lkw hcw bw sc_law_word rfl (Or.inl rfl) (gives_wordR _ rfl rfl T g fw _) (hr.mono (by first | decide | omega)) (pe_lam1 (T := TT) (k := 18) TB rfl hmT hu (lamD_by (by kernel_rfl)) rfl rfl rfl (fun _ _ _ _ _ _ _ => ⟨_, rfl, fun _ => rfl⟩) (fun A outer s H E f c' hr => (pe_mk C_Walk (hr.mono (by first | decide | omega)) (passes_call (takes_of rfl rfl rfl rfl) (fun _ _ _ _ h => h)) (pa_cons (pv 5) (pa_cons (pv 11) pa_nil)))))) pa_nil))) (pe_lst (pa_cons pe_str (pa_cons pe_str pa_nil))) (nomark _))
 (pss_one (ps_ret pe_bl))
 pss_nil)
 (pss_cons (ps_if (pt_not (pt_val (pe_cal (E := E0) C_law_alike (hr.mono (by first | decide | omega)) passL (pa_cons (pe_lst (pa_cons (pe_me0 (E := E0) (pv 5) cl_Wire C_Wire_hung (hr.mono (by first | decide | omega)) passL) (pa_cons (pe_me0 (E := E0) (pv 5) cl_Wire C_Wire_alarms (hr.mono (by first | decide | omega)) passL) (pa_cons (pe_me0 (E := E0) (pv 5) cl_Wire C_Wire_looks (hr.mono (by first | decide | omega)) passL) pa_nil)))) (pa_cons (pe_lst (pa_cons (pv 4) (pa_cons (pe_lst pa_nil) (pa_cons pe_int pa_nil)))) pa_nil)))))
 (pss_one (ps_ret pe_bl))
 pss_nil)
 (pss_one (ps_if (pt_not (pt_val (pe_cal (E := E0) C_law_rounds (hr.mono (by first | decide | omega)) passL (pa_cons (pv 1) (pa_cons (pv 5) (pa_cons (pv 3) (pa_cons (pv 6) pa_nil)))))))
 (pss_one (ps_ret pe_bl))
 pss_nil)))))))))))))))))))
 (pss_one (ps_ret pe_bl))))), ?_⟩)
  · obtain ⟨a0, ns, rfl, _⟩ := h
    rfl
  · obtain ⟨a0, ns, rfl, hs0, htab, q⟩ := h
    tm_at "r"
    intro r H1 hr1 e1 hr2
    tm_at "r"
    refine lk_byS hr2 (e1.seq (nsh_ints ns) hs0) (tabs_ext htab e1) (fun z0 H2 D lg kD => ?_) (fun H' => q H')
    clear hr1 e1 hr2 hs0 htab
    tm_at "r"
    refine forR (fun i σ H => (∃ v : List (Option V), v.length = 11 ∧ σ = some (.ref a0) :: some (.ref r) :: v) ∧ LG K TT z0 r H) ⟨⟨_, rfl, rfl⟩, lg⟩ ?_ ?_
    · clear lg
      rintro i_ σ H2 NN hi ⟨⟨v, hv, rfl⟩, lg⟩ kN
      obtain ⟨v2, v3, v4, v5, v6, v7, v8, v9, v10, v11, v12, rfl⟩ : ∃ v2 v3 v4 v5 v6 v7 v8 v9 v10 v11 v12, v = [v2, v3, v4, v5, v6, v7, v8, v9, v10, v11, v12] := by
        match v, hv with
        | [v2, v3, v4, v5, v6, v7, v8, v9, v10, v11, v12], _ => exact ⟨_, _, _, _, _, _, _, _, _, _, _, rfl⟩
      clear hv
      have kN : ∀ (v : List (Option V)) (H : Hp), v.length = 11 → LG K TT z0 r H → NN (some (.ref a0) :: some (.ref r) :: v) H := fun v H h1 h2 => kN _ _ ⟨⟨v, h1, rfl⟩, h2⟩
      tm_at "r"
      refine ⟨r, rfl, lg.row, fun n H3 hn1 hn2 e3 => ?_⟩
      have lg := lg.ext e3
      tm_at "r"
      refine u_things lg.row hn1 hn2 (by decide) fun pn ls H4 hpn e4 hpn4 hlr hls _ hlm => ?_
      have lg := lg.ext e4
      have hl6 : ls.length ≤ 6 := hlm (by decide)
      tm_at "r"
      refine ⟨n, pn, ls, rfl, hn1, hn2, SqL.of hpn4, rise_nodup hlr, hls, by omega, fun a dx t l H5 _ e5 W5 => ?_⟩
      have J : In01 K TT z0 r pn CW a dx t l n ls H5 := ⟨lg.ext e5, e5.st _ _ hpn4 (nsh_bvs _), W5⟩
      have ok : WOk (newW n ls) := newW_ok hn1 hn2 (rise_nodup hlr) hls (by omega)
      have hkeys := newW_keys n ls
      have htz : (newW n ls).things.length ≤ 40 := by
        show (ls.map _).length ≤ 40
        rw [List.length_map]
        omega
      clear lg e3 e4 e5 W5 hpn hpn4 hlm
      tm_at "r"
      refine u_taken J.lg.row (by decide) (by decide) fun x H6 hx0 hx1 e6 => ?_
      have J := J.ext e6
      have hx1 : x < 1000000 := hx1
      tm_at "r"
      intro pb H7 _ e7 hpb
      have J := J.ext e7
      tm_at "r"
      refine u_taken J.lg.row (by omega) (by omega) fun y H8 hy0 hy1 e8 => ?_
      have J := J.ext e8
      obtain ⟨bad, hat, hbad⟩ : ∃ bad : V, atI [V.int 0, V.int 13, V.int (12 + (1 + x)), V.int (0 - (1 + x)), V.bl true] y = some bad ∧ BadW bad := by
        have : y = 0 ∨ y = 1 ∨ y = 2 ∨ y = 3 ∨ y = 4 := by omega
        rcases this with rfl | rfl | rfl | rfl | rfl
        · exact ⟨_, rfl, .inl ⟨_, rfl, by decide⟩⟩
        · exact ⟨_, rfl, .inl ⟨_, rfl, by decide⟩⟩
        · exact ⟨_, rfl, .inl ⟨_, rfl, by omega⟩⟩
        · exact ⟨_, rfl, .inl ⟨_, rfl, by omega⟩⟩
        · exact ⟨_, rfl, .inr rfl⟩
      refine w_ixL (v := bad) (SqL.of (e8.st _ _ hpb (nsh_of fun a i m z e => by cases e))) hat ?_
      clear e6 e7 e8 hpb hat hy0 hy1
      tm_at "r"
      refine ⟨bad, rfl, hbad, J.lg.tab, fun pw fs H9 s9 hpw hfz hfs => ?_⟩
      have J := J.stp s9
      clear s9
      tm_at "r"
      refine w_lstOk (SqL.of hpw) ?_
      refine lcFx (bs := fs) (gv := V.ref) (fun _ => false) (SqL.of hpw) nsh_refs (by omega) (fun _ => rfl) (fun b H' NF NE hb e kF kE => ?_) fun D2 H10 _ e10 hD2 => ?_
      · tm_at "r"
        refine ⟨_, rfl, b, rfl, (hfs b hb).extH e, ?_⟩
        refine w_word ?_
        intro H11 e11
        refine ⟨0, g.c_BadWidth, "width", rfl, rfl, by decide, by decide, by decide, rfl, rfl, fun H12 e12 => ?_⟩
        tm_at "r"
        refine w_iteF (by decide +kernel) ?_
        exact kF rfl H12 (e11.trans e12)
      · have J := J.ext e10
        have hD2 : H10 D2 = some (.lst (bvs [])) := by
          rw [hD2, List.filter_eq_nil_iff.mpr (by simp)]
          rfl
        tm_at "r"
        intro z1 H11 _ e11 hz1
        have hz1 : H11 z1 = some (.lst (bvs [])) := hz1
        have J := J.ext e11
        refine w_neLs (SqL.of (e11.st _ _ hD2 nsh_nil)) (SqL.of hz1) ?_
        clear hD2 e10 e11 hz1 hpw hfs hfz
        tm_at "r"
        refine w_iteF (by decide +kernel) ?_
        tm_at "r"
        refine ⟨r, n, 1 + x, rfl, J.lg.row, hn1, hn2, fun v d H12 e12 hv => ?_⟩
        have J := J.ext e12
        clear e12
        tm_at "r"
        refine ⟨J.lg.tab, fun f1 Ha eHa tHa _ lam1 => ?_⟩
        have J := J.lam eHa tHa
        clear eHa tHa
        tm_at "r"
        refine ⟨J.lg.tab, fun f2 Hb eHb tHb _ lam2 => ?_⟩
        have J := J.lam eHb tHb
        have lam1 := lam_lam lam1 eHb
        clear eHb tHb
        tm_at "r"
        refine ⟨J.lg.tab, fun f3 Hc eHc tHc _ lam3 => ?_⟩
        have J := J.lam eHc tHc
        have lam1 := lam_lam lam1 eHc
        have lam2 := lam_lam lam2 eHc
        clear eHc tHc
        tm_at "r"
        intro p1 Hd _ eHd hp1
        have hp1 : Hd p1 = some (.lst ([f1, f2, f3].map V.ref)) := hp1
        have J := J.ext eHd
        have lam1 := lam_ext lam1 eHd
        have lam2 := lam_ext lam2 eHd
        have lam3 := lam_ext lam3 eHd
        clear eHd
        tm_at "r"
        refine ⟨J.lg.tab, fun f4 He eHe tHe _ lam4 => ?_⟩
        have J := J.lam eHe tHe
        have lam1 := lam_lam lam1 eHe
        have lam2 := lam_lam lam2 eHe
        have lam3 := lam_lam lam3 eHe
        have hp1 := eHe _ _ hp1 (fun ps q => by cases q)
        clear eHe tHe
        tm_at "r"
        refine ⟨J.lg.tab, fun f5 Hf eHf tHf _ lam5 => ?_⟩
        have J := J.lam eHf tHf
        have lam1 := lam_lam lam1 eHf
        have lam2 := lam_lam lam2 eHf
        have lam3 := lam_lam lam3 eHf
        have lam4 := lam_lam lam4 eHf
        have hp1 := eHf _ _ hp1 (fun ps q => by cases q)
        clear eHf tHf
        tm_at "r"
        intro p2 Hg _ eHg hp2
        have hp2 : Hg p2 = some (.lst ([f4, f5].map V.ref)) := hp2
        have J := J.ext eHg
        have lam1 := lam_ext lam1 eHg
        have lam2 := lam_ext lam2 eHg
        have lam3 := lam_ext lam3 eHg
        have lam4 := lam_ext lam4 eHg
        have lam5 := lam_ext lam5 eHg
        have hp1 := eHg.st _ _ hp1 (nsh_refs _)
        refine w_cat hp1 hp2 (by show 3 + 2 ≤ 100000; decide) fun p3 Hh hp3n eHh hp3 => ?_
        have hp3 : Hh p3 = some (.lst ([f1, f2, f3, f4, f5].map V.ref)) := hp3
        have J0 := J
        have J := J.ext eHh
        have lam1 := lam_ext lam1 eHh
        have lam2 := lam_ext lam2 eHh
        have lam3 := lam_ext lam3 eHh
        have lam4 := lam_ext lam4 eHh
        have lam5 := lam_ext lam5 eHh
        clear eHg hp1 hp2
        tm_at "r"
        refine w_tyL (SqL.of hp3) ?_
        tm_at "r"
        refine ⟨J.lg.tab, fun f6 Hi eHi tHi _ lam6 => ?_⟩
        have lam1 := lam_lam lam1 eHi
        have lam2 := lam_lam lam2 eHi
        have lam3 := lam_lam lam3 eHi
        have lam4 := lam_lam lam4 eHi
        have lam5 := lam_lam lam5 eHi
        have hp3 := eHi _ _ hp3 (fun ps q => by cases q)
        have J := J0.stp (stepN_mutL (ys := [f1, f2, f3, f4, f5].map V.ref ++ [.ref f6]) ((StepN.ofExt eHh).trans (StepN.lam eHi tHi)) hp3n hp3)
        have lam1 := lam_upd (ys := [f1, f2, f3, f4, f5].map V.ref ++ [.ref f6]) lam1 hp3
        have lam2 := lam_upd (ys := [f1, f2, f3, f4, f5].map V.ref ++ [.ref f6]) lam2 hp3
        have lam3 := lam_upd (ys := [f1, f2, f3, f4, f5].map V.ref ++ [.ref f6]) lam3 hp3
        have lam4 := lam_upd (ys := [f1, f2, f3, f4, f5].map V.ref ++ [.ref f6]) lam4 hp3
        have lam5 := lam_upd (ys := [f1, f2, f3, f4, f5].map V.ref ++ [.ref f6]) lam5 hp3
        have lam6 := lam_upd (ys := [f1, f2, f3, f4, f5].map V.ref ++ [.ref f6]) lam6 hp3
        tm_at "r"
        refine w_append hp3 (by show 5 < 100000; decide) ?_
        have hp4 : upd Hi p3 (.lst ([f1, f2, f3, f4, f5].map V.ref ++ [.ref f6])) p3 = some (.lst ([f1, f2, f3, f4, f5, f6].map V.ref)) := upd_same
        clear J0 hp3 eHi tHi eHh hp3n
        generalize upd Hi p3 (.lst ([f1, f2, f3, f4, f5].map V.ref ++ [.ref f6])) = Hk at J lam1 lam2 lam3 lam4 lam5 lam6 hp4 ⊢
        have sp4 : SqL K Hk p3 ([f1, f2, f3, f4, f5, f6].map V.ref) := SqL.of hp4
        have wordN : ∀ (H : Hp) (Q : VK), (∀ H', Ext H H' → Q (.str "number") H') → WordOk g (.ref g.c_BadNumber) none H Q := fun H Q k => ⟨1, g.c_BadNumber, "number", rfl, rfl, by decide, by decide, by decide, rfl, rfl, k⟩
        have hwid : (newW n ls).width = n := rfl
        have noStr : ∀ x, d = .str (B x) → x.length = (newW n ls).width → False := fun x e1 e2 => by
          have := hv.2.2
          rw [e1, numD_bits, decide_eq_true (e2.trans hwid)] at this
          cases this
        tm_at "r"
        refine lcFx (bs := [f1, f2, f3, f4, f5, f6]) (gv := V.ref) (fun _ => false) sp4 nsh_refs (by show 6 ≤ 100000; decide) (fun _ => rfl) (fun b H' NF NE hb e kF kE => ?_) fun D2 H12 _ e12 hD2 => ?_
        · have J := J.ext e
          have hb : b = f1 ∨ b = f2 ∨ b = f3 ∨ b = f4 ∨ b = f5 ∨ b = f6 := by simpa using hb
          rcases hb with rfl | rfl | rfl | rfl | rfl | rfl
          · tm_at "r"
            refine ⟨_, rfl, b, _, rfl, lam_ext lam1 e, ?_⟩
            refine w_word ?_
            tm_at "r"
            refine w_meOk J.W.ob (by kernel_rfl) ?_
            tm_at "r"
            refine ⟨a, dx, t, _, newW n ls, v, d, rfl, J.W, ok, by omega, hv.1 _, hv.2.1, fun _ H3 e3 => ?_, fun x e1 e2 => absurd (noStr x e1 e2) id, fun x _ e1 e2 => absurd (noStr x e1 e2) id⟩
            refine wordN _ _ fun H4 e4 => ?_
            tm_at "r"
            refine w_iteF (by decide +kernel) ?_
            exact kF rfl H4 (e3.trans e4)
          · tm_at "r"
            refine ⟨_, rfl, b, _, rfl, lam_ext lam2 e, ?_⟩
            refine w_word ?_
            tm_at "r"
            refine w_meOk J.W.ob (by kernel_rfl) ?_
            tm_at "r"
            refine ⟨a, dx, t, _, newW n ls, v, d, rfl, J.W, ok, hv.1 _, hv.2.1, fun _ H3 e3 => ?_, fun x e1 e2 => absurd (noStr x e1 e2) id, fun x _ e1 e2 => absurd (noStr x e1 e2) id⟩
            refine wordN _ _ fun H4 e4 => ?_
            tm_at "r"
            refine w_iteF (by decide +kernel) ?_
            exact kF rfl H4 (e3.trans e4)
          · tm_at "r"
            refine ⟨_, rfl, b, _, rfl, lam_ext lam3 e, ?_⟩
            refine w_word ?_
            tm_at "r"
            refine w_meOk J.W.ob (by kernel_rfl) ?_
            tm_at "r"
            refine ⟨a, dx, t, _, newW n ls, v, d, rfl, J.W, ok, hv.1 _, hv.2.1, fun _ H3 e3 => ?_, fun x e1 e2 => absurd (noStr x e1 e2) id, fun x _ e1 e2 => absurd (noStr x e1 e2) id⟩
            refine wordN _ _ fun H4 e4 => ?_
            tm_at "r"
            refine w_iteF (by decide +kernel) ?_
            exact kF rfl H4 (e3.trans e4)
          · tm_at "r"
            refine ⟨_, rfl, b, _, rfl, lam_ext lam4 e, ?_⟩
            refine w_word ?_
            tm_at "r"
            refine w_meOk J.W.ob (by kernel_rfl) ?_
            tm_at "r"
            refine ⟨a, dx, t, _, newW n ls, v, d, rfl, J.W, ok, hv.1 _, hv.2.1, fun _ H3 e3 => ?_, fun x e1 e2 => absurd (noStr x e1 e2) id, fun x _ e1 e2 => absurd (noStr x e1 e2) id⟩
            refine wordN _ _ fun H4 e4 => ?_
            tm_at "r"
            refine w_iteF (by decide +kernel) ?_
            exact kF rfl H4 (e3.trans e4)
          · tm_at "r"
            refine ⟨_, rfl, b, _, rfl, lam_ext lam5 e, ?_⟩
            refine w_word ?_
            tm_at "r"
            intro q1 H1 _ e1 hq1
            refine w_cat (e1.st _ _ J.nm (nsh_bvs _)) hq1 (by rw [bvs_len]; show _ + 2 ≤ _; omega) fun q2 H2 _ e2 hq2 => ?_
            tm_at "r"
            refine ⟨n, q2, ls, v, d, rfl, ⟨hn1, hn2⟩, SqL.of hq2, hls, by omega, ⟨hv.1, hv.2.1, hv.2.2⟩, fun H3 e3 => ?_⟩
            refine wordN _ _ fun H4 e4 => ?_
            tm_at "r"
            refine w_iteF (by decide +kernel) ?_
            exact kF rfl H4 (((e1.trans e2).trans e3).trans e4)
          · tm_at "r"
            refine ⟨_, rfl, b, _, rfl, lam_ext lam6 e, ?_⟩
            refine w_word ?_
            tm_at "r"
            intro q1 H1 _ e1 hq1
            refine w_cat (e1.st _ _ J.nm (nsh_bvs _)) hq1 (by rw [bvs_len]; show _ + 2 ≤ _; omega) fun q2 H2 _ e2 hq2 => ?_
            tm_at "r"
            refine ⟨n, q2, ls, v, d, rfl, ⟨hn1, hn2⟩, SqL.of hq2, hls, by omega, ⟨hv.1, hv.2.1, hv.2.2⟩, fun H3 e3 => ?_⟩
            refine wordN _ _ fun H4 e4 => ?_
            tm_at "r"
            refine w_iteF (by decide +kernel) ?_
            exact kF rfl H4 (((e1.trans e2).trans e3).trans e4)
        · have J := J.ext e12
          have hD2 : H12 D2 = some (.lst (bvs [])) := hD2
          tm_at "r"
          intro z2 H13 _ e13 hz2
          have hz2 : H13 z2 = some (.lst (bvs [])) := hz2
          have J := J.ext e13
          refine w_neLs (SqL.of (e13.st _ _ hD2 nsh_nil)) (SqL.of hz2) ?_
          clear hD2 e12 e13 hz2 lam1 lam2 lam3 lam4 lam5 lam6 sp4 hp4 noStr hv
          tm_at "r"
          refine w_iteF (by decide +kernel) ?_
          tm_at "r"
          refine u_number J.lg.row (by omega) (by omega) fun y H14 hy e14 => ?_
          have J := J.ext e14
          have hyl : y.length = n := by omega
          clear e14
          refine w_gname ?_
          tm_at "q"
          refine scut (fun σ1 H1 => (∃ v9' : Option V, σ1 = [some (.ref a0), some (.ref r), some (.int (0 + (i_ : Int))), some (.int (n : Int)), some (.ref pn), some (.ref a), some (.int (1 + x)), some bad, some v, v9', some (.str (B y)), v11, v12]) ∧ In01 K TT z0 r pn CW a dx t l n ls H1) ?_ (fun tail => ?_)
          rotate_left
          · tm_at "r"
            refine w_in (SqL.of J.nm) rfl (bvs_flat _) ?_
            rw [inV_bvs]
            tm_at "r"
            refine w_iteB (fun c1 => ?_) fun c1 => ?_
            · have c1 : y ∈ ls := by simpa using c1
              tm_at "r"
              refine ⟨J.lg.tab, fun f1 H15 e15 t15 _ lam1 => ⟨f1, _, rfl, lam1, ?_⟩⟩
              have J := J.lam e15 t15
              refine w_word ?_
              tm_at "r"
              refine w_meOk J.W.ob (by kernel_rfl) ?_
              tm_at "r"
              refine ⟨a, dx, t, _, newW n ls, .str (B y), .str (B y), rfl, J.W, ok, by omega, .str _, okD_bits (by omega), fun h => absurd (numD_bits y n) (by rw [show numD ((n : Nat) : Int) (.str (B y)) = false from h, decide_eq_true hyl]; decide), fun x' ex _ hx H16 e16 => ?_, fun x' _ ex _ hx => absurd (by rw [hkeys]; rw [← B_inj (PyData.str.inj ex)]; exact c1) hx⟩
              refine ⟨4, g.c_There, "there", rfl, rfl, by decide, by decide, by decide, rfl, rfl, fun H17 e17 => ?_⟩
              have J := (J.ext e16).ext e17
              tm_at "r"
              refine w_iteF (by decide +kernel) ?_
              exact tail _ _ ⟨⟨_, rfl⟩, J⟩
            · have c1 : y ∉ ls := by simpa using c1
              tm_at "r"
              refine ⟨J.lg.tab, fun f1 Ha ea ta _ lam1 => ?_⟩
              have J := J.lam ea ta
              clear ea ta
              tm_at "r"
              refine ⟨J.lg.tab, fun f2 Hb eb tb _ lam2 => ?_⟩
              have J := J.lam eb tb
              have lam1 := lam_lam lam1 eb
              clear eb tb
              tm_at "r"
              refine ⟨J.lg.tab, fun f3 Hc ec tc _ lam3 => ?_⟩
              have J := J.lam ec tc
              have lam1 := lam_lam lam1 ec
              have lam2 := lam_lam lam2 ec
              clear ec tc
              tm_at "r"
              intro p5 Hd _ ed hp5
              have J := J.ext ed
              have lam1 := lam_ext lam1 ed
              have lam2 := lam_ext lam2 ed
              have lam3 := lam_ext lam3 ed
              have sp5 : SqL K Hd p5 ([f1, f2, f3].map V.ref) := SqL.of hp5
              clear ed
              have wordT : ∀ (H : Hp) (Q : VK), (∀ H', Ext H H' → Q (.str "not") H') → WordOk g (.ref g.c_NotThere) none H Q := fun H Q k => ⟨5, g.c_NotThere, "not", rfl, rfl, by decide, by decide, by decide, rfl, rfl, k⟩
              have isN : ∀ {P : Prop}, numD ((newW n ls).width : Int) (.str (B y)) = false → P := fun h => absurd (numD_bits y n) (by rw [show numD ((n : Nat) : Int) (.str (B y)) = false from h, decide_eq_true hyl]; decide)
              have notK : ∀ {P : Prop} {x : Bits}, PyData.str (B y) = .str (B x) → x ∈ (newW n ls).keys → P := fun ex hx => absurd (by rw [hkeys, ← B_inj (PyData.str.inj ex)] at hx; exact hx) c1
              tm_at "r"
              refine lcFx (bs := [f1, f2, f3]) (gv := V.ref) (fun _ => false) sp5 nsh_refs (by show 3 ≤ 100000; decide) (fun _ => rfl) (fun b H' NF NE hb e kF kE => ?_) fun D2 He _ ee hD2 => ?_
              · have J := J.ext e
                have hb : b = f1 ∨ b = f2 ∨ b = f3 := by simpa using hb
                rcases hb with rfl | rfl | rfl
                · tm_at "r"
                  refine ⟨_, rfl, b, _, rfl, lam_ext lam1 e, ?_⟩
                  refine w_word ?_
                  tm_at "r"
                  refine w_meOk J.W.ob (by kernel_rfl) ?_
                  tm_at "r"
                  refine ⟨a, dx, t, _, newW n ls, .str (B y), .str (B y), rfl, J.W, ok, .str _, okD_bits (by omega), fun h => isN h, fun x' ex _ hx H3 e3 => ?_, fun x' _ ex _ hx => notK ex hx⟩
                  refine wordT _ _ fun H4 e4 => ?_
                  tm_at "r"
                  refine w_iteF (by decide +kernel) ?_
                  exact kF rfl H4 (e3.trans e4)
                · tm_at "r"
                  refine ⟨_, rfl, b, _, rfl, lam_ext lam2 e, ?_⟩
                  refine w_word ?_
                  tm_at "r"
                  refine w_meOk J.W.ob (by kernel_rfl) ?_
                  tm_at "r"
                  refine ⟨a, dx, t, _, newW n ls, .str (B y), .str (B y), rfl, J.W, ok, .str _, okD_bits (by omega), fun h => isN h, fun x' ex _ hx H3 e3 => ?_, fun x' _ ex _ hx => notK ex hx⟩
                  refine wordT _ _ fun H4 e4 => ?_
                  tm_at "r"
                  refine w_iteF (by decide +kernel) ?_
                  exact kF rfl H4 (e3.trans e4)
                · tm_at "r"
                  refine ⟨_, rfl, b, _, rfl, lam_ext lam3 e, ?_⟩
                  refine w_word ?_
                  tm_at "r"
                  refine w_meOk J.W.ob (by kernel_rfl) ?_
                  tm_at "r"
                  refine ⟨a, dx, t, _, newW n ls, .str (B y), .str (B y), rfl, J.W, ok, .str _, okD_bits (by omega), fun h => isN h, fun x' ex _ hx H3 e3 => ?_, fun x' _ ex _ hx => notK ex hx⟩
                  refine wordT _ _ fun H4 e4 => ?_
                  tm_at "r"
                  refine w_iteF (by decide +kernel) ?_
                  exact kF rfl H4 (e3.trans e4)
              · have J := J.ext ee
                have hD2 : He D2 = some (.lst (bvs [])) := hD2
                tm_at "r"
                intro z3 Hf _ ef hz3
                have hz3 : Hf z3 = some (.lst (bvs [])) := hz3
                have J := J.ext ef
                refine w_neLs (SqL.of (ef.st _ _ hD2 nsh_nil)) (SqL.of hz3) ?_
                tm_at "r"
                refine w_iteF (by decide +kernel) ?_
                exact tail _ _ ⟨⟨_, rfl⟩, J⟩
          · rintro σ1 H14' ⟨⟨v9', rfl⟩, J'⟩
            have J := J'
            clear J'
            tm_at "r"
            intro pk H15 _ e15 hpk
            have J := J.ext e15
            tm_at "r"
            refine u_taken J.lg.row (by omega) (by omega) fun z H16 hz0 hz1 e16 => ?_
            have J := J.ext e16
            obtain ⟨kd, hat, hkd⟩ : ∃ kd : Str, atI [V.str (Str.ofString "All"), V.str (Str.ofString ""), V.str (Str.ofString "alarms"), V.str (Str.ofString "al"), V.str (Str.ofString "alarm ")] z = some (.str kd) ∧ ¬ (kd = "all" ∨ kd = "alarm") := by
              have : z = 0 ∨ z = 1 ∨ z = 2 ∨ z = 3 ∨ z = 4 := by omega
              rcases this with rfl | rfl | rfl | rfl | rfl <;> exact ⟨_, rfl, by decide +kernel⟩
            refine w_ixL (v := .str kd) (SqL.of (e16.st _ _ hpk (nsh_of fun a i m z e => by cases e))) hat ?_
            clear e15 e16 hpk hat hz0 hz1
            have wordK : ∀ (H : Hp) (Q : VK), (∀ H', Ext H H' → Q (.str "kind") H') → WordOk g (.ref g.c_BadKind) none H Q := fun H Q k => ⟨2, g.c_BadKind, "kind", rfl, rfl, by decide, by decide, by decide, rfl, rfl, k⟩
            tm_at "r"
            refine ⟨J.lg.tab, fun f1 Ha ea ta _ lam1 => ⟨f1, _, rfl, lam1, ?_⟩⟩
            have J := J.lam ea ta
            refine w_word ?_
            tm_at "r"
            refine w_meOk J.W.ob (by kernel_rfl) ?_
            tm_at "r"
            refine ⟨a, dx, t, _, newW n ls, kd, rfl, J.W, ok, fun _ => ?_, fun l' H' h => absurd h hkd⟩
            refine wordK _ _ fun Hb eb => ?_
            have J := J.ext eb
            tm_at "r"
            refine ⟨J.lg.tab, fun f2 Hc ec tc _ lam2 => ⟨f2, _, rfl, lam2, ?_⟩⟩
            have J := J.lam ec tc
            refine w_word ?_
            tm_at "r"
            refine w_make ?_
            tm_at "r"
            intro k2 dk2 hk hdk hne
            have ex := ext_make (C := CK) hk hdk hne
            refine ⟨k2, a, dk2, kd, rfl, upd_same, fun _ => ?_, fun c r n s H' e => absurd (by rw [e]; exact kindS_or c) hkd⟩
            refine wordK _ _ fun Hd ed => ?_
            have J := J.ext (ex.trans ed)
            tm_at "r"
            intro l4 He _ ee hl4
            have J := J.ext ee
            tm_at "r"
            intro l5 Hf _ ef hl5
            have J := J.ext ef
            have hd1 : Dp K Hf (.ref l4) (.list [.str "kind", .str "kind"]) := .lst (SqL.of (ef.st _ _ hl4 (nsh_of fun a i m z e => by cases e))) (.cons (.str _) (.cons (.str _) .nil))
            have hd2 : Dp K Hf (.ref l5) (.list [.str "kind", .str "kind"]) := .lst (SqL.of hl5) (.cons (.str _) (.cons (.str _) .nil))
            refine w_neDb (b := true) hd1 hd2 (by decide +kernel) (by decide +kernel) (by decide +kernel) ?_
            clear hd1 hd2 hl4 hl5 lam1 lam2 ea ta eb ec tc ex ed ee ef hk hdk hne
            tm_at "r"
            tm_at "b"
            tm_at "r"
            refine w_meOk J.W.ob (by kernel_rfl) ?_
            tm_at "r"
            refine ⟨a, dx, t, _, newW n ls, rfl, J.W, ok, fun p6 ls6 Hg _ eg hp6 hr6 hm6 => ?_⟩
            have e6 : ls6 = ls := rise_ext hr6 hlr fun x => by rw [hm6.mem_iff, hkeys]
            subst e6
            have J := J.ext eg
            tm_at "r"
            refine w_meOk J.W.ob (by kernel_rfl) ?_
            tm_at "r"
            refine ⟨a, dx, t, _, newW n ls6, rfl, J.W, ok, fun p7 ls7 Hh _ eh hp7 _ hm7 => ?_⟩
            have e7 : ls7 = [] := by
              have : ((newW n ls6).things.filter fun p => p.2).map (·.1) = [] := by
                show ((ls6.map fun x => (x, false)).filter fun p => p.2).map (·.1) = []
                rw [List.filter_map]
                simp
              rw [this] at hm7
              exact hm7.eq_nil
            subst e7
            have J := J.ext eh
            have hp6 := eh.st _ _ hp6 (nsh_bvs _)
            tm_at "r"
            refine w_meOk J.W.ob (by kernel_rfl) ?_
            tm_at "r"
            refine ⟨a, dx, t, _, newW n ls6, rfl, J.W, ?_⟩
            tm_at "r"
            intro p8 Hi _ ei hp8
            have J := J.ext ei
            tm_at "r"
            intro p9 Hj _ ej hp9
            have J := J.ext ej
            tm_at "r"
            intro p10 Hk _ ek hp10
            have J := J.ext ek
            have eik := (ei.trans ej).trans ek
            have hq8 := (ej.trans ek).st _ _ hp8 (nsh_of fun a i m z e => by cases e)
            have hp9 : Hj p9 = some (.lst (bvs [])) := hp9
            have d1 := dq_three (K := K) (m := 0) hq8 (eik.st _ _ hp6 (nsh_bvs _)) (eik.st _ _ hp7 (nsh_bvs _)) (by omega) (by simp)
            have d2 := dq_three (K := K) (m := 0) hp10 J.nm (ek.st _ _ hp9 (nsh_bvs _)) (by omega) (by simp)
            tm_at "r"
            refine u_alike d1 d2 (dpt_three _ _ _) fun Hl el => ?_
            have J := J.ext el
            clear d1 d2 hq8 hp8 hp9 hp10 hp6 hp7 ei ej ek el eik eg eh
            tm_at "r"
            tm_at "b"
            tm_at "r"
            refine ⟨r, a, dx, t, l, newW n ls6, 1 + x, rfl, J.lg.row, J.lg.tab, J.W, ok, rfl, rfl, htz, by omega, by omega, fun F' Hm sm => ?_⟩
            have lg := J.lg.stepN sm J.W.al3
            tm_at "r"
            tm_at "b"
            exact kN _ _ rfl lg
    · rintro σ H7 ⟨⟨v, hv, rfl⟩, lg⟩
      tm_at "r"
      exact kD _ lg
end
end My
end

section
/-! a dict of the top told by a Bool -/
namespace Hr
open PySem PySem.Spec PyProof.Rows L2 He Lw
end Hr
end

section
set_option pp.maxSteps 700
namespace My
open PySem L2 Lw PyProof.Rows
theorem all_mk {l : PySem.W.OpenLaw} {w : World} {K : PySem.W.Frag} {h : Heap} {mg : Str → Option Value} {fa c_Wire c_Walk c_Day f_law_taken f_law_width f_law_number f_law_near f_law_things f_need_width f_Wire___init f_are_bits f_is_number f_need_number f_Wire_hang f_law_made f_met f_fewest f_shown f_need_roster f_judged f_least f_plan_of f_follows f_Day___init f_played f_law_wide cd_law_wide P_law_wide f_law_odd f_Wire_need_round f_look_at f_Wire_look f_Wire_say f_need_kind f_Wire_begin f_Wire_looks f_Walk___init f_Walk_say f_Walk_ended f_Walk_begin f_Walk_step f_Walk_go_round f_Walk_found f_Walk_go_all f_law_rounds cd_law_rounds P_law_rounds f_law_alike f_Wire_need_thing f_Wire_off f_Wire_alarm f_Wire_calm f_Wire_hung f_Wire_alarms f_law cd_law P_law f_law_word e_BusError e_BadWidth e_BadNumber e_BadKind e_BadBit e_There e_NotThere e_NoRound e_Over e_Busy e_BadLooks e_BadRoster e_TooMany e_BadPlan e_BadStep e_BadText a_KINDS : Addr} {ts : List Addr} (X : K.In h) (G : h.Ns mainGlobals mg) (hts : ∀ P ∈ ts, h.get? P = some (PySem.W.tabObj #[])) (hfa : mg "law" = some (.ref fa))
    {od_law_taken an_law_taken : Option Addr} {sl_law_taken : Array (Option Value)} {oc_law_taken kV_law_taken dc_law_taken pm_law_taken ct_law_taken cd_law_taken : Value}
    {od_law_width an_law_width : Option Addr} {sl_law_width : Array (Option Value)} {oc_law_width kV_law_width dc_law_width pm_law_width ct_law_width cd_law_width : Value}
    {od_law_number an_law_number : Option Addr} {sl_law_number : Array (Option Value)} {oc_law_number kV_law_number dc_law_number pm_law_number ct_law_number cd_law_number : Value}
    {od_law_near an_law_near : Option Addr} {sl_law_near : Array (Option Value)} {oc_law_near kV_law_near dc_law_near pm_law_near ct_law_near cd_law_near : Value}
    {od_law_things an_law_things : Option Addr} {sl_law_things : Array (Option Value)} {oc_law_things kV_law_things dc_law_things pm_law_things ct_law_things cd_law_things : Value}
    {od_need_width an_need_width : Option Addr} {sl_need_width : Array (Option Value)} {oc_need_width kV_need_width dc_need_width pm_need_width ct_need_width cd_need_width : Value}
    {od_Wire___init an_Wire___init : Option Addr} {sl_Wire___init : Array (Option Value)} {oc_Wire___init kV_Wire___init dc_Wire___init pm_Wire___init ct_Wire___init cd_Wire___init : Value}
    {od_are_bits an_are_bits : Option Addr} {sl_are_bits : Array (Option Value)} {oc_are_bits kV_are_bits dc_are_bits pm_are_bits ct_are_bits cd_are_bits : Value}
    {od_is_number an_is_number : Option Addr} {sl_is_number : Array (Option Value)} {oc_is_number kV_is_number dc_is_number pm_is_number ct_is_number cd_is_number : Value}
    {od_need_number an_need_number : Option Addr} {sl_need_number : Array (Option Value)} {oc_need_number kV_need_number dc_need_number pm_need_number ct_need_number cd_need_number : Value}
    {od_Wire_hang an_Wire_hang : Option Addr} {sl_Wire_hang : Array (Option Value)} {oc_Wire_hang kV_Wire_hang dc_Wire_hang pm_Wire_hang ct_Wire_hang cd_Wire_hang : Value}
    {od_law_made an_law_made : Option Addr} {sl_law_made : Array (Option Value)} {oc_law_made kV_law_made dc_law_made pm_law_made ct_law_made cd_law_made : Value}
    {od_met an_met : Option Addr} {sl_met : Array (Option Value)} {oc_met kV_met dc_met pm_met ct_met cd_met : Value}
    {od_fewest an_fewest : Option Addr} {sl_fewest : Array (Option Value)} {oc_fewest kV_fewest dc_fewest pm_fewest ct_fewest cd_fewest : Value}
    {od_shown an_shown : Option Addr} {sl_shown : Array (Option Value)} {oc_shown kV_shown dc_shown pm_shown ct_shown cd_shown : Value}
    {od_need_roster an_need_roster : Option Addr} {sl_need_roster : Array (Option Value)} {oc_need_roster kV_need_roster dc_need_roster pm_need_roster ct_need_roster cd_need_roster : Value}
    {od_judged an_judged : Option Addr} {sl_judged : Array (Option Value)} {oc_judged kV_judged dc_judged pm_judged ct_judged cd_judged : Value}
    {od_least an_least : Option Addr} {sl_least : Array (Option Value)} {oc_least kV_least dc_least pm_least ct_least cd_least : Value}
    {od_plan_of an_plan_of : Option Addr} {sl_plan_of : Array (Option Value)} {oc_plan_of kV_plan_of dc_plan_of pm_plan_of ct_plan_of cd_plan_of : Value}
    {od_follows an_follows : Option Addr} {sl_follows : Array (Option Value)} {oc_follows kV_follows dc_follows pm_follows ct_follows cd_follows : Value}
    {od_Day___init an_Day___init : Option Addr} {sl_Day___init : Array (Option Value)} {oc_Day___init kV_Day___init dc_Day___init pm_Day___init ct_Day___init cd_Day___init : Value}
    {od_played an_played : Option Addr} {sl_played : Array (Option Value)} {oc_played kV_played dc_played pm_played ct_played cd_played : Value}
    {od_law_wide an_law_wide : Option Addr} {sl_law_wide : Array (Option Value)} {oc_law_wide kV_law_wide dc_law_wide pm_law_wide ct_law_wide : Value}
    {od_law_odd an_law_odd : Option Addr} {sl_law_odd : Array (Option Value)} {oc_law_odd kV_law_odd dc_law_odd pm_law_odd ct_law_odd cd_law_odd : Value}
    {od_Wire_need_round an_Wire_need_round : Option Addr} {sl_Wire_need_round : Array (Option Value)} {oc_Wire_need_round kV_Wire_need_round dc_Wire_need_round pm_Wire_need_round ct_Wire_need_round cd_Wire_need_round : Value}
    {od_look_at an_look_at : Option Addr} {sl_look_at : Array (Option Value)} {oc_look_at kV_look_at dc_look_at pm_look_at ct_look_at cd_look_at : Value}
    {od_Wire_look an_Wire_look : Option Addr} {sl_Wire_look : Array (Option Value)} {oc_Wire_look kV_Wire_look dc_Wire_look pm_Wire_look ct_Wire_look cd_Wire_look : Value}
    {od_Wire_say an_Wire_say : Option Addr} {sl_Wire_say : Array (Option Value)} {oc_Wire_say kV_Wire_say dc_Wire_say pm_Wire_say ct_Wire_say cd_Wire_say : Value}
    {od_need_kind an_need_kind : Option Addr} {sl_need_kind : Array (Option Value)} {oc_need_kind kV_need_kind dc_need_kind pm_need_kind ct_need_kind cd_need_kind : Value}
    {od_Wire_begin an_Wire_begin : Option Addr} {sl_Wire_begin : Array (Option Value)} {oc_Wire_begin kV_Wire_begin dc_Wire_begin pm_Wire_begin ct_Wire_begin cd_Wire_begin : Value}
    {od_Wire_looks an_Wire_looks : Option Addr} {sl_Wire_looks : Array (Option Value)} {oc_Wire_looks kV_Wire_looks dc_Wire_looks pm_Wire_looks ct_Wire_looks cd_Wire_looks : Value}
    {od_Walk___init an_Walk___init : Option Addr} {sl_Walk___init : Array (Option Value)} {oc_Walk___init kV_Walk___init dc_Walk___init pm_Walk___init ct_Walk___init cd_Walk___init : Value}
    {od_Walk_say an_Walk_say : Option Addr} {sl_Walk_say : Array (Option Value)} {oc_Walk_say kV_Walk_say dc_Walk_say pm_Walk_say ct_Walk_say cd_Walk_say : Value}
    {od_Walk_ended an_Walk_ended : Option Addr} {sl_Walk_ended : Array (Option Value)} {oc_Walk_ended kV_Walk_ended dc_Walk_ended pm_Walk_ended ct_Walk_ended cd_Walk_ended : Value}
    {od_Walk_begin an_Walk_begin : Option Addr} {sl_Walk_begin : Array (Option Value)} {oc_Walk_begin kV_Walk_begin dc_Walk_begin pm_Walk_begin ct_Walk_begin cd_Walk_begin : Value}
    {od_Walk_step an_Walk_step : Option Addr} {sl_Walk_step : Array (Option Value)} {oc_Walk_step kV_Walk_step dc_Walk_step pm_Walk_step ct_Walk_step cd_Walk_step : Value}
    {od_Walk_go_round an_Walk_go_round : Option Addr} {sl_Walk_go_round : Array (Option Value)} {oc_Walk_go_round kV_Walk_go_round dc_Walk_go_round pm_Walk_go_round ct_Walk_go_round cd_Walk_go_round : Value}
    {od_Walk_found an_Walk_found : Option Addr} {sl_Walk_found : Array (Option Value)} {oc_Walk_found kV_Walk_found dc_Walk_found pm_Walk_found ct_Walk_found cd_Walk_found : Value}
    {od_Walk_go_all an_Walk_go_all : Option Addr} {sl_Walk_go_all : Array (Option Value)} {oc_Walk_go_all kV_Walk_go_all dc_Walk_go_all pm_Walk_go_all ct_Walk_go_all cd_Walk_go_all : Value}
    {od_law_rounds an_law_rounds : Option Addr} {sl_law_rounds : Array (Option Value)} {oc_law_rounds kV_law_rounds dc_law_rounds pm_law_rounds ct_law_rounds : Value}
    {od_law_alike an_law_alike : Option Addr} {sl_law_alike : Array (Option Value)} {oc_law_alike kV_law_alike dc_law_alike pm_law_alike ct_law_alike cd_law_alike : Value}
    {od_Wire_need_thing an_Wire_need_thing : Option Addr} {sl_Wire_need_thing : Array (Option Value)} {oc_Wire_need_thing kV_Wire_need_thing dc_Wire_need_thing pm_Wire_need_thing ct_Wire_need_thing cd_Wire_need_thing : Value}
    {od_Wire_off an_Wire_off : Option Addr} {sl_Wire_off : Array (Option Value)} {oc_Wire_off kV_Wire_off dc_Wire_off pm_Wire_off ct_Wire_off cd_Wire_off : Value}
    {od_Wire_alarm an_Wire_alarm : Option Addr} {sl_Wire_alarm : Array (Option Value)} {oc_Wire_alarm kV_Wire_alarm dc_Wire_alarm pm_Wire_alarm ct_Wire_alarm cd_Wire_alarm : Value}
    {od_Wire_calm an_Wire_calm : Option Addr} {sl_Wire_calm : Array (Option Value)} {oc_Wire_calm kV_Wire_calm dc_Wire_calm pm_Wire_calm ct_Wire_calm cd_Wire_calm : Value}
    {od_Wire_hung an_Wire_hung : Option Addr} {sl_Wire_hung : Array (Option Value)} {oc_Wire_hung kV_Wire_hung dc_Wire_hung pm_Wire_hung ct_Wire_hung cd_Wire_hung : Value}
    {od_Wire_alarms an_Wire_alarms : Option Addr} {sl_Wire_alarms : Array (Option Value)} {oc_Wire_alarms kV_Wire_alarms dc_Wire_alarms pm_Wire_alarms ct_Wire_alarms cd_Wire_alarms : Value}
    {od_law an_law : Option Addr} {sl_law : Array (Option Value)} {oc_law kV_law dc_law pm_law ct_law : Value}
    {od_law_word an_law_word : Option Addr} {sl_law_word : Array (Option Value)} {oc_law_word kV_law_word dc_law_word pm_law_word ct_law_word cd_law_word : Value} {j_FOUND j_LOST j_MOST_WIDTH : Tok}
    (n_Wire : PySem.W.nsIn K mainGlobals "Wire" = some (some (.ref c_Wire)))
    (n_Walk : PySem.W.nsIn K mainGlobals "Walk" = some (some (.ref c_Walk)))
    (n_Day : PySem.W.nsIn K mainGlobals "Day" = some (some (.ref c_Day)))
    (a_law_taken : PySem.W.nsIn K mainGlobals "_law_taken" = some (some (.ref f_law_taken)))
    (l_law_taken : K.lookup f_law_taken = some ⟨oc_law_taken, od_law_taken, .func (PySem.W.fnOf "_law_taken" "_law_taken" (defArgs s_law_taken) (defBody s_law_taken) (defScope s_law_taken) .none kV_law_taken dc_law_taken pm_law_taken an_law_taken cd_law_taken ct_law_taken), sl_law_taken⟩)
    (d_law_taken : PySem.W.codeIn K cd_law_taken "_law_taken" = true)
    (k_law_taken : PySem.W.keepIn K (.ref f_law_taken) = true)
    (a_law_width : PySem.W.nsIn K mainGlobals "_law_width" = some (some (.ref f_law_width)))
    (l_law_width : K.lookup f_law_width = some ⟨oc_law_width, od_law_width, .func (PySem.W.fnOf "_law_width" "_law_width" (defArgs s_law_width) (defBody s_law_width) (defScope s_law_width) .none kV_law_width dc_law_width pm_law_width an_law_width cd_law_width ct_law_width), sl_law_width⟩)
    (d_law_width : PySem.W.codeIn K cd_law_width "_law_width" = true)
    (k_law_width : PySem.W.keepIn K (.ref f_law_width) = true)
    (a_law_number : PySem.W.nsIn K mainGlobals "_law_number" = some (some (.ref f_law_number)))
    (l_law_number : K.lookup f_law_number = some ⟨oc_law_number, od_law_number, .func (PySem.W.fnOf "_law_number" "_law_number" (defArgs s_law_number) (defBody s_law_number) (defScope s_law_number) .none kV_law_number dc_law_number pm_law_number an_law_number cd_law_number ct_law_number), sl_law_number⟩)
    (d_law_number : PySem.W.codeIn K cd_law_number "_law_number" = true)
    (k_law_number : PySem.W.keepIn K (.ref f_law_number) = true)
    (a_law_near : PySem.W.nsIn K mainGlobals "_law_near" = some (some (.ref f_law_near)))
    (l_law_near : K.lookup f_law_near = some ⟨oc_law_near, od_law_near, .func (PySem.W.fnOf "_law_near" "_law_near" (defArgs s_law_near) (defBody s_law_near) (defScope s_law_near) .none kV_law_near dc_law_near pm_law_near an_law_near cd_law_near ct_law_near), sl_law_near⟩)
    (d_law_near : PySem.W.codeIn K cd_law_near "_law_near" = true)
    (k_law_near : PySem.W.keepIn K (.ref f_law_near) = true)
    (a_law_things : PySem.W.nsIn K mainGlobals "_law_things" = some (some (.ref f_law_things)))
    (l_law_things : K.lookup f_law_things = some ⟨oc_law_things, od_law_things, .func (PySem.W.fnOf "_law_things" "_law_things" (defArgs s_law_things) (defBody s_law_things) (defScope s_law_things) .none kV_law_things dc_law_things pm_law_things an_law_things cd_law_things ct_law_things), sl_law_things⟩)
    (d_law_things : PySem.W.codeIn K cd_law_things "_law_things" = true)
    (k_law_things : PySem.W.keepIn K (.ref f_law_things) = true)
    (a_need_width : PySem.W.nsIn K mainGlobals "need_width" = some (some (.ref f_need_width)))
    (l_need_width : K.lookup f_need_width = some ⟨oc_need_width, od_need_width, .func (PySem.W.fnOf "need_width" "need_width" (defArgs s_need_width) (defBody s_need_width) (defScope s_need_width) .none kV_need_width dc_need_width pm_need_width an_need_width cd_need_width ct_need_width), sl_need_width⟩)
    (d_need_width : PySem.W.codeIn K cd_need_width "need_width" = true)
    (k_need_width : PySem.W.keepIn K (.ref f_need_width) = true)
    (a_Wire___init : PySem.W.findIn K (.ref c_Wire) "__init__" = some (some (.ref f_Wire___init)))
    (i_Wire___init : PySem.W.isFn K (.ref f_Wire___init) = true)
    (l_Wire___init : K.lookup f_Wire___init = some ⟨oc_Wire___init, od_Wire___init, .func (PySem.W.fnOf "__init__" "Wire.__init__" (defArgs s_Wire_init) (defBody s_Wire_init) (defScope s_Wire_init) .none kV_Wire___init dc_Wire___init pm_Wire___init an_Wire___init cd_Wire___init ct_Wire___init), sl_Wire___init⟩)
    (d_Wire___init : PySem.W.codeIn K cd_Wire___init "Wire.__init__" = true)
    (k_Wire___init : PySem.W.keepIn K (.ref f_Wire___init) = true)
    (a_are_bits : PySem.W.nsIn K mainGlobals "are_bits" = some (some (.ref f_are_bits)))
    (l_are_bits : K.lookup f_are_bits = some ⟨oc_are_bits, od_are_bits, .func (PySem.W.fnOf "are_bits" "are_bits" (defArgs s_are_bits) (defBody s_are_bits) (defScope s_are_bits) .none kV_are_bits dc_are_bits pm_are_bits an_are_bits cd_are_bits ct_are_bits), sl_are_bits⟩)
    (d_are_bits : PySem.W.codeIn K cd_are_bits "are_bits" = true)
    (k_are_bits : PySem.W.keepIn K (.ref f_are_bits) = true)
    (a_is_number : PySem.W.nsIn K mainGlobals "is_number" = some (some (.ref f_is_number)))
    (l_is_number : K.lookup f_is_number = some ⟨oc_is_number, od_is_number, .func (PySem.W.fnOf "is_number" "is_number" (defArgs s_is_number) (defBody s_is_number) (defScope s_is_number) .none kV_is_number dc_is_number pm_is_number an_is_number cd_is_number ct_is_number), sl_is_number⟩)
    (d_is_number : PySem.W.codeIn K cd_is_number "is_number" = true)
    (k_is_number : PySem.W.keepIn K (.ref f_is_number) = true)
    (a_need_number : PySem.W.nsIn K mainGlobals "need_number" = some (some (.ref f_need_number)))
    (l_need_number : K.lookup f_need_number = some ⟨oc_need_number, od_need_number, .func (PySem.W.fnOf "need_number" "need_number" (defArgs s_need_number) (defBody s_need_number) (defScope s_need_number) .none kV_need_number dc_need_number pm_need_number an_need_number cd_need_number ct_need_number), sl_need_number⟩)
    (d_need_number : PySem.W.codeIn K cd_need_number "need_number" = true)
    (k_need_number : PySem.W.keepIn K (.ref f_need_number) = true)
    (a_Wire_hang : PySem.W.findIn K (.ref c_Wire) "hang" = some (some (.ref f_Wire_hang)))
    (i_Wire_hang : PySem.W.isFn K (.ref f_Wire_hang) = true)
    (l_Wire_hang : K.lookup f_Wire_hang = some ⟨oc_Wire_hang, od_Wire_hang, .func (PySem.W.fnOf "hang" "Wire.hang" (defArgs s_Wire_hang) (defBody s_Wire_hang) (defScope s_Wire_hang) .none kV_Wire_hang dc_Wire_hang pm_Wire_hang an_Wire_hang cd_Wire_hang ct_Wire_hang), sl_Wire_hang⟩)
    (d_Wire_hang : PySem.W.codeIn K cd_Wire_hang "Wire.hang" = true)
    (k_Wire_hang : PySem.W.keepIn K (.ref f_Wire_hang) = true)
    (a_law_made : PySem.W.nsIn K mainGlobals "_law_made" = some (some (.ref f_law_made)))
    (l_law_made : K.lookup f_law_made = some ⟨oc_law_made, od_law_made, .func (PySem.W.fnOf "_law_made" "_law_made" (defArgs s_law_made) (defBody s_law_made) (defScope s_law_made) .none kV_law_made dc_law_made pm_law_made an_law_made cd_law_made ct_law_made), sl_law_made⟩)
    (d_law_made : PySem.W.codeIn K cd_law_made "_law_made" = true)
    (k_law_made : PySem.W.keepIn K (.ref f_law_made) = true)
    (a_met : PySem.W.nsIn K mainGlobals "met" = some (some (.ref f_met)))
    (l_met : K.lookup f_met = some ⟨oc_met, od_met, .func (PySem.W.fnOf "met" "met" (defArgs s_met) (defBody s_met) (defScope s_met) .none kV_met dc_met pm_met an_met cd_met ct_met), sl_met⟩)
    (d_met : PySem.W.codeIn K cd_met "met" = true)
    (k_met : PySem.W.keepIn K (.ref f_met) = true)
    (a_fewest : PySem.W.nsIn K mainGlobals "fewest" = some (some (.ref f_fewest)))
    (l_fewest : K.lookup f_fewest = some ⟨oc_fewest, od_fewest, .func (PySem.W.fnOf "fewest" "fewest" (defArgs s_fewest) (defBody s_fewest) (defScope s_fewest) .none kV_fewest dc_fewest pm_fewest an_fewest cd_fewest ct_fewest), sl_fewest⟩)
    (d_fewest : PySem.W.codeIn K cd_fewest "fewest" = true)
    (k_fewest : PySem.W.keepIn K (.ref f_fewest) = true)
    (a_shown : PySem.W.nsIn K mainGlobals "shown" = some (some (.ref f_shown)))
    (l_shown : K.lookup f_shown = some ⟨oc_shown, od_shown, .func (PySem.W.fnOf "shown" "shown" (defArgs s_shown) (defBody s_shown) (defScope s_shown) .none kV_shown dc_shown pm_shown an_shown cd_shown ct_shown), sl_shown⟩)
    (d_shown : PySem.W.codeIn K cd_shown "shown" = true)
    (k_shown : PySem.W.keepIn K (.ref f_shown) = true)
    (a_need_roster : PySem.W.nsIn K mainGlobals "need_roster" = some (some (.ref f_need_roster)))
    (l_need_roster : K.lookup f_need_roster = some ⟨oc_need_roster, od_need_roster, .func (PySem.W.fnOf "need_roster" "need_roster" (defArgs s_need_roster) (defBody s_need_roster) (defScope s_need_roster) .none kV_need_roster dc_need_roster pm_need_roster an_need_roster cd_need_roster ct_need_roster), sl_need_roster⟩)
    (d_need_roster : PySem.W.codeIn K cd_need_roster "need_roster" = true)
    (k_need_roster : PySem.W.keepIn K (.ref f_need_roster) = true)
    (a_judged : PySem.W.nsIn K mainGlobals "judged" = some (some (.ref f_judged)))
    (l_judged : K.lookup f_judged = some ⟨oc_judged, od_judged, .func (PySem.W.fnOf "judged" "judged" (defArgs s_judged) (defBody s_judged) (defScope s_judged) .none kV_judged dc_judged pm_judged an_judged cd_judged ct_judged), sl_judged⟩)
    (d_judged : PySem.W.codeIn K cd_judged "judged" = true)
    (k_judged : PySem.W.keepIn K (.ref f_judged) = true)
    (a_least : PySem.W.nsIn K mainGlobals "least" = some (some (.ref f_least)))
    (l_least : K.lookup f_least = some ⟨oc_least, od_least, .func (PySem.W.fnOf "least" "least" (defArgs s_least) (defBody s_least) (defScope s_least) .none kV_least dc_least pm_least an_least cd_least ct_least), sl_least⟩)
    (d_least : PySem.W.codeIn K cd_least "least" = true)
    (k_least : PySem.W.keepIn K (.ref f_least) = true)
    (a_plan_of : PySem.W.nsIn K mainGlobals "plan_of" = some (some (.ref f_plan_of)))
    (l_plan_of : K.lookup f_plan_of = some ⟨oc_plan_of, od_plan_of, .func (PySem.W.fnOf "plan_of" "plan_of" (defArgs s_plan_of) (defBody s_plan_of) (defScope s_plan_of) .none kV_plan_of dc_plan_of pm_plan_of an_plan_of cd_plan_of ct_plan_of), sl_plan_of⟩)
    (d_plan_of : PySem.W.codeIn K cd_plan_of "plan_of" = true)
    (k_plan_of : PySem.W.keepIn K (.ref f_plan_of) = true)
    (a_follows : PySem.W.nsIn K mainGlobals "follows" = some (some (.ref f_follows)))
    (l_follows : K.lookup f_follows = some ⟨oc_follows, od_follows, .func (PySem.W.fnOf "follows" "follows" (defArgs s_follows) (defBody s_follows) (defScope s_follows) .none kV_follows dc_follows pm_follows an_follows cd_follows ct_follows), sl_follows⟩)
    (d_follows : PySem.W.codeIn K cd_follows "follows" = true)
    (k_follows : PySem.W.keepIn K (.ref f_follows) = true)
    (a_Day___init : PySem.W.findIn K (.ref c_Day) "__init__" = some (some (.ref f_Day___init)))
    (i_Day___init : PySem.W.isFn K (.ref f_Day___init) = true)
    (l_Day___init : K.lookup f_Day___init = some ⟨oc_Day___init, od_Day___init, .func (PySem.W.fnOf "__init__" "Day.__init__" (defArgs s_Day_init) (defBody s_Day_init) (defScope s_Day_init) .none kV_Day___init dc_Day___init pm_Day___init an_Day___init cd_Day___init ct_Day___init), sl_Day___init⟩)
    (d_Day___init : PySem.W.codeIn K cd_Day___init "Day.__init__" = true)
    (k_Day___init : PySem.W.keepIn K (.ref f_Day___init) = true)
    (a_played : PySem.W.nsIn K mainGlobals "played" = some (some (.ref f_played)))
    (l_played : K.lookup f_played = some ⟨oc_played, od_played, .func (PySem.W.fnOf "played" "played" (defArgs s_played) (defBody s_played) (defScope s_played) .none kV_played dc_played pm_played an_played cd_played ct_played), sl_played⟩)
    (d_played : PySem.W.codeIn K cd_played "played" = true)
    (k_played : PySem.W.keepIn K (.ref f_played) = true)
    (a_law_wide : PySem.W.nsIn K mainGlobals "_law_wide" = some (some (.ref f_law_wide)))
    (l_law_wide : K.lookup f_law_wide = some ⟨oc_law_wide, od_law_wide, .func (PySem.W.fnOf "_law_wide" "_law_wide" (defArgs s_law_wide) (defBody s_law_wide) (defScope s_law_wide) .none kV_law_wide dc_law_wide pm_law_wide an_law_wide (.ref cd_law_wide) ct_law_wide), sl_law_wide⟩)
    (d_law_wide : PySem.W.codeIn K (.ref cd_law_wide) "_law_wide" = true)
    (k_law_wide : PySem.W.keepIn K (.ref f_law_wide) = true)
    (t_law_wide : PySem.W.codeHdIn K cd_law_wide P_law_wide = true)
    (u_law_wide : K.lookup P_law_wide = none)
    (v_law_wide : P_law_wide ∈ ts)
    (a_law_odd : PySem.W.nsIn K mainGlobals "_law_odd" = some (some (.ref f_law_odd)))
    (l_law_odd : K.lookup f_law_odd = some ⟨oc_law_odd, od_law_odd, .func (PySem.W.fnOf "_law_odd" "_law_odd" (defArgs s_law_odd) (defBody s_law_odd) (defScope s_law_odd) .none kV_law_odd dc_law_odd pm_law_odd an_law_odd cd_law_odd ct_law_odd), sl_law_odd⟩)
    (d_law_odd : PySem.W.codeIn K cd_law_odd "_law_odd" = true)
    (k_law_odd : PySem.W.keepIn K (.ref f_law_odd) = true)
    (a_Wire_need_round : PySem.W.findIn K (.ref c_Wire) "need_round" = some (some (.ref f_Wire_need_round)))
    (i_Wire_need_round : PySem.W.isFn K (.ref f_Wire_need_round) = true)
    (l_Wire_need_round : K.lookup f_Wire_need_round = some ⟨oc_Wire_need_round, od_Wire_need_round, .func (PySem.W.fnOf "need_round" "Wire.need_round" (defArgs s_Wire_need_round) (defBody s_Wire_need_round) (defScope s_Wire_need_round) .none kV_Wire_need_round dc_Wire_need_round pm_Wire_need_round an_Wire_need_round cd_Wire_need_round ct_Wire_need_round), sl_Wire_need_round⟩)
    (d_Wire_need_round : PySem.W.codeIn K cd_Wire_need_round "Wire.need_round" = true)
    (k_Wire_need_round : PySem.W.keepIn K (.ref f_Wire_need_round) = true)
    (a_look_at : PySem.W.nsIn K mainGlobals "look_at" = some (some (.ref f_look_at)))
    (l_look_at : K.lookup f_look_at = some ⟨oc_look_at, od_look_at, .func (PySem.W.fnOf "look_at" "look_at" (defArgs s_look_at) (defBody s_look_at) (defScope s_look_at) .none kV_look_at dc_look_at pm_look_at an_look_at cd_look_at ct_look_at), sl_look_at⟩)
    (d_look_at : PySem.W.codeIn K cd_look_at "look_at" = true)
    (k_look_at : PySem.W.keepIn K (.ref f_look_at) = true)
    (a_Wire_look : PySem.W.findIn K (.ref c_Wire) "look" = some (some (.ref f_Wire_look)))
    (i_Wire_look : PySem.W.isFn K (.ref f_Wire_look) = true)
    (l_Wire_look : K.lookup f_Wire_look = some ⟨oc_Wire_look, od_Wire_look, .func (PySem.W.fnOf "look" "Wire.look" (defArgs s_Wire_look) (defBody s_Wire_look) (defScope s_Wire_look) .none kV_Wire_look dc_Wire_look pm_Wire_look an_Wire_look cd_Wire_look ct_Wire_look), sl_Wire_look⟩)
    (d_Wire_look : PySem.W.codeIn K cd_Wire_look "Wire.look" = true)
    (k_Wire_look : PySem.W.keepIn K (.ref f_Wire_look) = true)
    (a_Wire_say : PySem.W.findIn K (.ref c_Wire) "say" = some (some (.ref f_Wire_say)))
    (i_Wire_say : PySem.W.isFn K (.ref f_Wire_say) = true)
    (l_Wire_say : K.lookup f_Wire_say = some ⟨oc_Wire_say, od_Wire_say, .func (PySem.W.fnOf "say" "Wire.say" (defArgs s_Wire_say) (defBody s_Wire_say) (defScope s_Wire_say) .none kV_Wire_say dc_Wire_say pm_Wire_say an_Wire_say cd_Wire_say ct_Wire_say), sl_Wire_say⟩)
    (d_Wire_say : PySem.W.codeIn K cd_Wire_say "Wire.say" = true)
    (k_Wire_say : PySem.W.keepIn K (.ref f_Wire_say) = true)
    (a_need_kind : PySem.W.nsIn K mainGlobals "need_kind" = some (some (.ref f_need_kind)))
    (l_need_kind : K.lookup f_need_kind = some ⟨oc_need_kind, od_need_kind, .func (PySem.W.fnOf "need_kind" "need_kind" (defArgs s_need_kind) (defBody s_need_kind) (defScope s_need_kind) .none kV_need_kind dc_need_kind pm_need_kind an_need_kind cd_need_kind ct_need_kind), sl_need_kind⟩)
    (d_need_kind : PySem.W.codeIn K cd_need_kind "need_kind" = true)
    (k_need_kind : PySem.W.keepIn K (.ref f_need_kind) = true)
    (a_Wire_begin : PySem.W.findIn K (.ref c_Wire) "begin" = some (some (.ref f_Wire_begin)))
    (i_Wire_begin : PySem.W.isFn K (.ref f_Wire_begin) = true)
    (l_Wire_begin : K.lookup f_Wire_begin = some ⟨oc_Wire_begin, od_Wire_begin, .func (PySem.W.fnOf "begin" "Wire.begin" (defArgs s_Wire_begin) (defBody s_Wire_begin) (defScope s_Wire_begin) .none kV_Wire_begin dc_Wire_begin pm_Wire_begin an_Wire_begin cd_Wire_begin ct_Wire_begin), sl_Wire_begin⟩)
    (d_Wire_begin : PySem.W.codeIn K cd_Wire_begin "Wire.begin" = true)
    (k_Wire_begin : PySem.W.keepIn K (.ref f_Wire_begin) = true)
    (a_Wire_looks : PySem.W.findIn K (.ref c_Wire) "looks" = some (some (.ref f_Wire_looks)))
    (i_Wire_looks : PySem.W.isFn K (.ref f_Wire_looks) = true)
    (l_Wire_looks : K.lookup f_Wire_looks = some ⟨oc_Wire_looks, od_Wire_looks, .func (PySem.W.fnOf "looks" "Wire.looks" (defArgs s_Wire_looks) (defBody s_Wire_looks) (defScope s_Wire_looks) .none kV_Wire_looks dc_Wire_looks pm_Wire_looks an_Wire_looks cd_Wire_looks ct_Wire_looks), sl_Wire_looks⟩)
    (d_Wire_looks : PySem.W.codeIn K cd_Wire_looks "Wire.looks" = true)
    (k_Wire_looks : PySem.W.keepIn K (.ref f_Wire_looks) = true)
    (a_Walk___init : PySem.W.findIn K (.ref c_Walk) "__init__" = some (some (.ref f_Walk___init)))
    (i_Walk___init : PySem.W.isFn K (.ref f_Walk___init) = true)
    (l_Walk___init : K.lookup f_Walk___init = some ⟨oc_Walk___init, od_Walk___init, .func (PySem.W.fnOf "__init__" "Walk.__init__" (defArgs s_Walk_init) (defBody s_Walk_init) (defScope s_Walk_init) .none kV_Walk___init dc_Walk___init pm_Walk___init an_Walk___init cd_Walk___init ct_Walk___init), sl_Walk___init⟩)
    (d_Walk___init : PySem.W.codeIn K cd_Walk___init "Walk.__init__" = true)
    (k_Walk___init : PySem.W.keepIn K (.ref f_Walk___init) = true)
    (a_Walk_say : PySem.W.findIn K (.ref c_Walk) "say" = some (some (.ref f_Walk_say)))
    (i_Walk_say : PySem.W.isFn K (.ref f_Walk_say) = true)
    (l_Walk_say : K.lookup f_Walk_say = some ⟨oc_Walk_say, od_Walk_say, .func (PySem.W.fnOf "say" "Walk.say" (defArgs s_Walk_say) (defBody s_Walk_say) (defScope s_Walk_say) .none kV_Walk_say dc_Walk_say pm_Walk_say an_Walk_say cd_Walk_say ct_Walk_say), sl_Walk_say⟩)
    (d_Walk_say : PySem.W.codeIn K cd_Walk_say "Walk.say" = true)
    (k_Walk_say : PySem.W.keepIn K (.ref f_Walk_say) = true)
    (a_Walk_ended : PySem.W.findIn K (.ref c_Walk) "ended" = some (some (.ref f_Walk_ended)))
    (i_Walk_ended : PySem.W.isFn K (.ref f_Walk_ended) = true)
    (l_Walk_ended : K.lookup f_Walk_ended = some ⟨oc_Walk_ended, od_Walk_ended, .func (PySem.W.fnOf "ended" "Walk.ended" (defArgs s_Walk_ended) (defBody s_Walk_ended) (defScope s_Walk_ended) .none kV_Walk_ended dc_Walk_ended pm_Walk_ended an_Walk_ended cd_Walk_ended ct_Walk_ended), sl_Walk_ended⟩)
    (d_Walk_ended : PySem.W.codeIn K cd_Walk_ended "Walk.ended" = true)
    (k_Walk_ended : PySem.W.keepIn K (.ref f_Walk_ended) = true)
    (a_Walk_begin : PySem.W.findIn K (.ref c_Walk) "begin" = some (some (.ref f_Walk_begin)))
    (i_Walk_begin : PySem.W.isFn K (.ref f_Walk_begin) = true)
    (l_Walk_begin : K.lookup f_Walk_begin = some ⟨oc_Walk_begin, od_Walk_begin, .func (PySem.W.fnOf "begin" "Walk.begin" (defArgs s_Walk_begin) (defBody s_Walk_begin) (defScope s_Walk_begin) .none kV_Walk_begin dc_Walk_begin pm_Walk_begin an_Walk_begin cd_Walk_begin ct_Walk_begin), sl_Walk_begin⟩)
    (d_Walk_begin : PySem.W.codeIn K cd_Walk_begin "Walk.begin" = true)
    (k_Walk_begin : PySem.W.keepIn K (.ref f_Walk_begin) = true)
    (a_Walk_step : PySem.W.findIn K (.ref c_Walk) "step" = some (some (.ref f_Walk_step)))
    (i_Walk_step : PySem.W.isFn K (.ref f_Walk_step) = true)
    (l_Walk_step : K.lookup f_Walk_step = some ⟨oc_Walk_step, od_Walk_step, .func (PySem.W.fnOf "step" "Walk.step" (defArgs s_Walk_step) (defBody s_Walk_step) (defScope s_Walk_step) .none kV_Walk_step dc_Walk_step pm_Walk_step an_Walk_step cd_Walk_step ct_Walk_step), sl_Walk_step⟩)
    (d_Walk_step : PySem.W.codeIn K cd_Walk_step "Walk.step" = true)
    (k_Walk_step : PySem.W.keepIn K (.ref f_Walk_step) = true)
    (a_Walk_go_round : PySem.W.findIn K (.ref c_Walk) "go_round" = some (some (.ref f_Walk_go_round)))
    (i_Walk_go_round : PySem.W.isFn K (.ref f_Walk_go_round) = true)
    (l_Walk_go_round : K.lookup f_Walk_go_round = some ⟨oc_Walk_go_round, od_Walk_go_round, .func (PySem.W.fnOf "go_round" "Walk.go_round" (defArgs s_Walk_go_round) (defBody s_Walk_go_round) (defScope s_Walk_go_round) .none kV_Walk_go_round dc_Walk_go_round pm_Walk_go_round an_Walk_go_round cd_Walk_go_round ct_Walk_go_round), sl_Walk_go_round⟩)
    (d_Walk_go_round : PySem.W.codeIn K cd_Walk_go_round "Walk.go_round" = true)
    (k_Walk_go_round : PySem.W.keepIn K (.ref f_Walk_go_round) = true)
    (a_Walk_found : PySem.W.findIn K (.ref c_Walk) "found" = some (some (.ref f_Walk_found)))
    (i_Walk_found : PySem.W.isFn K (.ref f_Walk_found) = true)
    (l_Walk_found : K.lookup f_Walk_found = some ⟨oc_Walk_found, od_Walk_found, .func (PySem.W.fnOf "found" "Walk.found" (defArgs s_Walk_found) (defBody s_Walk_found) (defScope s_Walk_found) .none kV_Walk_found dc_Walk_found pm_Walk_found an_Walk_found cd_Walk_found ct_Walk_found), sl_Walk_found⟩)
    (d_Walk_found : PySem.W.codeIn K cd_Walk_found "Walk.found" = true)
    (k_Walk_found : PySem.W.keepIn K (.ref f_Walk_found) = true)
    (a_Walk_go_all : PySem.W.findIn K (.ref c_Walk) "go_all" = some (some (.ref f_Walk_go_all)))
    (i_Walk_go_all : PySem.W.isFn K (.ref f_Walk_go_all) = true)
    (l_Walk_go_all : K.lookup f_Walk_go_all = some ⟨oc_Walk_go_all, od_Walk_go_all, .func (PySem.W.fnOf "go_all" "Walk.go_all" (defArgs s_Walk_go_all) (defBody s_Walk_go_all) (defScope s_Walk_go_all) .none kV_Walk_go_all dc_Walk_go_all pm_Walk_go_all an_Walk_go_all cd_Walk_go_all ct_Walk_go_all), sl_Walk_go_all⟩)
    (d_Walk_go_all : PySem.W.codeIn K cd_Walk_go_all "Walk.go_all" = true)
    (k_Walk_go_all : PySem.W.keepIn K (.ref f_Walk_go_all) = true)
    (a_law_rounds : PySem.W.nsIn K mainGlobals "_law_rounds" = some (some (.ref f_law_rounds)))
    (l_law_rounds : K.lookup f_law_rounds = some ⟨oc_law_rounds, od_law_rounds, .func (PySem.W.fnOf "_law_rounds" "_law_rounds" (defArgs s_law_rounds) (defBody s_law_rounds) (defScope s_law_rounds) .none kV_law_rounds dc_law_rounds pm_law_rounds an_law_rounds (.ref cd_law_rounds) ct_law_rounds), sl_law_rounds⟩)
    (d_law_rounds : PySem.W.codeIn K (.ref cd_law_rounds) "_law_rounds" = true)
    (k_law_rounds : PySem.W.keepIn K (.ref f_law_rounds) = true)
    (t_law_rounds : PySem.W.codeHdIn K cd_law_rounds P_law_rounds = true)
    (u_law_rounds : K.lookup P_law_rounds = none)
    (v_law_rounds : P_law_rounds ∈ ts)
    (a_law_alike : PySem.W.nsIn K mainGlobals "_law_alike" = some (some (.ref f_law_alike)))
    (l_law_alike : K.lookup f_law_alike = some ⟨oc_law_alike, od_law_alike, .func (PySem.W.fnOf "_law_alike" "_law_alike" (defArgs s_law_alike) (defBody s_law_alike) (defScope s_law_alike) .none kV_law_alike dc_law_alike pm_law_alike an_law_alike cd_law_alike ct_law_alike), sl_law_alike⟩)
    (d_law_alike : PySem.W.codeIn K cd_law_alike "_law_alike" = true)
    (k_law_alike : PySem.W.keepIn K (.ref f_law_alike) = true)
    (a_Wire_need_thing : PySem.W.findIn K (.ref c_Wire) "need_thing" = some (some (.ref f_Wire_need_thing)))
    (i_Wire_need_thing : PySem.W.isFn K (.ref f_Wire_need_thing) = true)
    (l_Wire_need_thing : K.lookup f_Wire_need_thing = some ⟨oc_Wire_need_thing, od_Wire_need_thing, .func (PySem.W.fnOf "need_thing" "Wire.need_thing" (defArgs s_Wire_need_thing) (defBody s_Wire_need_thing) (defScope s_Wire_need_thing) .none kV_Wire_need_thing dc_Wire_need_thing pm_Wire_need_thing an_Wire_need_thing cd_Wire_need_thing ct_Wire_need_thing), sl_Wire_need_thing⟩)
    (d_Wire_need_thing : PySem.W.codeIn K cd_Wire_need_thing "Wire.need_thing" = true)
    (k_Wire_need_thing : PySem.W.keepIn K (.ref f_Wire_need_thing) = true)
    (a_Wire_off : PySem.W.findIn K (.ref c_Wire) "off" = some (some (.ref f_Wire_off)))
    (i_Wire_off : PySem.W.isFn K (.ref f_Wire_off) = true)
    (l_Wire_off : K.lookup f_Wire_off = some ⟨oc_Wire_off, od_Wire_off, .func (PySem.W.fnOf "off" "Wire.off" (defArgs s_Wire_off) (defBody s_Wire_off) (defScope s_Wire_off) .none kV_Wire_off dc_Wire_off pm_Wire_off an_Wire_off cd_Wire_off ct_Wire_off), sl_Wire_off⟩)
    (d_Wire_off : PySem.W.codeIn K cd_Wire_off "Wire.off" = true)
    (k_Wire_off : PySem.W.keepIn K (.ref f_Wire_off) = true)
    (a_Wire_alarm : PySem.W.findIn K (.ref c_Wire) "alarm" = some (some (.ref f_Wire_alarm)))
    (i_Wire_alarm : PySem.W.isFn K (.ref f_Wire_alarm) = true)
    (l_Wire_alarm : K.lookup f_Wire_alarm = some ⟨oc_Wire_alarm, od_Wire_alarm, .func (PySem.W.fnOf "alarm" "Wire.alarm" (defArgs s_Wire_alarm) (defBody s_Wire_alarm) (defScope s_Wire_alarm) .none kV_Wire_alarm dc_Wire_alarm pm_Wire_alarm an_Wire_alarm cd_Wire_alarm ct_Wire_alarm), sl_Wire_alarm⟩)
    (d_Wire_alarm : PySem.W.codeIn K cd_Wire_alarm "Wire.alarm" = true)
    (k_Wire_alarm : PySem.W.keepIn K (.ref f_Wire_alarm) = true)
    (a_Wire_calm : PySem.W.findIn K (.ref c_Wire) "calm" = some (some (.ref f_Wire_calm)))
    (i_Wire_calm : PySem.W.isFn K (.ref f_Wire_calm) = true)
    (l_Wire_calm : K.lookup f_Wire_calm = some ⟨oc_Wire_calm, od_Wire_calm, .func (PySem.W.fnOf "calm" "Wire.calm" (defArgs s_Wire_calm) (defBody s_Wire_calm) (defScope s_Wire_calm) .none kV_Wire_calm dc_Wire_calm pm_Wire_calm an_Wire_calm cd_Wire_calm ct_Wire_calm), sl_Wire_calm⟩)
    (d_Wire_calm : PySem.W.codeIn K cd_Wire_calm "Wire.calm" = true)
    (k_Wire_calm : PySem.W.keepIn K (.ref f_Wire_calm) = true)
    (a_Wire_hung : PySem.W.findIn K (.ref c_Wire) "hung" = some (some (.ref f_Wire_hung)))
    (i_Wire_hung : PySem.W.isFn K (.ref f_Wire_hung) = true)
    (l_Wire_hung : K.lookup f_Wire_hung = some ⟨oc_Wire_hung, od_Wire_hung, .func (PySem.W.fnOf "hung" "Wire.hung" (defArgs s_Wire_hung) (defBody s_Wire_hung) (defScope s_Wire_hung) .none kV_Wire_hung dc_Wire_hung pm_Wire_hung an_Wire_hung cd_Wire_hung ct_Wire_hung), sl_Wire_hung⟩)
    (d_Wire_hung : PySem.W.codeIn K cd_Wire_hung "Wire.hung" = true)
    (k_Wire_hung : PySem.W.keepIn K (.ref f_Wire_hung) = true)
    (a_Wire_alarms : PySem.W.findIn K (.ref c_Wire) "alarms" = some (some (.ref f_Wire_alarms)))
    (i_Wire_alarms : PySem.W.isFn K (.ref f_Wire_alarms) = true)
    (l_Wire_alarms : K.lookup f_Wire_alarms = some ⟨oc_Wire_alarms, od_Wire_alarms, .func (PySem.W.fnOf "alarms" "Wire.alarms" (defArgs s_Wire_alarms) (defBody s_Wire_alarms) (defScope s_Wire_alarms) .none kV_Wire_alarms dc_Wire_alarms pm_Wire_alarms an_Wire_alarms cd_Wire_alarms ct_Wire_alarms), sl_Wire_alarms⟩)
    (d_Wire_alarms : PySem.W.codeIn K cd_Wire_alarms "Wire.alarms" = true)
    (k_Wire_alarms : PySem.W.keepIn K (.ref f_Wire_alarms) = true)
    (a_law : PySem.W.nsIn K mainGlobals "law" = some (some (.ref f_law)))
    (l_law : K.lookup f_law = some ⟨oc_law, od_law, .func (PySem.W.fnOf "law" "law" (defArgs s_law) (defBody s_law) (defScope s_law) .none kV_law dc_law pm_law an_law (.ref cd_law) ct_law), sl_law⟩)
    (d_law : PySem.W.codeIn K (.ref cd_law) "law" = true)
    (k_law : PySem.W.keepIn K (.ref f_law) = true)
    (t_law : PySem.W.codeHdIn K cd_law P_law = true)
    (u_law : K.lookup P_law = none)
    (v_law : P_law ∈ ts)
    (a_law_word : PySem.W.nsIn K mainGlobals "_law_word" = some (some (.ref f_law_word)))
    (l_law_word : K.lookup f_law_word = some ⟨oc_law_word, od_law_word, .func (PySem.W.fnOf "_law_word" "_law_word" (defArgs s_law_word) (defBody s_law_word) (defScope s_law_word) .none kV_law_word dc_law_word pm_law_word an_law_word cd_law_word ct_law_word), sl_law_word⟩)
    (d_law_word : PySem.W.codeIn K cd_law_word "_law_word" = true)
    (k_law_word : PySem.W.keepIn K (.ref f_law_word) = true)
    (hP01 : P_law ≠ P_law_wide)
    (hP02 : P_law ≠ P_law_rounds)
    (hP12 : P_law_wide ≠ P_law_rounds)
    (pg_Wire : PySem.W.plainGet K c_Wire Str.empty = true)
    (hd_Wire : PySem.W.hasDictIn K c_Wire = true)
    (po_Wire : PySem.W.plainOver K c_Wire = true)
    (sa_Wire : PySem.W.findIn K (.ref c_Wire) "__setattr__" = some (some (.builtin "object.__setattr__")))
    (mk_Wire : PySem.W.makesIn K c_Wire = true)
    (kc_Wire : PySem.W.keepIn K (.ref c_Wire) = true)
    (na_Wire_width : PySem.W.findIn K (.ref c_Wire) "width" = some none)
    (na_Wire_things : PySem.W.findIn K (.ref c_Wire) "things" = some none)
    (na_Wire_listening : PySem.W.findIn K (.ref c_Wire) "listening" = some none)
    (na_Wire_told : PySem.W.findIn K (.ref c_Wire) "told" = some none)
    (na_Wire_many : PySem.W.findIn K (.ref c_Wire) "many" = some none)
    (pg_Walk : PySem.W.plainGet K c_Walk Str.empty = true)
    (hd_Walk : PySem.W.hasDictIn K c_Walk = true)
    (po_Walk : PySem.W.plainOver K c_Walk = true)
    (sa_Walk : PySem.W.findIn K (.ref c_Walk) "__setattr__" = some (some (.builtin "object.__setattr__")))
    (mk_Walk : PySem.W.makesIn K c_Walk = true)
    (kc_Walk : PySem.W.keepIn K (.ref c_Walk) = true)
    (na_Walk_wire : PySem.W.findIn K (.ref c_Walk) "wire" = some none)
    (na_Walk_kind : PySem.W.findIn K (.ref c_Walk) "kind" = some none)
    (na_Walk_rest : PySem.W.findIn K (.ref c_Walk) "rest" = some none)
    (na_Walk_said : PySem.W.findIn K (.ref c_Walk) "said" = some none)
    (na_Walk_names : PySem.W.findIn K (.ref c_Walk) "names" = some none)
    (na_Walk_seen : PySem.W.findIn K (.ref c_Walk) "seen" = some none)
    (pg_Day : PySem.W.plainGet K c_Day Str.empty = true)
    (hd_Day : PySem.W.hasDictIn K c_Day = true)
    (po_Day : PySem.W.plainOver K c_Day = true)
    (sa_Day : PySem.W.findIn K (.ref c_Day) "__setattr__" = some (some (.builtin "object.__setattr__")))
    (mk_Day : PySem.W.makesIn K c_Day = true)
    (kc_Day : PySem.W.keepIn K (.ref c_Day) = true)
    (na_Day_line : PySem.W.findIn K (.ref c_Day) "line" = some none)
    (na_Day_path : PySem.W.findIn K (.ref c_Day) "path" = some none)
    (na_Day_office : PySem.W.findIn K (.ref c_Day) "office" = some none)
    (na_Day_clerk : PySem.W.findIn K (.ref c_Day) "clerk" = some none)
    (n_BusError : PySem.W.nsIn K mainGlobals "BusError" = some (some (.ref e_BusError)))
    (n_BadWidth : PySem.W.nsIn K mainGlobals "BadWidth" = some (some (.ref e_BadWidth)))
    (n_BadNumber : PySem.W.nsIn K mainGlobals "BadNumber" = some (some (.ref e_BadNumber)))
    (n_BadKind : PySem.W.nsIn K mainGlobals "BadKind" = some (some (.ref e_BadKind)))
    (n_BadBit : PySem.W.nsIn K mainGlobals "BadBit" = some (some (.ref e_BadBit)))
    (n_There : PySem.W.nsIn K mainGlobals "There" = some (some (.ref e_There)))
    (n_NotThere : PySem.W.nsIn K mainGlobals "NotThere" = some (some (.ref e_NotThere)))
    (n_NoRound : PySem.W.nsIn K mainGlobals "NoRound" = some (some (.ref e_NoRound)))
    (n_Over : PySem.W.nsIn K mainGlobals "Over" = some (some (.ref e_Over)))
    (n_Busy : PySem.W.nsIn K mainGlobals "Busy" = some (some (.ref e_Busy)))
    (n_BadLooks : PySem.W.nsIn K mainGlobals "BadLooks" = some (some (.ref e_BadLooks)))
    (n_BadRoster : PySem.W.nsIn K mainGlobals "BadRoster" = some (some (.ref e_BadRoster)))
    (n_TooMany : PySem.W.nsIn K mainGlobals "TooMany" = some (some (.ref e_TooMany)))
    (n_BadPlan : PySem.W.nsIn K mainGlobals "BadPlan" = some (some (.ref e_BadPlan)))
    (n_BadStep : PySem.W.nsIn K mainGlobals "BadStep" = some (some (.ref e_BadStep)))
    (n_BadText : PySem.W.nsIn K mainGlobals "BadText" = some (some (.ref e_BadText)))
    (q_BadBit : PySem.W.excIn K e_BadBit [.type "ValueError", .type "Exception", .type "BaseException", .type "object"] "ValueError.__new__" = true)
    (kx_BadBit : PySem.W.keepIn K (.ref e_BadBit) = true)
    (bx_BadBit : PySem.W.subIn K (.ref e_BadBit) (.type "BaseException") = some true)
    (tx_BadBit : PySem.W.typeIn K (.ref e_BadBit) = some (.type "type"))
    (q_BadKind : PySem.W.excIn K e_BadKind [.type "ValueError", .type "Exception", .type "BaseException", .type "object"] "ValueError.__new__" = true)
    (kx_BadKind : PySem.W.keepIn K (.ref e_BadKind) = true)
    (bx_BadKind : PySem.W.subIn K (.ref e_BadKind) (.type "BaseException") = some true)
    (tx_BadKind : PySem.W.typeIn K (.ref e_BadKind) = some (.type "type"))
    (q_BadNumber : PySem.W.excIn K e_BadNumber [.type "ValueError", .type "Exception", .type "BaseException", .type "object"] "ValueError.__new__" = true)
    (kx_BadNumber : PySem.W.keepIn K (.ref e_BadNumber) = true)
    (bx_BadNumber : PySem.W.subIn K (.ref e_BadNumber) (.type "BaseException") = some true)
    (tx_BadNumber : PySem.W.typeIn K (.ref e_BadNumber) = some (.type "type"))
    (q_BadWidth : PySem.W.excIn K e_BadWidth [.type "ValueError", .type "Exception", .type "BaseException", .type "object"] "ValueError.__new__" = true)
    (kx_BadWidth : PySem.W.keepIn K (.ref e_BadWidth) = true)
    (bx_BadWidth : PySem.W.subIn K (.ref e_BadWidth) (.type "BaseException") = some true)
    (tx_BadWidth : PySem.W.typeIn K (.ref e_BadWidth) = some (.type "type"))
    (q_NoRound : PySem.W.excIn K e_NoRound [.type "ValueError", .type "Exception", .type "BaseException", .type "object"] "ValueError.__new__" = true)
    (kx_NoRound : PySem.W.keepIn K (.ref e_NoRound) = true)
    (bx_NoRound : PySem.W.subIn K (.ref e_NoRound) (.type "BaseException") = some true)
    (tx_NoRound : PySem.W.typeIn K (.ref e_NoRound) = some (.type "type"))
    (q_NotThere : PySem.W.excIn K e_NotThere [.type "ValueError", .type "Exception", .type "BaseException", .type "object"] "ValueError.__new__" = true)
    (kx_NotThere : PySem.W.keepIn K (.ref e_NotThere) = true)
    (bx_NotThere : PySem.W.subIn K (.ref e_NotThere) (.type "BaseException") = some true)
    (tx_NotThere : PySem.W.typeIn K (.ref e_NotThere) = some (.type "type"))
    (q_Over : PySem.W.excIn K e_Over [.type "ValueError", .type "Exception", .type "BaseException", .type "object"] "ValueError.__new__" = true)
    (kx_Over : PySem.W.keepIn K (.ref e_Over) = true)
    (bx_Over : PySem.W.subIn K (.ref e_Over) (.type "BaseException") = some true)
    (tx_Over : PySem.W.typeIn K (.ref e_Over) = some (.type "type"))
    (q_There : PySem.W.excIn K e_There [.type "ValueError", .type "Exception", .type "BaseException", .type "object"] "ValueError.__new__" = true)
    (kx_There : PySem.W.keepIn K (.ref e_There) = true)
    (bx_There : PySem.W.subIn K (.ref e_There) (.type "BaseException") = some true)
    (tx_There : PySem.W.typeIn K (.ref e_There) = some (.type "type"))
    (kk : ([e_BadWidth, e_BadNumber, e_BadKind, e_BadBit, e_There, e_NotThere, e_NoRound, e_Over, e_Busy, e_BadLooks, e_BadRoster, e_TooMany, e_BadPlan, e_BadStep, e_BadText].map fun c => [e_BadWidth, e_BadNumber, e_BadKind, e_BadBit, e_There, e_NotThere, e_NoRound, e_Over, e_Busy, e_BadLooks, e_BadRoster, e_TooMany, e_BadPlan, e_BadStep, e_BadText].map fun d => PySem.W.kitOne K (.ref c) (.ref d)) = (List.range 15).map fun i => (List.range 15).map fun j => some (decide (i = j)))
    (kv : ([e_BadWidth, e_BadNumber, e_BadKind, e_BadBit, e_There, e_NotThere, e_NoRound, e_Over, e_Busy, e_BadLooks, e_BadRoster, e_TooMany, e_BadPlan, e_BadStep, e_BadText].map fun c => PySem.W.kitOne K (.ref c) (.type "ValueError")) = List.replicate 15 (some true))
    (kg : ([e_BadWidth, e_BadNumber, e_BadKind, e_BadBit, e_There, e_NotThere, e_NoRound, e_Over, e_Busy, e_BadLooks, e_BadRoster, e_TooMany, e_BadPlan, e_BadStep, e_BadText].map fun c => PySem.W.findIn K (.ref c) "__getattribute__") = List.replicate 15 (some (some (.builtin "BaseException.__getattribute__"))))
    (ka : ([e_BadWidth, e_BadNumber, e_BadKind, e_BadBit, e_There, e_NotThere, e_NoRound, e_Over, e_Busy, e_BadLooks, e_BadRoster, e_TooMany, e_BadPlan, e_BadStep, e_BadText].map fun c => PySem.W.findIn K (.ref c) "__getattr__") = List.replicate 15 (some none))
    (ks : ([e_BadWidth, e_BadNumber, e_BadKind, e_BadBit, e_There, e_NotThere, e_NoRound, e_Over, e_Busy, e_BadLooks, e_BadRoster, e_TooMany, e_BadPlan, e_BadStep, e_BadText].map fun c => PySem.W.subIn K (.ref c) (.type "BaseException")) = List.replicate 15 (some true))
    (kh : ([e_BadWidth, e_BadNumber, e_BadKind, e_BadBit, e_There, e_NotThere, e_NoRound, e_Over, e_Busy, e_BadLooks, e_BadRoster, e_TooMany, e_BadPlan, e_BadStep, e_BadText].map fun c => PySem.W.hasDictIn K c) = List.replicate 15 (true))
    (kl : ([e_BadWidth, e_BadNumber, e_BadKind, e_BadBit, e_There, e_NotThere, e_NoRound, e_Over, e_Busy, e_BadLooks, e_BadRoster, e_TooMany, e_BadPlan, e_BadStep, e_BadText].map fun c => PySem.W.findIn K (.ref c) "__class__") = List.replicate 15 (some (some (.builtin "object.__class__"))))
    (km : ([e_BadWidth, e_BadNumber, e_BadKind, e_BadBit, e_There, e_NotThere, e_NoRound, e_Over, e_Busy, e_BadLooks, e_BadRoster, e_TooMany, e_BadPlan, e_BadStep, e_BadText].map fun c => PySem.W.mroIn K c (.type "object")) = List.replicate 15 (some true))
    (kb : ([e_BadWidth, e_BadNumber, e_BadKind, e_BadBit, e_There, e_NotThere, e_NoRound, e_Over, e_Busy, e_BadLooks, e_BadRoster, e_TooMany, e_BadPlan, e_BadStep, e_BadText].map fun c => PySem.W.exmOne K (.ref c) (.ref e_BusError)) = List.replicate 15 (some true))
    (kn : PySem.W.specialIn K (.builtin "object.__class__") "__get__" = some (some (.builtin "getset_descriptor.__get__")))
    (kt : PySem.W.takesIn K (.builtin "object.__class__") = some true)
    (n_FOUND : PySem.W.nsIn K mainGlobals "FOUND" = some (some (.str "found" j_FOUND)))
    (n_KINDS : PySem.W.nsIn K mainGlobals "KINDS" = some (some (.ref a_KINDS)))
    (t_KINDS : ∀ H, SqT K H a_KINDS [.str "all", .str "alarm"])
    (n_LOST : PySem.W.nsIn K mainGlobals "LOST" = some (some (.str "lost" j_LOST)))
    (n_MOST_WIDTH : PySem.W.nsIn K mainGlobals "MOST_WIDTH" = some (some (.int 12 j_MOST_WIDTH)))
    (z_len : PySem.W.nsIn K mainGlobals "len" = some none)
    (z_range : PySem.W.nsIn K mainGlobals "range" = some none)
    (z_int : PySem.W.nsIn K mainGlobals "int" = some none)
    (z_bool : PySem.W.nsIn K mainGlobals "bool" = some none)
    (z_str : PySem.W.nsIn K mainGlobals "str" = some none)
    (z_tuple : PySem.W.nsIn K mainGlobals "tuple" = some none)
    (z_list : PySem.W.nsIn K mainGlobals "list" = some none)
    (z_set : PySem.W.nsIn K mainGlobals "set" = some none)
    (z_sorted : PySem.W.nsIn K mainGlobals "sorted" = some none)
    (z_max : PySem.W.nsIn K mainGlobals "max" = some none)
    (z_min : PySem.W.nsIn K mainGlobals "min" = some none)
    (z_sum : PySem.W.nsIn K mainGlobals "sum" = some none)
    (z_isinstance : PySem.W.nsIn K mainGlobals "isinstance" = some none)
    (z_enumerate : PySem.W.nsIn K mainGlobals "enumerate" = some none)
    (z_ValueError : PySem.W.nsIn K mainGlobals "ValueError" = some none) :
    LamX.LawAtS l w K (L2.CX l.prog w) 30 63 "_law_script" mg fa h := by
  have e := hfa.symm.trans (PySem.W.mg_of X G a_law)
  cases e
  have T : TxB mg := ⟨mg_none X G z_len, mg_none X G z_range, mg_none X G z_int, mg_none X G z_bool, mg_none X G z_str, mg_none X G z_tuple, mg_none X G z_list, mg_none X G z_set, mg_none X G z_sorted, mg_none X G z_max, mg_none X G z_min, mg_none X G z_sum, mg_none X G z_isinstance, mg_none X G z_enumerate, mg_none X G z_ValueError⟩
  have TW : ClW K c_Wire := ⟨⟨pg_Wire, hd_Wire, po_Wire, sa_Wire⟩, na_Wire_width, na_Wire_things, na_Wire_listening, na_Wire_told, na_Wire_many⟩
  have TK : ClK K c_Walk := ⟨⟨pg_Walk, hd_Walk, po_Walk, sa_Walk⟩, na_Walk_wire, na_Walk_kind, na_Walk_rest, na_Walk_said, na_Walk_names, na_Walk_seen⟩
  have X_BadBit : Lw.ExcC K mg "BadBit" e_BadBit := ⟨q_BadBit, PySem.W.mg_of X G n_BadBit, kx_BadBit, bx_BadBit, tx_BadBit⟩
  have X_BadKind : Lw.ExcC K mg "BadKind" e_BadKind := ⟨q_BadKind, PySem.W.mg_of X G n_BadKind, kx_BadKind, bx_BadKind, tx_BadKind⟩
  have X_BadNumber : Lw.ExcC K mg "BadNumber" e_BadNumber := ⟨q_BadNumber, PySem.W.mg_of X G n_BadNumber, kx_BadNumber, bx_BadNumber, tx_BadNumber⟩
  have X_BadWidth : Lw.ExcC K mg "BadWidth" e_BadWidth := ⟨q_BadWidth, PySem.W.mg_of X G n_BadWidth, kx_BadWidth, bx_BadWidth, tx_BadWidth⟩
  have X_NoRound : Lw.ExcC K mg "NoRound" e_NoRound := ⟨q_NoRound, PySem.W.mg_of X G n_NoRound, kx_NoRound, bx_NoRound, tx_NoRound⟩
  have X_NotThere : Lw.ExcC K mg "NotThere" e_NotThere := ⟨q_NotThere, PySem.W.mg_of X G n_NotThere, kx_NotThere, bx_NotThere, tx_NotThere⟩
  have X_Over : Lw.ExcC K mg "Over" e_Over := ⟨q_Over, PySem.W.mg_of X G n_Over, kx_Over, bx_Over, tx_Over⟩
  have X_There : Lw.ExcC K mg "There" e_There := ⟨q_There, PySem.W.mg_of X G n_There, kx_There, bx_There, tx_There⟩
  let g : Kinds K mg := ⟨e_BusError, e_BadWidth, e_BadNumber, e_BadKind, e_BadBit, e_There, e_NotThere, e_NoRound, e_Over, e_Busy, e_BadLooks, e_BadRoster, e_TooMany, e_BadPlan, e_BadStep, e_BadText, PySem.W.mg_of X G n_BusError, PySem.W.mg_of X G n_BadWidth, PySem.W.mg_of X G n_BadNumber, PySem.W.mg_of X G n_BadKind, PySem.W.mg_of X G n_BadBit, PySem.W.mg_of X G n_There, PySem.W.mg_of X G n_NotThere, PySem.W.mg_of X G n_NoRound, PySem.W.mg_of X G n_Over, PySem.W.mg_of X G n_Busy, PySem.W.mg_of X G n_BadLooks, PySem.W.mg_of X G n_BadRoster, PySem.W.mg_of X G n_TooMany, PySem.W.mg_of X G n_BadPlan, PySem.W.mg_of X G n_BadStep, PySem.W.mg_of X G n_BadText, kinds_kk kk, kinds_kv kv kg ka ks kh kl km kb kn kt⟩
  have k_FOUND := PySem.W.mg_of X G n_FOUND
  have k_KINDS := PySem.W.mg_of X G n_KINDS
  have k_LOST := PySem.W.mg_of X G n_LOST
  have k_MOST_WIDTH := PySem.W.mg_of X G n_MOST_WIDTH
  have F_law_taken := fun_mk (st := s_law_taken) l_law_taken d_law_taken k_law_taken
  have b_law_taken := F_law_taken.binds (ps := ["_law_row", "_law_many"]) fun _ _ _ _ _ _ us hl => match us, hl with | [_, _], _ => rfl
  have m_law_taken := PySem.W.mg_of X G a_law_taken
  have F_law_width := fun_mk (st := s_law_width) l_law_width d_law_width k_law_width
  have b_law_width := F_law_width.binds (ps := ["_law_row"]) fun _ _ _ _ _ _ us hl => match us, hl with | [_], _ => rfl
  have m_law_width := PySem.W.mg_of X G a_law_width
  have F_law_number := fun_mk (st := s_law_number) l_law_number d_law_number k_law_number
  have b_law_number := F_law_number.binds (ps := ["_law_row", "_law_width_here"]) fun _ _ _ _ _ _ us hl => match us, hl with | [_, _], _ => rfl
  have m_law_number := PySem.W.mg_of X G a_law_number
  have F_law_near := fun_mk (st := s_law_near) l_law_near d_law_near k_law_near
  have b_law_near := F_law_near.binds (ps := ["_law_row", "_law_width_here", "_law_some"]) fun _ _ _ _ _ _ us hl => match us, hl with | [_, _, _], _ => rfl
  have m_law_near := PySem.W.mg_of X G a_law_near
  have F_law_things := fun_mk (st := s_law_things) l_law_things d_law_things k_law_things
  have b_law_things := F_law_things.binds (ps := ["_law_row", "_law_width_here", "_law_most"]) fun _ _ _ _ _ _ us hl => match us, hl with | [_, _, _], _ => rfl
  have m_law_things := PySem.W.mg_of X G a_law_things
  have F_need_width := fun_mk (st := s_need_width) l_need_width d_need_width k_need_width
  have b_need_width := F_need_width.binds (ps := ["width"]) fun _ _ _ _ _ _ us hl => match us, hl with | [_], _ => rfl
  have m_need_width := PySem.W.mg_of X G a_need_width
  have F_Wire___init := fun_mk (st := s_Wire_init) l_Wire___init d_Wire___init k_Wire___init
  have b_Wire___init := F_Wire___init.binds (ps := ["self", "width"]) fun _ _ _ _ _ _ us hl => match us, hl with | [_, _], _ => rfl
  have F_are_bits := fun_mk (st := s_are_bits) l_are_bits d_are_bits k_are_bits
  have b_are_bits := F_are_bits.binds (ps := ["part"]) fun _ _ _ _ _ _ us hl => match us, hl with | [_], _ => rfl
  have m_are_bits := PySem.W.mg_of X G a_are_bits
  have F_is_number := fun_mk (st := s_is_number) l_is_number d_is_number k_is_number
  have b_is_number := F_is_number.binds (ps := ["width", "part"]) fun _ _ _ _ _ _ us hl => match us, hl with | [_, _], _ => rfl
  have m_is_number := PySem.W.mg_of X G a_is_number
  have F_need_number := fun_mk (st := s_need_number) l_need_number d_need_number k_need_number
  have b_need_number := F_need_number.binds (ps := ["width", "part"]) fun _ _ _ _ _ _ us hl => match us, hl with | [_, _], _ => rfl
  have m_need_number := PySem.W.mg_of X G a_need_number
  have F_Wire_hang := fun_mk (st := s_Wire_hang) l_Wire_hang d_Wire_hang k_Wire_hang
  have b_Wire_hang := F_Wire_hang.binds (ps := ["self", "number"]) fun _ _ _ _ _ _ us hl => match us, hl with | [_, _], _ => rfl
  have F_law_made := fun_mk (st := s_law_made) l_law_made d_law_made k_law_made
  have b_law_made := F_law_made.binds (ps := ["_law_width_here", "_law_numbers"]) fun _ _ _ _ _ _ us hl => match us, hl with | [_, _], _ => rfl
  have m_law_made := PySem.W.mg_of X G a_law_made
  have F_met := fun_mk (st := s_met) l_met d_met k_met
  have b_met := F_met.binds (ps := ["width", "numbers"]) fun _ _ _ _ _ _ us hl => match us, hl with | [_, _], _ => rfl
  have m_met := PySem.W.mg_of X G a_met
  have F_fewest := fun_mk (st := s_fewest) l_fewest d_fewest k_fewest
  have b_fewest := F_fewest.binds (ps := ["width", "numbers"]) fun _ _ _ _ _ _ us hl => match us, hl with | [_, _], _ => rfl
  have m_fewest := PySem.W.mg_of X G a_fewest
  have F_shown := fun_mk (st := s_shown) l_shown d_shown k_shown
  have b_shown := F_shown.binds (ps := ["width", "looks"]) fun _ _ _ _ _ _ us hl => match us, hl with | [_, _], _ => rfl
  have m_shown := PySem.W.mg_of X G a_shown
  have F_need_roster := fun_mk (st := s_need_roster) l_need_roster d_need_roster k_need_roster
  have b_need_roster := F_need_roster.binds (ps := ["width", "roster"]) fun _ _ _ _ _ _ us hl => match us, hl with | [_, _], _ => rfl
  have m_need_roster := PySem.W.mg_of X G a_need_roster
  have F_judged := fun_mk (st := s_judged) l_judged d_judged k_judged
  have b_judged := F_judged.binds (ps := ["width", "roster", "looks"]) fun _ _ _ _ _ _ us hl => match us, hl with | [_, _, _], _ => rfl
  have m_judged := PySem.W.mg_of X G a_judged
  have F_least := fun_mk (st := s_least) l_least d_least k_least
  have b_least := F_least.binds (ps := ["width", "roster", "hung"]) fun _ _ _ _ _ _ us hl => match us, hl with | [_, _, _], _ => rfl
  have m_least := PySem.W.mg_of X G a_least
  have F_plan_of := fun_mk (st := s_plan_of) l_plan_of d_plan_of k_plan_of
  have b_plan_of := F_plan_of.binds (ps := ["width", "roster"]) fun _ _ _ _ _ _ us hl => match us, hl with | [_, _], _ => rfl
  have m_plan_of := PySem.W.mg_of X G a_plan_of
  have F_follows := fun_mk (st := s_follows) l_follows d_follows k_follows
  have b_follows := F_follows.binds (ps := ["width", "roster", "plan"]) fun _ _ _ _ _ _ us hl => match us, hl with | [_, _, _], _ => rfl
  have m_follows := PySem.W.mg_of X G a_follows
  have F_Day___init := fun_mk (st := s_Day_init) l_Day___init d_Day___init k_Day___init
  have b_Day___init := F_Day___init.binds (ps := ["self", "width"]) fun _ _ _ _ _ _ us hl => match us, hl with | [_, _], _ => rfl
  have F_played := fun_mk (st := s_played) l_played d_played k_played
  have b_played := F_played.binds (ps := ["width", "steps"]) fun _ _ _ _ _ _ us hl => match us, hl with | [_, _], _ => rfl
  have m_played := PySem.W.mg_of X G a_played
  have F_law_wide : FunC K "_law_wide" "_law_wide" s_law_wide _ _ cd_law_wide := ⟨⟨oc_law_wide, od_law_wide, kV_law_wide, dc_law_wide, pm_law_wide, an_law_wide, ct_law_wide, sl_law_wide, rfl, l_law_wide, d_law_wide⟩, k_law_wide⟩
  have b_law_wide : Binds K _ ["_law_bad"] [] := F_law_wide.binds fun _ _ _ _ _ us hl => match us, hl with | [_], _ => rfl
  have m_law_wide := PySem.W.mg_of X G a_law_wide
  have F_law_odd := fun_mk (st := s_law_odd) l_law_odd d_law_odd k_law_odd
  have b_law_odd := F_law_odd.binds (ps := ["_law_row", "_law_width_here", "_law_far"]) fun _ _ _ _ _ _ us hl => match us, hl with | [_, _, _], _ => rfl
  have m_law_odd := PySem.W.mg_of X G a_law_odd
  have F_Wire_need_round := fun_mk (st := s_Wire_need_round) l_Wire_need_round d_Wire_need_round k_Wire_need_round
  have b_Wire_need_round := F_Wire_need_round.binds (ps := ["self"]) fun _ _ _ _ _ _ us hl => match us, hl with | [_], _ => rfl
  have F_look_at := fun_mk (st := s_look_at) l_look_at d_look_at k_look_at
  have b_look_at := F_look_at.binds (ps := ["numbers", "beginning"]) fun _ _ _ _ _ _ us hl => match us, hl with | [_, _], _ => rfl
  have m_look_at := PySem.W.mg_of X G a_look_at
  have F_Wire_look := fun_mk (st := s_Wire_look) l_Wire_look d_Wire_look k_Wire_look
  have b_Wire_look := F_Wire_look.binds (ps := ["self"]) fun _ _ _ _ _ _ us hl => match us, hl with | [_], _ => rfl
  have F_Wire_say := fun_mk (st := s_Wire_say) l_Wire_say d_Wire_say k_Wire_say
  have b_Wire_say := F_Wire_say.binds (ps := ["self", "bit"]) fun _ _ _ _ _ _ us hl => match us, hl with | [_, _], _ => rfl
  have F_need_kind := fun_mk (st := s_need_kind) l_need_kind d_need_kind k_need_kind
  have b_need_kind := F_need_kind.binds (ps := ["kind"]) fun _ _ _ _ _ _ us hl => match us, hl with | [_], _ => rfl
  have m_need_kind := PySem.W.mg_of X G a_need_kind
  have F_Wire_begin := fun_mk (st := s_Wire_begin) l_Wire_begin d_Wire_begin k_Wire_begin
  have b_Wire_begin := F_Wire_begin.binds (ps := ["self", "kind"]) fun _ _ _ _ _ _ us hl => match us, hl with | [_, _], _ => rfl
  have F_Wire_looks := fun_mk (st := s_Wire_looks) l_Wire_looks d_Wire_looks k_Wire_looks
  have b_Wire_looks := F_Wire_looks.binds (ps := ["self"]) fun _ _ _ _ _ _ us hl => match us, hl with | [_], _ => rfl
  have F_Walk___init := fun_mk (st := s_Walk_init) l_Walk___init d_Walk___init k_Walk___init
  have b_Walk___init := F_Walk___init.binds (ps := ["self", "wire", "kind"]) fun _ _ _ _ _ _ us hl => match us, hl with | [_, _, _], _ => rfl
  have F_Walk_say := fun_mk (st := s_Walk_say) l_Walk_say d_Walk_say k_Walk_say
  have b_Walk_say := F_Walk_say.binds (ps := ["self", "bit"]) fun _ _ _ _ _ _ us hl => match us, hl with | [_, _], _ => rfl
  have F_Walk_ended := fun_mk (st := s_Walk_ended) l_Walk_ended d_Walk_ended k_Walk_ended
  have b_Walk_ended := F_Walk_ended.binds (ps := ["self"]) fun _ _ _ _ _ _ us hl => match us, hl with | [_], _ => rfl
  have F_Walk_begin := fun_mk (st := s_Walk_begin) l_Walk_begin d_Walk_begin k_Walk_begin
  have b_Walk_begin := F_Walk_begin.binds (ps := ["self"]) fun _ _ _ _ _ _ us hl => match us, hl with | [_], _ => rfl
  have F_Walk_step := fun_mk (st := s_Walk_step) l_Walk_step d_Walk_step k_Walk_step
  have b_Walk_step := F_Walk_step.binds (ps := ["self"]) fun _ _ _ _ _ _ us hl => match us, hl with | [_], _ => rfl
  have F_Walk_go_round := fun_mk (st := s_Walk_go_round) l_Walk_go_round d_Walk_go_round k_Walk_go_round
  have b_Walk_go_round := F_Walk_go_round.binds (ps := ["self"]) fun _ _ _ _ _ _ us hl => match us, hl with | [_], _ => rfl
  have F_Walk_found := fun_mk (st := s_Walk_found) l_Walk_found d_Walk_found k_Walk_found
  have b_Walk_found := F_Walk_found.binds (ps := ["self"]) fun _ _ _ _ _ _ us hl => match us, hl with | [_], _ => rfl
  have F_Walk_go_all := fun_mk (st := s_Walk_go_all) l_Walk_go_all d_Walk_go_all k_Walk_go_all
  have b_Walk_go_all := F_Walk_go_all.binds (ps := ["self"]) fun _ _ _ _ _ _ us hl => match us, hl with | [_], _ => rfl
  have F_law_rounds : FunC K "_law_rounds" "_law_rounds" s_law_rounds _ _ cd_law_rounds := ⟨⟨oc_law_rounds, od_law_rounds, kV_law_rounds, dc_law_rounds, pm_law_rounds, an_law_rounds, ct_law_rounds, sl_law_rounds, rfl, l_law_rounds, d_law_rounds⟩, k_law_rounds⟩
  have b_law_rounds : Binds K _ ["_law_row", "_law_wire", "_law_width_here", "_law_far"] [] := F_law_rounds.binds fun _ _ _ _ _ us hl => match us, hl with | [_, _, _, _], _ => rfl
  have m_law_rounds := PySem.W.mg_of X G a_law_rounds
  have F_law_alike := fun_mk (st := s_law_alike) l_law_alike d_law_alike k_law_alike
  have b_law_alike := F_law_alike.binds (ps := ["_law_found", "_law_due"]) fun _ _ _ _ _ _ us hl => match us, hl with | [_, _], _ => rfl
  have m_law_alike := PySem.W.mg_of X G a_law_alike
  have F_Wire_need_thing := fun_mk (st := s_Wire_need_thing) l_Wire_need_thing d_Wire_need_thing k_Wire_need_thing
  have b_Wire_need_thing := F_Wire_need_thing.binds (ps := ["self", "number"]) fun _ _ _ _ _ _ us hl => match us, hl with | [_, _], _ => rfl
  have F_Wire_off := fun_mk (st := s_Wire_off) l_Wire_off d_Wire_off k_Wire_off
  have b_Wire_off := F_Wire_off.binds (ps := ["self", "number"]) fun _ _ _ _ _ _ us hl => match us, hl with | [_, _], _ => rfl
  have F_Wire_alarm := fun_mk (st := s_Wire_alarm) l_Wire_alarm d_Wire_alarm k_Wire_alarm
  have b_Wire_alarm := F_Wire_alarm.binds (ps := ["self", "number"]) fun _ _ _ _ _ _ us hl => match us, hl with | [_, _], _ => rfl
  have F_Wire_calm := fun_mk (st := s_Wire_calm) l_Wire_calm d_Wire_calm k_Wire_calm
  have b_Wire_calm := F_Wire_calm.binds (ps := ["self", "number"]) fun _ _ _ _ _ _ us hl => match us, hl with | [_, _], _ => rfl
  have F_Wire_hung := fun_mk (st := s_Wire_hung) l_Wire_hung d_Wire_hung k_Wire_hung
  have b_Wire_hung := F_Wire_hung.binds (ps := ["self"]) fun _ _ _ _ _ _ us hl => match us, hl with | [_], _ => rfl
  have F_Wire_alarms := fun_mk (st := s_Wire_alarms) l_Wire_alarms d_Wire_alarms k_Wire_alarms
  have b_Wire_alarms := F_Wire_alarms.binds (ps := ["self"]) fun _ _ _ _ _ _ us hl => match us, hl with | [_], _ => rfl
  have F_law : FunC K "law" "law" s_law _ _ cd_law := ⟨⟨oc_law, od_law, kV_law, dc_law, pm_law, an_law, ct_law, sl_law, rfl, l_law, d_law⟩, k_law⟩
  have F_law_word := fun_mk (st := s_law_word) l_law_word d_law_word k_law_word
  have b_law_word := F_law_word.binds (ps := ["_law_work"]) fun _ _ _ _ _ _ us hl => match us, hl with | [_], _ => rfl
  have m_law_word := PySem.W.mg_of X G a_law_word
  refine ⟨PySem.W.fnOf "law" "law" (defArgs s_law) (defBody s_law) (defScope s_law) .none kV_law dc_law pm_law an_law (.ref cd_law) ct_law, [(cd_law, P_law), (cd_law_wide, P_law_wide), (cd_law_rounds, P_law_rounds)], sp_law01 K [(P_law, ("law.<locals>.<lambda>" : Str)), (P_law_wide, ("_law_wide.<locals>.<lambda>" : Str)), (P_law_rounds, ("_law_rounds.<locals>.<lambda>" : Str))], ?_, ?_, ?_, fun s v => .of_eq rfl, ?_, ?_⟩
  · intro p hp
    simp only [List.mem_cons, List.not_mem_nil, or_false] at hp
    rcases hp with rfl | rfl | rfl
    all_goals exact hts _ (by assumption)
  · intro p hp
    simp only [List.mem_cons, List.not_mem_nil, or_false] at hp
    rcases hp with rfl | rfl | rfl
    all_goals assumption
  · intro p hp
    simp only [List.mem_cons, List.not_mem_nil, or_false] at hp
    rcases hp with rfl | rfl | rfl
    all_goals exact PySem.W.codeHd_of_K X (by assumption)
  · intro H a ns _ _ hT hS
    refine ⟨a, ns, rfl, hS, fun p hp => ?_, fun _ => rfl⟩
    simp only [List.mem_cons, List.not_mem_nil, or_false] at hp
    rcases hp with rfl | rfl | rfl
    · exact LamX.TabS.nil (hT (cd_law, P_law) (by simp))
    · exact LamX.TabS.nil (hT (cd_law_wide, P_law_wide) (by simp))
    · exact LamX.TabS.nil (hT (cd_law_rounds, P_law_rounds) (by simp))
  intro base hKb hNs TBs
  have C_law_taken : Cal l.prog w K mg base 1 "_law_taken" ["_law_row", "_law_many"] _ := ⟨f_law_taken, _, ok_taken (P := l.prog) (w := w) (base := base) (F := F_law_taken) (T := T), m_law_taken, k_law_taken, b_law_taken⟩
  have C_law_width : Cal l.prog w K mg base 2 "_law_width" ["_law_row"] _ := ⟨f_law_width, _, ok_width (P := l.prog) (w := w) (base := base) (F := F_law_width) (T := T) (C_law_taken := C_law_taken), m_law_width, k_law_width, b_law_width⟩
  have C_law_number : Cal l.prog w K mg base 2 "_law_number" ["_law_row", "_law_width_here"] _ := ⟨f_law_number, _, ok_number (P := l.prog) (w := w) (base := base) (F := F_law_number) (T := T) (C_law_taken := C_law_taken), m_law_number, k_law_number, b_law_number⟩
  have C_law_near : Cal l.prog w K mg base 3 "_law_near" ["_law_row", "_law_width_here", "_law_some"] _ := ⟨f_law_near, _, ok_near (P := l.prog) (w := w) (base := base) (F := F_law_near) (T := T) (C_law_taken := C_law_taken) (C_law_number := C_law_number), m_law_near, k_law_near, b_law_near⟩
  have C_law_things : Cal l.prog w K mg base 4 "_law_things" ["_law_row", "_law_width_here", "_law_most"] _ := ⟨f_law_things, _, ok_things (P := l.prog) (w := w) (base := base) (F := F_law_things) (T := T) (C_law_taken := C_law_taken) (C_law_number := C_law_number) (C_law_near := C_law_near), m_law_things, k_law_things, b_law_things⟩
  have C_need_width : Cal l.prog w K mg base 1 "need_width" ["width"] _ := ⟨f_need_width, _, ok_need_width (P := l.prog) (w := w) (base := base) (F := F_need_width) (T := T) (k_MOST_WIDTH := k_MOST_WIDTH) (X_BadWidth := X_BadWidth), m_need_width, k_need_width, b_need_width⟩
  have C_Wire : CalC l.prog w K mg base 2 c_Wire "Wire" ["self", "width"] _ := ⟨f_Wire___init, _, ok_winit (P := l.prog) (w := w) (base := base) (F := F_Wire___init) (T := T) (TW := TW) (C_need_width := C_need_width), ⟨mk_Wire, a_Wire___init, i_Wire___init, kc_Wire⟩, PySem.W.mg_of X G n_Wire, b_Wire___init⟩
  have C_are_bits : Cal l.prog w K mg base 1 "are_bits" ["part"] _ := ⟨f_are_bits, _, ok_are_bits (P := l.prog) (w := w) (base := base) (F := F_are_bits) (T := T), m_are_bits, k_are_bits, b_are_bits⟩
  have C_is_number : Cal l.prog w K mg base 2 "is_number" ["width", "part"] _ := ⟨f_is_number, _, ok_is_number (P := l.prog) (w := w) (base := base) (F := F_is_number) (T := T) (C_are_bits := C_are_bits), m_is_number, k_is_number, b_is_number⟩
  have C_need_number : Cal l.prog w K mg base 3 "need_number" ["width", "part"] _ := ⟨f_need_number, _, ok_need_number (P := l.prog) (w := w) (base := base) (F := F_need_number) (T := T) (C_is_number := C_is_number) (X_BadNumber := X_BadNumber), m_need_number, k_need_number, b_need_number⟩
  have C_Wire_hang : CalM l.prog w K mg base 4 c_Wire "hang" ["self", "number"] _ := ⟨f_Wire_hang, _, ok_hang (P := l.prog) (w := w) (base := base) (F := F_Wire_hang) (T := T) (TW := TW) (C_need_number := C_need_number) (X_There := X_There), ⟨a_Wire_hang, i_Wire_hang, k_Wire_hang⟩, b_Wire_hang⟩
  have C_law_made : Cal l.prog w K mg base 5 "_law_made" ["_law_width_here", "_law_numbers"] _ := ⟨f_law_made, _, ok_made (P := l.prog) (w := w) (base := base) (F := F_law_made) (T := T) (TW := TW) (C_Wire := C_Wire) (C_Wire_hang := C_Wire_hang), m_law_made, k_law_made, b_law_made⟩
  have C_need_width__sp_bw : Cal l.prog w K mg base 1 "need_width" ["width"] _ := ⟨f_need_width, _, ok_need_width_B (P := l.prog) (w := w) (base := base) (F := F_need_width) (T := T) (k_MOST_WIDTH := k_MOST_WIDTH) (X_BadWidth := X_BadWidth), m_need_width, k_need_width, b_need_width⟩
  have C_Wire__sp_binit : CalC l.prog w K mg base 2 c_Wire "Wire" ["self", "width"] _ := ⟨f_Wire___init, _, ok_Wire_init_B (P := l.prog) (w := w) (base := base) (F := F_Wire___init) (T := T) (C_need_width := C_need_width__sp_bw), ⟨mk_Wire, a_Wire___init, i_Wire___init, kc_Wire⟩, PySem.W.mg_of X G n_Wire, b_Wire___init⟩
  have C_met : Cal l.prog w K mg base 2 "met" ["width", "numbers"] _ := ⟨f_met, _, ok_met_B (P := l.prog) (w := w) (base := base) (F := F_met) (T := T) (C_need_width := C_need_width__sp_bw), m_met, k_met, b_met⟩
  have C_fewest : Cal l.prog w K mg base 2 "fewest" ["width", "numbers"] _ := ⟨f_fewest, _, ok_fewest_B (P := l.prog) (w := w) (base := base) (F := F_fewest) (T := T) (C_need_width := C_need_width__sp_bw), m_fewest, k_fewest, b_fewest⟩
  have C_shown : Cal l.prog w K mg base 2 "shown" ["width", "looks"] _ := ⟨f_shown, _, ok_shown_B (P := l.prog) (w := w) (base := base) (F := F_shown) (T := T) (C_need_width := C_need_width__sp_bw), m_shown, k_shown, b_shown⟩
  have C_need_roster : Cal l.prog w K mg base 2 "need_roster" ["width", "roster"] _ := ⟨f_need_roster, _, ok_need_roster_B (P := l.prog) (w := w) (base := base) (F := F_need_roster) (T := T) (C_need_width := C_need_width__sp_bw), m_need_roster, k_need_roster, b_need_roster⟩
  have C_judged : Cal l.prog w K mg base 3 "judged" ["width", "roster", "looks"] _ := ⟨f_judged, _, ok_judged_B (P := l.prog) (w := w) (base := base) (F := F_judged) (T := T) (C_need_roster := C_need_roster), m_judged, k_judged, b_judged⟩
  have C_least : Cal l.prog w K mg base 3 "least" ["width", "roster", "hung"] _ := ⟨f_least, _, ok_least_B (P := l.prog) (w := w) (base := base) (F := F_least) (T := T) (C_need_roster := C_need_roster), m_least, k_least, b_least⟩
  have C_plan_of : Cal l.prog w K mg base 3 "plan_of" ["width", "roster"] _ := ⟨f_plan_of, _, ok_plan_of_B (P := l.prog) (w := w) (base := base) (F := F_plan_of) (T := T) (C_need_roster := C_need_roster), m_plan_of, k_plan_of, b_plan_of⟩
  have C_follows : Cal l.prog w K mg base 3 "follows" ["width", "roster", "plan"] _ := ⟨f_follows, _, ok_follows_B (P := l.prog) (w := w) (base := base) (F := F_follows) (T := T) (C_need_roster := C_need_roster), m_follows, k_follows, b_follows⟩
  have C_Day : CalC l.prog w K mg base 4 c_Day "Day" ["self", "width"] _ := ⟨f_Day___init, _, ok_Day_init_B (P := l.prog) (w := w) (base := base) (F := F_Day___init) (T := T) (C_Wire := C_Wire__sp_binit), ⟨mk_Day, a_Day___init, i_Day___init, kc_Day⟩, PySem.W.mg_of X G n_Day, b_Day___init⟩
  have C_played : Cal l.prog w K mg base 6 "played" ["width", "steps"] _ := ⟨f_played, _, ok_played_B (P := l.prog) (w := w) (base := base) (F := F_played) (T := T) (C_Day := C_Day), m_played, k_played, b_played⟩
  have C_law_wide : Cal l.prog w K mg base 2 "_law_wide" ["_law_bad"] _ := ⟨f_law_wide, _, ok_wide (P := l.prog) (w := w) (base := base) (TT := [(P_law, ("law.<locals>.<lambda>" : Str)), (P_law_wide, ("_law_wide.<locals>.<lambda>" : Str)), (P_law_rounds, ("_law_rounds.<locals>.<lambda>" : Str))]) (F := F_law_wide) (T := T) (TB := (TBs (cd_law_wide, P_law_wide) (by simp))) (hmT := (by simp)) (hu := (by
      intro p hp e
      simp only [List.mem_cons, List.not_mem_nil, or_false] at hp
      rcases hp with rfl | rfl | rfl <;> first | rfl | (exfalso; first | exact absurd e hP01 | exact absurd e hP12.symm))) (C_Wire := C_Wire__sp_binit) (C_met := C_met) (C_fewest := C_fewest) (C_shown := C_shown) (C_judged := C_judged) (C_least := C_least) (C_plan_of := C_plan_of) (C_follows := C_follows) (C_played := C_played), m_law_wide, k_law_wide, b_law_wide⟩
  have C_law_odd : Cal l.prog w K mg base 3 "_law_odd" ["_law_row", "_law_width_here", "_law_far"] _ := ⟨f_law_odd, _, ok_odd01 (P := l.prog) (w := w) (base := base) (F := F_law_odd) (T := T) (C_law_taken := C_law_taken) (C_law_number := C_law_number), m_law_odd, k_law_odd, b_law_odd⟩
  have C_Wire_need_round : CalM l.prog w K mg base 1 c_Wire "need_round" ["self"] _ := ⟨f_Wire_need_round, _, ok_need_round (P := l.prog) (w := w) (base := base) (F := F_Wire_need_round) (T := T) (TW := TW) (X_NoRound := X_NoRound), ⟨a_Wire_need_round, i_Wire_need_round, k_Wire_need_round⟩, b_Wire_need_round⟩
  have C_look_at : Cal l.prog w K mg base 1 "look_at" ["numbers", "beginning"] _ := ⟨f_look_at, _, ok_look_at (P := l.prog) (w := w) (base := base) (F := F_look_at) (T := T), m_look_at, k_look_at, b_look_at⟩
  have C_Wire_look : CalM l.prog w K mg base 2 c_Wire "look" ["self"] _ := ⟨f_Wire_look, _, ok_look (P := l.prog) (w := w) (base := base) (F := F_Wire_look) (T := T) (TW := TW) (C_Wire_need_round := C_Wire_need_round) (C_look_at := C_look_at), ⟨a_Wire_look, i_Wire_look, k_Wire_look⟩, b_Wire_look⟩
  have C_Wire_say__sp_sayV : CalM l.prog w K mg base 2 c_Wire "say" ["self", "bit"] _ := ⟨f_Wire_say, _, ok_sayV (P := l.prog) (w := w) (base := base) (F := F_Wire_say) (T := T) (TW := TW) (C_Wire_need_round := C_Wire_need_round) (X_BadBit := X_BadBit), ⟨a_Wire_say, i_Wire_say, k_Wire_say⟩, b_Wire_say⟩
  have C_need_kind : Cal l.prog w K mg base 1 "need_kind" ["kind"] _ := ⟨f_need_kind, _, ok_need_kind (P := l.prog) (w := w) (base := base) (F := F_need_kind) (T := T) (k_KINDS := k_KINDS) (t_KINDS := t_KINDS) (X_BadKind := X_BadKind), m_need_kind, k_need_kind, b_need_kind⟩
  have C_Wire_begin : CalM l.prog w K mg base 2 c_Wire "begin" ["self", "kind"] _ := ⟨f_Wire_begin, _, ok_begin (P := l.prog) (w := w) (base := base) (F := F_Wire_begin) (T := T) (TW := TW) (C_need_kind := C_need_kind), ⟨a_Wire_begin, i_Wire_begin, k_Wire_begin⟩, b_Wire_begin⟩
  have C_Wire_looks : CalM l.prog w K mg base 1 c_Wire "looks" ["self"] _ := ⟨f_Wire_looks, _, ok_looks (P := l.prog) (w := w) (base := base) (F := F_Wire_looks) (T := T) (TW := TW), ⟨a_Wire_looks, i_Wire_looks, k_Wire_looks⟩, b_Wire_looks⟩
  have C_Walk : CalC l.prog w K mg base 2 c_Walk "Walk" ["self", "wire", "kind"] _ := ⟨f_Walk___init, _, ok_kinit (P := l.prog) (w := w) (base := base) (F := F_Walk___init) (T := T) (TK := TK) (C_need_kind := C_need_kind), ⟨mk_Walk, a_Walk___init, i_Walk___init, kc_Walk⟩, PySem.W.mg_of X G n_Walk, b_Walk___init⟩
  have C_Wire_say : CalM l.prog w K mg base 2 c_Wire "say" ["self", "bit"] _ := ⟨f_Wire_say, _, ok_say (P := l.prog) (w := w) (base := base) (F := F_Wire_say) (T := T) (TW := TW) (C_Wire_need_round := C_Wire_need_round) (X_BadBit := X_BadBit), ⟨a_Wire_say, i_Wire_say, k_Wire_say⟩, b_Wire_say⟩
  have C_Walk_say : CalM l.prog w K mg base 3 c_Walk "say" ["self", "bit"] _ := ⟨f_Walk_say, _, ok_ksay (P := l.prog) (w := w) (base := base) (F := F_Walk_say) (T := T) (TW := TW) (TK := TK) (C_Wire_say := C_Wire_say), ⟨a_Walk_say, i_Walk_say, k_Walk_say⟩, b_Walk_say⟩
  have C_Walk_ended : CalM l.prog w K mg base 1 c_Walk "ended" ["self"] _ := ⟨f_Walk_ended, _, ok_kended (P := l.prog) (w := w) (base := base) (F := F_Walk_ended) (T := T) (TW := TW) (TK := TK) (k_FOUND := k_FOUND), ⟨a_Walk_ended, i_Walk_ended, k_Walk_ended⟩, b_Walk_ended⟩
  have C_Walk_begin : CalM l.prog w K mg base 4 c_Walk "begin" ["self"] _ := ⟨f_Walk_begin, _, ok_kbegin (P := l.prog) (w := w) (base := base) (F := F_Walk_begin) (T := T) (TW := TW) (TK := TK) (X_Over := X_Over) (C_Wire_begin := C_Wire_begin) (C_Walk_say := C_Walk_say) (C_Walk_ended := C_Walk_ended), ⟨a_Walk_begin, i_Walk_begin, k_Walk_begin⟩, b_Walk_begin⟩
  have C_Walk_step : CalM l.prog w K mg base 5 c_Walk "step" ["self"] _ := ⟨f_Walk_step, _, ok_kstep (P := l.prog) (w := w) (base := base) (F := F_Walk_step) (T := T) (TW := TW) (TK := TK) (k_LOST := k_LOST) (C_Wire_look := C_Wire_look) (C_Walk_say := C_Walk_say) (C_Walk_ended := C_Walk_ended) (C_Walk_begin := C_Walk_begin), ⟨a_Walk_step, i_Walk_step, k_Walk_step⟩, b_Walk_step⟩
  have C_Walk_go_round : CalM l.prog w K mg base 6 c_Walk "go_round" ["self"] _ := ⟨f_Walk_go_round, _, ok_kround (P := l.prog) (w := w) (base := base) (F := F_Walk_go_round) (T := T) (TW := TW) (TK := TK) (C_Walk_step := C_Walk_step), ⟨a_Walk_go_round, i_Walk_go_round, k_Walk_go_round⟩, b_Walk_go_round⟩
  have C_Walk_found : CalM l.prog w K mg base 1 c_Walk "found" ["self"] _ := ⟨f_Walk_found, _, ok_kfound (P := l.prog) (w := w) (base := base) (F := F_Walk_found) (T := T) (TK := TK), ⟨a_Walk_found, i_Walk_found, k_Walk_found⟩, b_Walk_found⟩
  have C_Walk_go_all : CalM l.prog w K mg base 7 c_Walk "go_all" ["self"] _ := ⟨f_Walk_go_all, _, ok_kall (P := l.prog) (w := w) (base := base) (F := F_Walk_go_all) (T := T) (TW := TW) (TK := TK) (C_Walk_go_round := C_Walk_go_round) (C_Walk_found := C_Walk_found), ⟨a_Walk_go_all, i_Walk_go_all, k_Walk_go_all⟩, b_Walk_go_all⟩
  have C_law_rounds : Cal l.prog w K mg base 22 "_law_rounds" ["_law_row", "_law_wire", "_law_width_here", "_law_far"] _ := ⟨f_law_rounds, _, ok_rounds (P := l.prog) (w := w) (base := base) (TT := [(P_law, ("law.<locals>.<lambda>" : Str)), (P_law_wide, ("_law_wide.<locals>.<lambda>" : Str)), (P_law_rounds, ("_law_rounds.<locals>.<lambda>" : Str))]) (g := g) (F := F_law_rounds) (T := T) (TW := TW) (TK := TK) (Fw := F_law_word) (bw := b_law_word) (m_word := m_law_word) (TB := (TBs (cd_law_rounds, P_law_rounds) (by simp))) (hmT := (by simp)) (hu := (by
      intro p hp e
      simp only [List.mem_cons, List.not_mem_nil, or_false] at hp
      rcases hp with rfl | rfl | rfl <;> first | rfl | (exfalso; first | exact absurd e hP02 | exact absurd e hP12))) (C_law_taken := C_law_taken) (C_Wire_look := C_Wire_look) (C_Wire_say := C_Wire_say__sp_sayV) (C_Wire_begin := C_Wire_begin) (C_Wire_looks := C_Wire_looks) (C_Walk := C_Walk) (C_Walk_go_all := C_Walk_go_all) (C_Walk_step := C_Walk_step) (C_Walk_go_round := C_Walk_go_round), m_law_rounds, k_law_rounds, b_law_rounds⟩
  have C_law_alike : Cal l.prog w K mg base 7 "_law_alike" ["_law_found", "_law_due"] _ := ⟨f_law_alike, _, ok_alike (P := l.prog) (w := w) (base := base) (F := F_law_alike) (T := T) (hm := m_law_alike) (hb := b_law_alike) 7, m_law_alike, k_law_alike, b_law_alike⟩
  have C_Wire_need_thing : CalM l.prog w K mg base 4 c_Wire "need_thing" ["self", "number"] _ := ⟨f_Wire_need_thing, _, ok_need_thing (P := l.prog) (w := w) (base := base) (F := F_Wire_need_thing) (T := T) (TW := TW) (C_need_number := C_need_number) (X_NotThere := X_NotThere), ⟨a_Wire_need_thing, i_Wire_need_thing, k_Wire_need_thing⟩, b_Wire_need_thing⟩
  have C_Wire_off : CalM l.prog w K mg base 5 c_Wire "off" ["self", "number"] _ := ⟨f_Wire_off, _, ok_off (P := l.prog) (w := w) (base := base) (F := F_Wire_off) (T := T) (TW := TW) (C_Wire_need_thing := C_Wire_need_thing), ⟨a_Wire_off, i_Wire_off, k_Wire_off⟩, b_Wire_off⟩
  have C_Wire_alarm : CalM l.prog w K mg base 5 c_Wire "alarm" ["self", "number"] _ := ⟨f_Wire_alarm, _, ok_alarm (P := l.prog) (w := w) (base := base) (F := F_Wire_alarm) (T := T) (TW := TW) (C_Wire_need_thing := C_Wire_need_thing), ⟨a_Wire_alarm, i_Wire_alarm, k_Wire_alarm⟩, b_Wire_alarm⟩
  have C_Wire_calm : CalM l.prog w K mg base 5 c_Wire "calm" ["self", "number"] _ := ⟨f_Wire_calm, _, ok_calm (P := l.prog) (w := w) (base := base) (F := F_Wire_calm) (T := T) (TW := TW) (C_Wire_need_thing := C_Wire_need_thing), ⟨a_Wire_calm, i_Wire_calm, k_Wire_calm⟩, b_Wire_calm⟩
  have C_met__sp_badN : Cal l.prog w K mg base 4 "met" ["width", "numbers"] _ := ⟨f_met, _, ok_met_N (P := l.prog) (w := w) (base := base) (F := F_met) (T := T) (C_need_width := C_need_width) (C_need_number := C_need_number), m_met, k_met, b_met⟩
  have C_fewest__sp_badN : Cal l.prog w K mg base 4 "fewest" ["width", "numbers"] _ := ⟨f_fewest, _, ok_fewest_N (P := l.prog) (w := w) (base := base) (F := F_fewest) (T := T) (C_need_width := C_need_width) (C_need_number := C_need_number), m_fewest, k_fewest, b_fewest⟩
  have C_Wire_hung : CalM l.prog w K mg base 1 c_Wire "hung" ["self"] _ := ⟨f_Wire_hung, _, ok_hung (P := l.prog) (w := w) (base := base) (F := F_Wire_hung) (T := T) (TW := TW), ⟨a_Wire_hung, i_Wire_hung, k_Wire_hung⟩, b_Wire_hung⟩
  have C_Wire_alarms : CalM l.prog w K mg base 1 c_Wire "alarms" ["self"] _ := ⟨f_Wire_alarms, _, ok_alarms (P := l.prog) (w := w) (base := base) (F := F_Wire_alarms) (T := T) (TW := TW), ⟨a_Wire_alarms, i_Wire_alarms, k_Wire_alarms⟩, b_Wire_alarms⟩
  exact ok_law01 (P := l.prog) (w := w) (base := base) (TT := [(P_law, ("law.<locals>.<lambda>" : Str)), (P_law_wide, ("_law_wide.<locals>.<lambda>" : Str)), (P_law_rounds, ("_law_rounds.<locals>.<lambda>" : Str))]) (g := g) (F := F_law) (T := T) (TW := TW) (Fw := F_law_word) (bw := b_law_word) (m_word := m_law_word) (TB := (TBs (cd_law, P_law) (by simp))) (hmT := (by simp)) (hu := (by
      intro p hp e
      simp only [List.mem_cons, List.not_mem_nil, or_false] at hp
      rcases hp with rfl | rfl | rfl <;> first | rfl | (exfalso; first | exact absurd e hP01.symm | exact absurd e hP02.symm))) (C_law_taken := C_law_taken) (C_law_width := C_law_width) (C_law_things := C_law_things) (C_law_made := C_law_made) (C_law_wide := C_law_wide) (C_law_odd := C_law_odd) (C_law_number := C_law_number) (C_law_rounds := C_law_rounds) (C_law_alike := C_law_alike) (C_Wire_hang := C_Wire_hang) (C_Wire_off := C_Wire_off) (C_Wire_alarm := C_Wire_alarm) (C_Wire_calm := C_Wire_calm) (C_met := C_met__sp_badN) (C_fewest := C_fewest__sp_badN) (C_Wire_begin := C_Wire_begin) (C_Walk := C_Walk) (C_Wire_hung := C_Wire_hung) (C_Wire_alarms := C_Wire_alarms) (C_Wire_looks := C_Wire_looks)
end My
end

section
set_option pp.maxSteps 700
namespace HR
open PySem PySem.Spec PyProof.Rows L2 He Lw Hr
abbrev SY (w : World) (h : Heap) (K : PySem.W.Frag) : Prop := SaysH fn tf ex hs hv w h K
theorem ex_0_ok {K : PySem.W.Frag} (h : ex_0 K = true) : (PySem.W.nsIn K mainGlobals "Wire" = some (some (.ref (A_c_Wire K)))) ∧ (PySem.W.nsIn K mainGlobals "Walk" = some (some (.ref (A_c_Walk K)))) ∧ (PySem.W.nsIn K mainGlobals "Day" = some (some (.ref (A_c_Day K)))) ∧ (PySem.W.nsIn K mainGlobals "_law_taken" = some (some (.ref (A_f_law_taken K)))) ∧ (PySem.W.keepIn K (.ref (A_f_law_taken K)) = true) ∧ (PySem.W.nsIn K mainGlobals "_law_width" = some (some (.ref (A_f_law_width K)))) ∧ (PySem.W.keepIn K (.ref (A_f_law_width K)) = true) ∧ (PySem.W.nsIn K mainGlobals "_law_number" = some (some (.ref (A_f_law_number K)))) ∧ (PySem.W.keepIn K (.ref (A_f_law_number K)) = true) ∧ (PySem.W.nsIn K mainGlobals "_law_near" = some (some (.ref (A_f_law_near K)))) ∧ (PySem.W.keepIn K (.ref (A_f_law_near K)) = true) ∧ (PySem.W.nsIn K mainGlobals "_law_things" = some (some (.ref (A_f_law_things K)))) ∧ (PySem.W.keepIn K (.ref (A_f_law_things K)) = true) ∧ (PySem.W.nsIn K mainGlobals "need_width" = some (some (.ref (A_f_need_width K)))) ∧ (PySem.W.keepIn K (.ref (A_f_need_width K)) = true) ∧ (PySem.W.findIn K (.ref (A_c_Wire K)) "__init__" = some (some (.ref (A_f_Wire___init K)))) ∧ (PySem.W.isFn K (.ref (A_f_Wire___init K)) = true) ∧ (PySem.W.keepIn K (.ref (A_f_Wire___init K)) = true) ∧ (PySem.W.nsIn K mainGlobals "are_bits" = some (some (.ref (A_f_are_bits K)))) ∧ (PySem.W.keepIn K (.ref (A_f_are_bits K)) = true) ∧ (PySem.W.nsIn K mainGlobals "is_number" = some (some (.ref (A_f_is_number K)))) ∧ (PySem.W.keepIn K (.ref (A_f_is_number K)) = true) ∧ (PySem.W.nsIn K mainGlobals "need_number" = some (some (.ref (A_f_need_number K)))) ∧ (PySem.W.keepIn K (.ref (A_f_need_number K)) = true) ∧ (PySem.W.findIn K (.ref (A_c_Wire K)) "hang" = some (some (.ref (A_f_Wire_hang K)))) ∧  True := by
  unfold ex_0 at h
  obtain ⟨h0, h⟩ := ba h
  obtain ⟨h1, h⟩ := ba h
  obtain ⟨h2, h⟩ := ba h
  obtain ⟨h3, h⟩ := ba h
  obtain ⟨h4, h⟩ := ba h
  obtain ⟨h5, h⟩ := ba h
  obtain ⟨h6, h⟩ := ba h
  obtain ⟨h7, h⟩ := ba h
  obtain ⟨h8, h⟩ := ba h
  obtain ⟨h9, h⟩ := ba h
  obtain ⟨h10, h⟩ := ba h
  obtain ⟨h11, h⟩ := ba h
  obtain ⟨h12, h⟩ := ba h
  obtain ⟨h13, h⟩ := ba h
  obtain ⟨h14, h⟩ := ba h
  obtain ⟨h15, h⟩ := ba h
  obtain ⟨h16, h⟩ := ba h
  obtain ⟨h17, h⟩ := ba h
  obtain ⟨h18, h⟩ := ba h
  obtain ⟨h19, h⟩ := ba h
  obtain ⟨h20, h⟩ := ba h
  obtain ⟨h21, h⟩ := ba h
  obtain ⟨h22, h⟩ := ba h
  obtain ⟨h23, h⟩ := ba h
  obtain ⟨h24, h⟩ := ba h
  exact ⟨of_decide_eq_true h0, of_decide_eq_true h1, of_decide_eq_true h2, of_decide_eq_true h3, h4, of_decide_eq_true h5, h6, of_decide_eq_true h7, h8, of_decide_eq_true h9, h10, of_decide_eq_true h11, h12, of_decide_eq_true h13, h14, of_decide_eq_true h15, h16, h17, of_decide_eq_true h18, h19, of_decide_eq_true h20, h21, of_decide_eq_true h22, h23, of_decide_eq_true h24, trivial⟩
theorem ex_1_ok {K : PySem.W.Frag} (h : ex_1 K = true) : (PySem.W.isFn K (.ref (A_f_Wire_hang K)) = true) ∧ (PySem.W.keepIn K (.ref (A_f_Wire_hang K)) = true) ∧ (PySem.W.nsIn K mainGlobals "_law_made" = some (some (.ref (A_f_law_made K)))) ∧ (PySem.W.keepIn K (.ref (A_f_law_made K)) = true) ∧ (PySem.W.nsIn K mainGlobals "met" = some (some (.ref (A_f_met K)))) ∧ (PySem.W.keepIn K (.ref (A_f_met K)) = true) ∧ (PySem.W.nsIn K mainGlobals "fewest" = some (some (.ref (A_f_fewest K)))) ∧ (PySem.W.keepIn K (.ref (A_f_fewest K)) = true) ∧ (PySem.W.nsIn K mainGlobals "shown" = some (some (.ref (A_f_shown K)))) ∧ (PySem.W.keepIn K (.ref (A_f_shown K)) = true) ∧ (PySem.W.nsIn K mainGlobals "need_roster" = some (some (.ref (A_f_need_roster K)))) ∧ (PySem.W.keepIn K (.ref (A_f_need_roster K)) = true) ∧ (PySem.W.nsIn K mainGlobals "judged" = some (some (.ref (A_f_judged K)))) ∧ (PySem.W.keepIn K (.ref (A_f_judged K)) = true) ∧ (PySem.W.nsIn K mainGlobals "least" = some (some (.ref (A_f_least K)))) ∧ (PySem.W.keepIn K (.ref (A_f_least K)) = true) ∧ (PySem.W.nsIn K mainGlobals "plan_of" = some (some (.ref (A_f_plan_of K)))) ∧ (PySem.W.keepIn K (.ref (A_f_plan_of K)) = true) ∧ (PySem.W.nsIn K mainGlobals "follows" = some (some (.ref (A_f_follows K)))) ∧ (PySem.W.keepIn K (.ref (A_f_follows K)) = true) ∧ (PySem.W.findIn K (.ref (A_c_Day K)) "__init__" = some (some (.ref (A_f_Day___init K)))) ∧ (PySem.W.isFn K (.ref (A_f_Day___init K)) = true) ∧ (PySem.W.keepIn K (.ref (A_f_Day___init K)) = true) ∧ (PySem.W.nsIn K mainGlobals "played" = some (some (.ref (A_f_played K)))) ∧ (PySem.W.keepIn K (.ref (A_f_played K)) = true) ∧  True := by
  unfold ex_1 at h
  obtain ⟨h0, h⟩ := ba h
  obtain ⟨h1, h⟩ := ba h
  obtain ⟨h2, h⟩ := ba h
  obtain ⟨h3, h⟩ := ba h
  obtain ⟨h4, h⟩ := ba h
  obtain ⟨h5, h⟩ := ba h
  obtain ⟨h6, h⟩ := ba h
  obtain ⟨h7, h⟩ := ba h
  obtain ⟨h8, h⟩ := ba h
  obtain ⟨h9, h⟩ := ba h
  obtain ⟨h10, h⟩ := ba h
  obtain ⟨h11, h⟩ := ba h
  obtain ⟨h12, h⟩ := ba h
  obtain ⟨h13, h⟩ := ba h
  obtain ⟨h14, h⟩ := ba h
  obtain ⟨h15, h⟩ := ba h
  obtain ⟨h16, h⟩ := ba h
  obtain ⟨h17, h⟩ := ba h
  obtain ⟨h18, h⟩ := ba h
  obtain ⟨h19, h⟩ := ba h
  obtain ⟨h20, h⟩ := ba h
  obtain ⟨h21, h⟩ := ba h
  obtain ⟨h22, h⟩ := ba h
  obtain ⟨h23, h⟩ := ba h
  obtain ⟨h24, h⟩ := ba h
  exact ⟨h0, h1, of_decide_eq_true h2, h3, of_decide_eq_true h4, h5, of_decide_eq_true h6, h7, of_decide_eq_true h8, h9, of_decide_eq_true h10, h11, of_decide_eq_true h12, h13, of_decide_eq_true h14, h15, of_decide_eq_true h16, h17, of_decide_eq_true h18, h19, of_decide_eq_true h20, h21, h22, of_decide_eq_true h23, h24, trivial⟩
theorem ex_2_ok {K : PySem.W.Frag} (h : ex_2 K = true) : (PySem.W.nsIn K mainGlobals "_law_wide" = some (some (.ref (A_f_law_wide K)))) ∧ (PySem.W.keepIn K (.ref (A_f_law_wide K)) = true) ∧ (PySem.W.nsIn K mainGlobals "_law_odd" = some (some (.ref (A_f_law_odd K)))) ∧ (PySem.W.keepIn K (.ref (A_f_law_odd K)) = true) ∧ (PySem.W.findIn K (.ref (A_c_Wire K)) "need_round" = some (some (.ref (A_f_Wire_need_round K)))) ∧ (PySem.W.isFn K (.ref (A_f_Wire_need_round K)) = true) ∧ (PySem.W.keepIn K (.ref (A_f_Wire_need_round K)) = true) ∧ (PySem.W.nsIn K mainGlobals "look_at" = some (some (.ref (A_f_look_at K)))) ∧ (PySem.W.keepIn K (.ref (A_f_look_at K)) = true) ∧ (PySem.W.findIn K (.ref (A_c_Wire K)) "look" = some (some (.ref (A_f_Wire_look K)))) ∧ (PySem.W.isFn K (.ref (A_f_Wire_look K)) = true) ∧ (PySem.W.keepIn K (.ref (A_f_Wire_look K)) = true) ∧ (PySem.W.findIn K (.ref (A_c_Wire K)) "say" = some (some (.ref (A_f_Wire_say K)))) ∧ (PySem.W.isFn K (.ref (A_f_Wire_say K)) = true) ∧ (PySem.W.keepIn K (.ref (A_f_Wire_say K)) = true) ∧ (PySem.W.nsIn K mainGlobals "need_kind" = some (some (.ref (A_f_need_kind K)))) ∧ (PySem.W.keepIn K (.ref (A_f_need_kind K)) = true) ∧ (PySem.W.findIn K (.ref (A_c_Wire K)) "begin" = some (some (.ref (A_f_Wire_begin K)))) ∧ (PySem.W.isFn K (.ref (A_f_Wire_begin K)) = true) ∧ (PySem.W.keepIn K (.ref (A_f_Wire_begin K)) = true) ∧ (PySem.W.findIn K (.ref (A_c_Wire K)) "looks" = some (some (.ref (A_f_Wire_looks K)))) ∧ (PySem.W.isFn K (.ref (A_f_Wire_looks K)) = true) ∧ (PySem.W.keepIn K (.ref (A_f_Wire_looks K)) = true) ∧ (PySem.W.findIn K (.ref (A_c_Walk K)) "__init__" = some (some (.ref (A_f_Walk___init K)))) ∧ (PySem.W.isFn K (.ref (A_f_Walk___init K)) = true) ∧  True := by
  unfold ex_2 at h
  obtain ⟨h0, h⟩ := ba h
  obtain ⟨h1, h⟩ := ba h
  obtain ⟨h2, h⟩ := ba h
  obtain ⟨h3, h⟩ := ba h
  obtain ⟨h4, h⟩ := ba h
  obtain ⟨h5, h⟩ := ba h
  obtain ⟨h6, h⟩ := ba h
  obtain ⟨h7, h⟩ := ba h
  obtain ⟨h8, h⟩ := ba h
  obtain ⟨h9, h⟩ := ba h
  obtain ⟨h10, h⟩ := ba h
  obtain ⟨h11, h⟩ := ba h
  obtain ⟨h12, h⟩ := ba h
  obtain ⟨h13, h⟩ := ba h
  obtain ⟨h14, h⟩ := ba h
  obtain ⟨h15, h⟩ := ba h
  obtain ⟨h16, h⟩ := ba h
  obtain ⟨h17, h⟩ := ba h
  obtain ⟨h18, h⟩ := ba h
  obtain ⟨h19, h⟩ := ba h
  obtain ⟨h20, h⟩ := ba h
  obtain ⟨h21, h⟩ := ba h
  obtain ⟨h22, h⟩ := ba h
  obtain ⟨h23, h⟩ := ba h
  obtain ⟨h24, h⟩ := ba h
  exact ⟨of_decide_eq_true h0, h1, of_decide_eq_true h2, h3, of_decide_eq_true h4, h5, h6, of_decide_eq_true h7, h8, of_decide_eq_true h9, h10, h11, of_decide_eq_true h12, h13, h14, of_decide_eq_true h15, h16, of_decide_eq_true h17, h18, h19, of_decide_eq_true h20, h21, h22, of_decide_eq_true h23, h24, trivial⟩
theorem ex_3_ok {K : PySem.W.Frag} (h : ex_3 K = true) : (PySem.W.keepIn K (.ref (A_f_Walk___init K)) = true) ∧ (PySem.W.findIn K (.ref (A_c_Walk K)) "say" = some (some (.ref (A_f_Walk_say K)))) ∧ (PySem.W.isFn K (.ref (A_f_Walk_say K)) = true) ∧ (PySem.W.keepIn K (.ref (A_f_Walk_say K)) = true) ∧ (PySem.W.findIn K (.ref (A_c_Walk K)) "ended" = some (some (.ref (A_f_Walk_ended K)))) ∧ (PySem.W.isFn K (.ref (A_f_Walk_ended K)) = true) ∧ (PySem.W.keepIn K (.ref (A_f_Walk_ended K)) = true) ∧ (PySem.W.findIn K (.ref (A_c_Walk K)) "begin" = some (some (.ref (A_f_Walk_begin K)))) ∧ (PySem.W.isFn K (.ref (A_f_Walk_begin K)) = true) ∧ (PySem.W.keepIn K (.ref (A_f_Walk_begin K)) = true) ∧ (PySem.W.findIn K (.ref (A_c_Walk K)) "step" = some (some (.ref (A_f_Walk_step K)))) ∧ (PySem.W.isFn K (.ref (A_f_Walk_step K)) = true) ∧ (PySem.W.keepIn K (.ref (A_f_Walk_step K)) = true) ∧ (PySem.W.findIn K (.ref (A_c_Walk K)) "go_round" = some (some (.ref (A_f_Walk_go_round K)))) ∧ (PySem.W.isFn K (.ref (A_f_Walk_go_round K)) = true) ∧ (PySem.W.keepIn K (.ref (A_f_Walk_go_round K)) = true) ∧ (PySem.W.findIn K (.ref (A_c_Walk K)) "found" = some (some (.ref (A_f_Walk_found K)))) ∧ (PySem.W.isFn K (.ref (A_f_Walk_found K)) = true) ∧ (PySem.W.keepIn K (.ref (A_f_Walk_found K)) = true) ∧ (PySem.W.findIn K (.ref (A_c_Walk K)) "go_all" = some (some (.ref (A_f_Walk_go_all K)))) ∧ (PySem.W.isFn K (.ref (A_f_Walk_go_all K)) = true) ∧ (PySem.W.keepIn K (.ref (A_f_Walk_go_all K)) = true) ∧ (PySem.W.nsIn K mainGlobals "_law_rounds" = some (some (.ref (A_f_law_rounds K)))) ∧ (PySem.W.keepIn K (.ref (A_f_law_rounds K)) = true) ∧ (PySem.W.nsIn K mainGlobals "_law_alike" = some (some (.ref (A_f_law_alike K)))) ∧  True := by
  unfold ex_3 at h
  obtain ⟨h0, h⟩ := ba h
  obtain ⟨h1, h⟩ := ba h
  obtain ⟨h2, h⟩ := ba h
  obtain ⟨h3, h⟩ := ba h
  obtain ⟨h4, h⟩ := ba h
  obtain ⟨h5, h⟩ := ba h
  obtain ⟨h6, h⟩ := ba h
  obtain ⟨h7, h⟩ := ba h
  obtain ⟨h8, h⟩ := ba h
  obtain ⟨h9, h⟩ := ba h
  obtain ⟨h10, h⟩ := ba h
  obtain ⟨h11, h⟩ := ba h
  obtain ⟨h12, h⟩ := ba h
  obtain ⟨h13, h⟩ := ba h
  obtain ⟨h14, h⟩ := ba h
  obtain ⟨h15, h⟩ := ba h
  obtain ⟨h16, h⟩ := ba h
  obtain ⟨h17, h⟩ := ba h
  obtain ⟨h18, h⟩ := ba h
  obtain ⟨h19, h⟩ := ba h
  obtain ⟨h20, h⟩ := ba h
  obtain ⟨h21, h⟩ := ba h
  obtain ⟨h22, h⟩ := ba h
  obtain ⟨h23, h⟩ := ba h
  obtain ⟨h24, h⟩ := ba h
  exact ⟨h0, of_decide_eq_true h1, h2, h3, of_decide_eq_true h4, h5, h6, of_decide_eq_true h7, h8, h9, of_decide_eq_true h10, h11, h12, of_decide_eq_true h13, h14, h15, of_decide_eq_true h16, h17, h18, of_decide_eq_true h19, h20, h21, of_decide_eq_true h22, h23, of_decide_eq_true h24, trivial⟩
theorem ex_4_ok {K : PySem.W.Frag} (h : ex_4 K = true) : (PySem.W.keepIn K (.ref (A_f_law_alike K)) = true) ∧ (PySem.W.findIn K (.ref (A_c_Wire K)) "need_thing" = some (some (.ref (A_f_Wire_need_thing K)))) ∧ (PySem.W.isFn K (.ref (A_f_Wire_need_thing K)) = true) ∧ (PySem.W.keepIn K (.ref (A_f_Wire_need_thing K)) = true) ∧ (PySem.W.findIn K (.ref (A_c_Wire K)) "off" = some (some (.ref (A_f_Wire_off K)))) ∧ (PySem.W.isFn K (.ref (A_f_Wire_off K)) = true) ∧ (PySem.W.keepIn K (.ref (A_f_Wire_off K)) = true) ∧ (PySem.W.findIn K (.ref (A_c_Wire K)) "alarm" = some (some (.ref (A_f_Wire_alarm K)))) ∧ (PySem.W.isFn K (.ref (A_f_Wire_alarm K)) = true) ∧ (PySem.W.keepIn K (.ref (A_f_Wire_alarm K)) = true) ∧ (PySem.W.findIn K (.ref (A_c_Wire K)) "calm" = some (some (.ref (A_f_Wire_calm K)))) ∧ (PySem.W.isFn K (.ref (A_f_Wire_calm K)) = true) ∧ (PySem.W.keepIn K (.ref (A_f_Wire_calm K)) = true) ∧ (PySem.W.findIn K (.ref (A_c_Wire K)) "hung" = some (some (.ref (A_f_Wire_hung K)))) ∧ (PySem.W.isFn K (.ref (A_f_Wire_hung K)) = true) ∧ (PySem.W.keepIn K (.ref (A_f_Wire_hung K)) = true) ∧ (PySem.W.findIn K (.ref (A_c_Wire K)) "alarms" = some (some (.ref (A_f_Wire_alarms K)))) ∧ (PySem.W.isFn K (.ref (A_f_Wire_alarms K)) = true) ∧ (PySem.W.keepIn K (.ref (A_f_Wire_alarms K)) = true) ∧ (PySem.W.nsIn K mainGlobals "law" = some (some (.ref (A_f_law K)))) ∧ (PySem.W.keepIn K (.ref (A_f_law K)) = true) ∧ (PySem.W.nsIn K mainGlobals "_law_word" = some (some (.ref (A_f_law_word K)))) ∧ (PySem.W.keepIn K (.ref (A_f_law_word K)) = true) ∧ ((A_P_law K) ≠ (A_P_law_wide K)) ∧ ((A_P_law K) ≠ (A_P_law_rounds K)) ∧  True := by
  unfold ex_4 at h
  obtain ⟨h0, h⟩ := ba h
  obtain ⟨h1, h⟩ := ba h
  obtain ⟨h2, h⟩ := ba h
  obtain ⟨h3, h⟩ := ba h
  obtain ⟨h4, h⟩ := ba h
  obtain ⟨h5, h⟩ := ba h
  obtain ⟨h6, h⟩ := ba h
  obtain ⟨h7, h⟩ := ba h
  obtain ⟨h8, h⟩ := ba h
  obtain ⟨h9, h⟩ := ba h
  obtain ⟨h10, h⟩ := ba h
  obtain ⟨h11, h⟩ := ba h
  obtain ⟨h12, h⟩ := ba h
  obtain ⟨h13, h⟩ := ba h
  obtain ⟨h14, h⟩ := ba h
  obtain ⟨h15, h⟩ := ba h
  obtain ⟨h16, h⟩ := ba h
  obtain ⟨h17, h⟩ := ba h
  obtain ⟨h18, h⟩ := ba h
  obtain ⟨h19, h⟩ := ba h
  obtain ⟨h20, h⟩ := ba h
  obtain ⟨h21, h⟩ := ba h
  obtain ⟨h22, h⟩ := ba h
  obtain ⟨h23, h⟩ := ba h
  obtain ⟨h24, h⟩ := ba h
  exact ⟨h0, of_decide_eq_true h1, h2, h3, of_decide_eq_true h4, h5, h6, of_decide_eq_true h7, h8, h9, of_decide_eq_true h10, h11, h12, of_decide_eq_true h13, h14, h15, of_decide_eq_true h16, h17, h18, of_decide_eq_true h19, h20, of_decide_eq_true h21, h22, of_decide_eq_true h23, of_decide_eq_true h24, trivial⟩
theorem ex_5_ok {K : PySem.W.Frag} (h : ex_5 K = true) : ((A_P_law_wide K) ≠ (A_P_law_rounds K)) ∧ (PySem.W.plainGet K (A_c_Wire K) Str.empty = true) ∧ (PySem.W.hasDictIn K (A_c_Wire K) = true) ∧ (PySem.W.plainOver K (A_c_Wire K) = true) ∧ (PySem.W.findIn K (.ref (A_c_Wire K)) "__setattr__" = some (some (.builtin "object.__setattr__"))) ∧ (PySem.W.makesIn K (A_c_Wire K) = true) ∧ (PySem.W.keepIn K (.ref (A_c_Wire K)) = true) ∧ (PySem.W.findIn K (.ref (A_c_Wire K)) "width" = some none) ∧ (PySem.W.findIn K (.ref (A_c_Wire K)) "things" = some none) ∧ (PySem.W.findIn K (.ref (A_c_Wire K)) "listening" = some none) ∧ (PySem.W.findIn K (.ref (A_c_Wire K)) "told" = some none) ∧ (PySem.W.findIn K (.ref (A_c_Wire K)) "many" = some none) ∧ (PySem.W.plainGet K (A_c_Walk K) Str.empty = true) ∧ (PySem.W.hasDictIn K (A_c_Walk K) = true) ∧ (PySem.W.plainOver K (A_c_Walk K) = true) ∧ (PySem.W.findIn K (.ref (A_c_Walk K)) "__setattr__" = some (some (.builtin "object.__setattr__"))) ∧ (PySem.W.makesIn K (A_c_Walk K) = true) ∧ (PySem.W.keepIn K (.ref (A_c_Walk K)) = true) ∧ (PySem.W.findIn K (.ref (A_c_Walk K)) "wire" = some none) ∧ (PySem.W.findIn K (.ref (A_c_Walk K)) "kind" = some none) ∧ (PySem.W.findIn K (.ref (A_c_Walk K)) "rest" = some none) ∧ (PySem.W.findIn K (.ref (A_c_Walk K)) "said" = some none) ∧ (PySem.W.findIn K (.ref (A_c_Walk K)) "names" = some none) ∧ (PySem.W.findIn K (.ref (A_c_Walk K)) "seen" = some none) ∧ (PySem.W.plainGet K (A_c_Day K) Str.empty = true) ∧  True := by
  unfold ex_5 at h
  obtain ⟨h0, h⟩ := ba h
  obtain ⟨h1, h⟩ := ba h
  obtain ⟨h2, h⟩ := ba h
  obtain ⟨h3, h⟩ := ba h
  obtain ⟨h4, h⟩ := ba h
  obtain ⟨h5, h⟩ := ba h
  obtain ⟨h6, h⟩ := ba h
  obtain ⟨h7, h⟩ := ba h
  obtain ⟨h8, h⟩ := ba h
  obtain ⟨h9, h⟩ := ba h
  obtain ⟨h10, h⟩ := ba h
  obtain ⟨h11, h⟩ := ba h
  obtain ⟨h12, h⟩ := ba h
  obtain ⟨h13, h⟩ := ba h
  obtain ⟨h14, h⟩ := ba h
  obtain ⟨h15, h⟩ := ba h
  obtain ⟨h16, h⟩ := ba h
  obtain ⟨h17, h⟩ := ba h
  obtain ⟨h18, h⟩ := ba h
  obtain ⟨h19, h⟩ := ba h
  obtain ⟨h20, h⟩ := ba h
  obtain ⟨h21, h⟩ := ba h
  obtain ⟨h22, h⟩ := ba h
  obtain ⟨h23, h⟩ := ba h
  obtain ⟨h24, h⟩ := ba h
  exact ⟨of_decide_eq_true h0, h1, h2, h3, of_decide_eq_true h4, h5, h6, of_decide_eq_true h7, of_decide_eq_true h8, of_decide_eq_true h9, of_decide_eq_true h10, of_decide_eq_true h11, h12, h13, h14, of_decide_eq_true h15, h16, h17, of_decide_eq_true h18, of_decide_eq_true h19, of_decide_eq_true h20, of_decide_eq_true h21, of_decide_eq_true h22, of_decide_eq_true h23, h24, trivial⟩
theorem ex_6_ok {K : PySem.W.Frag} (h : ex_6 K = true) : (PySem.W.hasDictIn K (A_c_Day K) = true) ∧ (PySem.W.plainOver K (A_c_Day K) = true) ∧ (PySem.W.findIn K (.ref (A_c_Day K)) "__setattr__" = some (some (.builtin "object.__setattr__"))) ∧ (PySem.W.makesIn K (A_c_Day K) = true) ∧ (PySem.W.keepIn K (.ref (A_c_Day K)) = true) ∧ (PySem.W.findIn K (.ref (A_c_Day K)) "line" = some none) ∧ (PySem.W.findIn K (.ref (A_c_Day K)) "path" = some none) ∧ (PySem.W.findIn K (.ref (A_c_Day K)) "office" = some none) ∧ (PySem.W.findIn K (.ref (A_c_Day K)) "clerk" = some none) ∧ (PySem.W.nsIn K mainGlobals "BusError" = some (some (.ref (A_e_BusError K)))) ∧ (PySem.W.nsIn K mainGlobals "BadWidth" = some (some (.ref (A_e_BadWidth K)))) ∧ (PySem.W.nsIn K mainGlobals "BadNumber" = some (some (.ref (A_e_BadNumber K)))) ∧ (PySem.W.nsIn K mainGlobals "BadKind" = some (some (.ref (A_e_BadKind K)))) ∧ (PySem.W.nsIn K mainGlobals "BadBit" = some (some (.ref (A_e_BadBit K)))) ∧ (PySem.W.nsIn K mainGlobals "There" = some (some (.ref (A_e_There K)))) ∧ (PySem.W.nsIn K mainGlobals "NotThere" = some (some (.ref (A_e_NotThere K)))) ∧ (PySem.W.nsIn K mainGlobals "NoRound" = some (some (.ref (A_e_NoRound K)))) ∧ (PySem.W.nsIn K mainGlobals "Over" = some (some (.ref (A_e_Over K)))) ∧ (PySem.W.nsIn K mainGlobals "Busy" = some (some (.ref (A_e_Busy K)))) ∧ (PySem.W.nsIn K mainGlobals "BadLooks" = some (some (.ref (A_e_BadLooks K)))) ∧ (PySem.W.nsIn K mainGlobals "BadRoster" = some (some (.ref (A_e_BadRoster K)))) ∧ (PySem.W.nsIn K mainGlobals "TooMany" = some (some (.ref (A_e_TooMany K)))) ∧ (PySem.W.nsIn K mainGlobals "BadPlan" = some (some (.ref (A_e_BadPlan K)))) ∧ (PySem.W.nsIn K mainGlobals "BadStep" = some (some (.ref (A_e_BadStep K)))) ∧ (PySem.W.nsIn K mainGlobals "BadText" = some (some (.ref (A_e_BadText K)))) ∧  True := by
  unfold ex_6 at h
  obtain ⟨h0, h⟩ := ba h
  obtain ⟨h1, h⟩ := ba h
  obtain ⟨h2, h⟩ := ba h
  obtain ⟨h3, h⟩ := ba h
  obtain ⟨h4, h⟩ := ba h
  obtain ⟨h5, h⟩ := ba h
  obtain ⟨h6, h⟩ := ba h
  obtain ⟨h7, h⟩ := ba h
  obtain ⟨h8, h⟩ := ba h
  obtain ⟨h9, h⟩ := ba h
  obtain ⟨h10, h⟩ := ba h
  obtain ⟨h11, h⟩ := ba h
  obtain ⟨h12, h⟩ := ba h
  obtain ⟨h13, h⟩ := ba h
  obtain ⟨h14, h⟩ := ba h
  obtain ⟨h15, h⟩ := ba h
  obtain ⟨h16, h⟩ := ba h
  obtain ⟨h17, h⟩ := ba h
  obtain ⟨h18, h⟩ := ba h
  obtain ⟨h19, h⟩ := ba h
  obtain ⟨h20, h⟩ := ba h
  obtain ⟨h21, h⟩ := ba h
  obtain ⟨h22, h⟩ := ba h
  obtain ⟨h23, h⟩ := ba h
  obtain ⟨h24, h⟩ := ba h
  exact ⟨h0, h1, of_decide_eq_true h2, h3, h4, of_decide_eq_true h5, of_decide_eq_true h6, of_decide_eq_true h7, of_decide_eq_true h8, of_decide_eq_true h9, of_decide_eq_true h10, of_decide_eq_true h11, of_decide_eq_true h12, of_decide_eq_true h13, of_decide_eq_true h14, of_decide_eq_true h15, of_decide_eq_true h16, of_decide_eq_true h17, of_decide_eq_true h18, of_decide_eq_true h19, of_decide_eq_true h20, of_decide_eq_true h21, of_decide_eq_true h22, of_decide_eq_true h23, of_decide_eq_true h24, trivial⟩
theorem ex_7_ok {K : PySem.W.Frag} (h : ex_7 K = true) : (PySem.W.excIn K (A_e_BadBit K) [.type "ValueError", .type "Exception", .type "BaseException", .type "object"] "ValueError.__new__" = true) ∧ (PySem.W.keepIn K (.ref (A_e_BadBit K)) = true) ∧ (PySem.W.subIn K (.ref (A_e_BadBit K)) (.type "BaseException") = some true) ∧ (PySem.W.typeIn K (.ref (A_e_BadBit K)) = some (.type "type")) ∧ (PySem.W.excIn K (A_e_BadKind K) [.type "ValueError", .type "Exception", .type "BaseException", .type "object"] "ValueError.__new__" = true) ∧ (PySem.W.keepIn K (.ref (A_e_BadKind K)) = true) ∧ (PySem.W.subIn K (.ref (A_e_BadKind K)) (.type "BaseException") = some true) ∧ (PySem.W.typeIn K (.ref (A_e_BadKind K)) = some (.type "type")) ∧ (PySem.W.excIn K (A_e_BadNumber K) [.type "ValueError", .type "Exception", .type "BaseException", .type "object"] "ValueError.__new__" = true) ∧ (PySem.W.keepIn K (.ref (A_e_BadNumber K)) = true) ∧ (PySem.W.subIn K (.ref (A_e_BadNumber K)) (.type "BaseException") = some true) ∧ (PySem.W.typeIn K (.ref (A_e_BadNumber K)) = some (.type "type")) ∧ (PySem.W.excIn K (A_e_BadWidth K) [.type "ValueError", .type "Exception", .type "BaseException", .type "object"] "ValueError.__new__" = true) ∧ (PySem.W.keepIn K (.ref (A_e_BadWidth K)) = true) ∧ (PySem.W.subIn K (.ref (A_e_BadWidth K)) (.type "BaseException") = some true) ∧ (PySem.W.typeIn K (.ref (A_e_BadWidth K)) = some (.type "type")) ∧ (PySem.W.excIn K (A_e_NoRound K) [.type "ValueError", .type "Exception", .type "BaseException", .type "object"] "ValueError.__new__" = true) ∧ (PySem.W.keepIn K (.ref (A_e_NoRound K)) = true) ∧ (PySem.W.subIn K (.ref (A_e_NoRound K)) (.type "BaseException") = some true) ∧ (PySem.W.typeIn K (.ref (A_e_NoRound K)) = some (.type "type")) ∧ (PySem.W.excIn K (A_e_NotThere K) [.type "ValueError", .type "Exception", .type "BaseException", .type "object"] "ValueError.__new__" = true) ∧ (PySem.W.keepIn K (.ref (A_e_NotThere K)) = true) ∧ (PySem.W.subIn K (.ref (A_e_NotThere K)) (.type "BaseException") = some true) ∧ (PySem.W.typeIn K (.ref (A_e_NotThere K)) = some (.type "type")) ∧ (PySem.W.excIn K (A_e_Over K) [.type "ValueError", .type "Exception", .type "BaseException", .type "object"] "ValueError.__new__" = true) ∧  True := by
  unfold ex_7 at h
  obtain ⟨h0, h⟩ := ba h
  obtain ⟨h1, h⟩ := ba h
  obtain ⟨h2, h⟩ := ba h
  obtain ⟨h3, h⟩ := ba h
  obtain ⟨h4, h⟩ := ba h
  obtain ⟨h5, h⟩ := ba h
  obtain ⟨h6, h⟩ := ba h
  obtain ⟨h7, h⟩ := ba h
  obtain ⟨h8, h⟩ := ba h
  obtain ⟨h9, h⟩ := ba h
  obtain ⟨h10, h⟩ := ba h
  obtain ⟨h11, h⟩ := ba h
  obtain ⟨h12, h⟩ := ba h
  obtain ⟨h13, h⟩ := ba h
  obtain ⟨h14, h⟩ := ba h
  obtain ⟨h15, h⟩ := ba h
  obtain ⟨h16, h⟩ := ba h
  obtain ⟨h17, h⟩ := ba h
  obtain ⟨h18, h⟩ := ba h
  obtain ⟨h19, h⟩ := ba h
  obtain ⟨h20, h⟩ := ba h
  obtain ⟨h21, h⟩ := ba h
  obtain ⟨h22, h⟩ := ba h
  obtain ⟨h23, h⟩ := ba h
  obtain ⟨h24, h⟩ := ba h
  exact ⟨h0, h1, of_decide_eq_true h2, of_decide_eq_true h3, h4, h5, of_decide_eq_true h6, of_decide_eq_true h7, h8, h9, of_decide_eq_true h10, of_decide_eq_true h11, h12, h13, of_decide_eq_true h14, of_decide_eq_true h15, h16, h17, of_decide_eq_true h18, of_decide_eq_true h19, h20, h21, of_decide_eq_true h22, of_decide_eq_true h23, h24, trivial⟩
theorem ex_8_ok {K : PySem.W.Frag} (h : ex_8 K = true) : (PySem.W.keepIn K (.ref (A_e_Over K)) = true) ∧ (PySem.W.subIn K (.ref (A_e_Over K)) (.type "BaseException") = some true) ∧ (PySem.W.typeIn K (.ref (A_e_Over K)) = some (.type "type")) ∧ (PySem.W.excIn K (A_e_There K) [.type "ValueError", .type "Exception", .type "BaseException", .type "object"] "ValueError.__new__" = true) ∧ (PySem.W.keepIn K (.ref (A_e_There K)) = true) ∧ (PySem.W.subIn K (.ref (A_e_There K)) (.type "BaseException") = some true) ∧ (PySem.W.typeIn K (.ref (A_e_There K)) = some (.type "type")) ∧ (([(A_e_BadWidth K), (A_e_BadNumber K), (A_e_BadKind K), (A_e_BadBit K), (A_e_There K), (A_e_NotThere K), (A_e_NoRound K), (A_e_Over K), (A_e_Busy K), (A_e_BadLooks K), (A_e_BadRoster K), (A_e_TooMany K), (A_e_BadPlan K), (A_e_BadStep K), (A_e_BadText K)].map fun c => [(A_e_BadWidth K), (A_e_BadNumber K), (A_e_BadKind K), (A_e_BadBit K), (A_e_There K), (A_e_NotThere K), (A_e_NoRound K), (A_e_Over K), (A_e_Busy K), (A_e_BadLooks K), (A_e_BadRoster K), (A_e_TooMany K), (A_e_BadPlan K), (A_e_BadStep K), (A_e_BadText K)].map fun d => PySem.W.kitOne K (.ref c) (.ref d)) = (List.range 15).map fun i => (List.range 15).map fun j => some (decide (i = j))) ∧ (([(A_e_BadWidth K), (A_e_BadNumber K), (A_e_BadKind K), (A_e_BadBit K), (A_e_There K), (A_e_NotThere K), (A_e_NoRound K), (A_e_Over K), (A_e_Busy K), (A_e_BadLooks K), (A_e_BadRoster K), (A_e_TooMany K), (A_e_BadPlan K), (A_e_BadStep K), (A_e_BadText K)].map fun c => PySem.W.kitOne K (.ref c) (.type "ValueError")) = List.replicate 15 (some true)) ∧ (([(A_e_BadWidth K), (A_e_BadNumber K), (A_e_BadKind K), (A_e_BadBit K), (A_e_There K), (A_e_NotThere K), (A_e_NoRound K), (A_e_Over K), (A_e_Busy K), (A_e_BadLooks K), (A_e_BadRoster K), (A_e_TooMany K), (A_e_BadPlan K), (A_e_BadStep K), (A_e_BadText K)].map fun c => PySem.W.findIn K (.ref c) "__getattribute__") = List.replicate 15 (some (some (.builtin "BaseException.__getattribute__")))) ∧ (([(A_e_BadWidth K), (A_e_BadNumber K), (A_e_BadKind K), (A_e_BadBit K), (A_e_There K), (A_e_NotThere K), (A_e_NoRound K), (A_e_Over K), (A_e_Busy K), (A_e_BadLooks K), (A_e_BadRoster K), (A_e_TooMany K), (A_e_BadPlan K), (A_e_BadStep K), (A_e_BadText K)].map fun c => PySem.W.findIn K (.ref c) "__getattr__") = List.replicate 15 (some none)) ∧ (([(A_e_BadWidth K), (A_e_BadNumber K), (A_e_BadKind K), (A_e_BadBit K), (A_e_There K), (A_e_NotThere K), (A_e_NoRound K), (A_e_Over K), (A_e_Busy K), (A_e_BadLooks K), (A_e_BadRoster K), (A_e_TooMany K), (A_e_BadPlan K), (A_e_BadStep K), (A_e_BadText K)].map fun c => PySem.W.subIn K (.ref c) (.type "BaseException")) = List.replicate 15 (some true)) ∧ (([(A_e_BadWidth K), (A_e_BadNumber K), (A_e_BadKind K), (A_e_BadBit K), (A_e_There K), (A_e_NotThere K), (A_e_NoRound K), (A_e_Over K), (A_e_Busy K), (A_e_BadLooks K), (A_e_BadRoster K), (A_e_TooMany K), (A_e_BadPlan K), (A_e_BadStep K), (A_e_BadText K)].map fun c => PySem.W.hasDictIn K c) = List.replicate 15 (true)) ∧ (([(A_e_BadWidth K), (A_e_BadNumber K), (A_e_BadKind K), (A_e_BadBit K), (A_e_There K), (A_e_NotThere K), (A_e_NoRound K), (A_e_Over K), (A_e_Busy K), (A_e_BadLooks K), (A_e_BadRoster K), (A_e_TooMany K), (A_e_BadPlan K), (A_e_BadStep K), (A_e_BadText K)].map fun c => PySem.W.findIn K (.ref c) "__class__") = List.replicate 15 (some (some (.builtin "object.__class__")))) ∧ (([(A_e_BadWidth K), (A_e_BadNumber K), (A_e_BadKind K), (A_e_BadBit K), (A_e_There K), (A_e_NotThere K), (A_e_NoRound K), (A_e_Over K), (A_e_Busy K), (A_e_BadLooks K), (A_e_BadRoster K), (A_e_TooMany K), (A_e_BadPlan K), (A_e_BadStep K), (A_e_BadText K)].map fun c => PySem.W.mroIn K c (.type "object")) = List.replicate 15 (some true)) ∧ (([(A_e_BadWidth K), (A_e_BadNumber K), (A_e_BadKind K), (A_e_BadBit K), (A_e_There K), (A_e_NotThere K), (A_e_NoRound K), (A_e_Over K), (A_e_Busy K), (A_e_BadLooks K), (A_e_BadRoster K), (A_e_TooMany K), (A_e_BadPlan K), (A_e_BadStep K), (A_e_BadText K)].map fun c => PySem.W.exmOne K (.ref c) (.ref (A_e_BusError K))) = List.replicate 15 (some true)) ∧ (PySem.W.specialIn K (.builtin "object.__class__") "__get__" = some (some (.builtin "getset_descriptor.__get__"))) ∧ (PySem.W.takesIn K (.builtin "object.__class__") = some true) ∧ (strB K "FOUND" "found" = true) ∧ (PySem.W.nsIn K mainGlobals "KINDS" = some (some (.ref (A_a_KINDS K)))) ∧ (tupB K "KINDS" [.str "all", .str "alarm"] = true) ∧ (strB K "LOST" "lost" = true) ∧ (intB K "MOST_WIDTH" 12 = true) ∧ (PySem.W.nsIn K mainGlobals "len" = some none) ∧ (PySem.W.nsIn K mainGlobals "range" = some none) ∧  True := by
  unfold ex_8 at h
  obtain ⟨h0, h⟩ := ba h
  obtain ⟨h1, h⟩ := ba h
  obtain ⟨h2, h⟩ := ba h
  obtain ⟨h3, h⟩ := ba h
  obtain ⟨h4, h⟩ := ba h
  obtain ⟨h5, h⟩ := ba h
  obtain ⟨h6, h⟩ := ba h
  obtain ⟨h7, h⟩ := ba h
  obtain ⟨h8, h⟩ := ba h
  obtain ⟨h9, h⟩ := ba h
  obtain ⟨h10, h⟩ := ba h
  obtain ⟨h11, h⟩ := ba h
  obtain ⟨h12, h⟩ := ba h
  obtain ⟨h13, h⟩ := ba h
  obtain ⟨h14, h⟩ := ba h
  obtain ⟨h15, h⟩ := ba h
  obtain ⟨h16, h⟩ := ba h
  obtain ⟨h17, h⟩ := ba h
  obtain ⟨h18, h⟩ := ba h
  obtain ⟨h19, h⟩ := ba h
  obtain ⟨h20, h⟩ := ba h
  obtain ⟨h21, h⟩ := ba h
  obtain ⟨h22, h⟩ := ba h
  obtain ⟨h23, h⟩ := ba h
  obtain ⟨h24, h⟩ := ba h
  exact ⟨h0, of_decide_eq_true h1, of_decide_eq_true h2, h3, h4, of_decide_eq_true h5, of_decide_eq_true h6, of_decide_eq_true h7, of_decide_eq_true h8, of_decide_eq_true h9, of_decide_eq_true h10, of_decide_eq_true h11, of_decide_eq_true h12, of_decide_eq_true h13, of_decide_eq_true h14, of_decide_eq_true h15, of_decide_eq_true h16, of_decide_eq_true h17, h18, of_decide_eq_true h19, h20, h21, h22, of_decide_eq_true h23, of_decide_eq_true h24, trivial⟩
theorem ex_9_ok {K : PySem.W.Frag} (h : ex_9 K = true) : (PySem.W.nsIn K mainGlobals "int" = some none) ∧ (PySem.W.nsIn K mainGlobals "bool" = some none) ∧ (PySem.W.nsIn K mainGlobals "str" = some none) ∧ (PySem.W.nsIn K mainGlobals "tuple" = some none) ∧ (PySem.W.nsIn K mainGlobals "list" = some none) ∧ (PySem.W.nsIn K mainGlobals "set" = some none) ∧ (PySem.W.nsIn K mainGlobals "sorted" = some none) ∧ (PySem.W.nsIn K mainGlobals "max" = some none) ∧ (PySem.W.nsIn K mainGlobals "min" = some none) ∧ (PySem.W.nsIn K mainGlobals "sum" = some none) ∧ (PySem.W.nsIn K mainGlobals "isinstance" = some none) ∧ (PySem.W.nsIn K mainGlobals "enumerate" = some none) ∧ (PySem.W.nsIn K mainGlobals "ValueError" = some none) ∧  True := by
  unfold ex_9 at h
  obtain ⟨h0, h⟩ := ba h
  obtain ⟨h1, h⟩ := ba h
  obtain ⟨h2, h⟩ := ba h
  obtain ⟨h3, h⟩ := ba h
  obtain ⟨h4, h⟩ := ba h
  obtain ⟨h5, h⟩ := ba h
  obtain ⟨h6, h⟩ := ba h
  obtain ⟨h7, h⟩ := ba h
  obtain ⟨h8, h⟩ := ba h
  obtain ⟨h9, h⟩ := ba h
  obtain ⟨h10, h⟩ := ba h
  obtain ⟨h11, h⟩ := ba h
  obtain ⟨h12, h⟩ := ba h
  exact ⟨of_decide_eq_true h0, of_decide_eq_true h1, of_decide_eq_true h2, of_decide_eq_true h3, of_decide_eq_true h4, of_decide_eq_true h5, of_decide_eq_true h6, of_decide_eq_true h7, of_decide_eq_true h8, of_decide_eq_true h9, of_decide_eq_true h10, of_decide_eq_true h11, of_decide_eq_true h12, trivial⟩
theorem facts {w : World} {K : PySem.W.Frag} {h : Heap} {mg : Str → Option Value} {fa : PySem.Addr} (X : K.In h) (G : h.Ns mainGlobals mg) (hfa : mg "law" = some (.ref fa)) (c : SY w h K) :
    LamX.LawAtS PySem.Challenge.rw_busfind_k01_refused w K (L2.CX PySem.Challenge.rw_busfind_k01_refused.prog w) 30 63 "_law_script" mg fa h := by
  have hx := c.more
  unfold ex at hx
  obtain ⟨x_0, hx⟩ := ba hx
  obtain ⟨x_1, hx⟩ := ba hx
  obtain ⟨x_2, hx⟩ := ba hx
  obtain ⟨x_3, hx⟩ := ba hx
  obtain ⟨x_4, hx⟩ := ba hx
  obtain ⟨x_5, hx⟩ := ba hx
  obtain ⟨x_6, hx⟩ := ba hx
  obtain ⟨x_7, hx⟩ := ba hx
  obtain ⟨x_8, hx⟩ := ba hx
  obtain ⟨x_9, hx⟩ := ba hx
  obtain ⟨b_n_Wire, b_n_Walk, b_n_Day, b_a_law_taken, b_k_law_taken, b_a_law_width, b_k_law_width, b_a_law_number, b_k_law_number, b_a_law_near, b_k_law_near, b_a_law_things, b_k_law_things, b_a_need_width, b_k_need_width, b_a_Wire___init, b_i_Wire___init, b_k_Wire___init, b_a_are_bits, b_k_are_bits, b_a_is_number, b_k_is_number, b_a_need_number, b_k_need_number, b_a_Wire_hang, _⟩ := ex_0_ok x_0
  obtain ⟨b_i_Wire_hang, b_k_Wire_hang, b_a_law_made, b_k_law_made, b_a_met, b_k_met, b_a_fewest, b_k_fewest, b_a_shown, b_k_shown, b_a_need_roster, b_k_need_roster, b_a_judged, b_k_judged, b_a_least, b_k_least, b_a_plan_of, b_k_plan_of, b_a_follows, b_k_follows, b_a_Day___init, b_i_Day___init, b_k_Day___init, b_a_played, b_k_played, _⟩ := ex_1_ok x_1
  obtain ⟨b_a_law_wide, b_k_law_wide, b_a_law_odd, b_k_law_odd, b_a_Wire_need_round, b_i_Wire_need_round, b_k_Wire_need_round, b_a_look_at, b_k_look_at, b_a_Wire_look, b_i_Wire_look, b_k_Wire_look, b_a_Wire_say, b_i_Wire_say, b_k_Wire_say, b_a_need_kind, b_k_need_kind, b_a_Wire_begin, b_i_Wire_begin, b_k_Wire_begin, b_a_Wire_looks, b_i_Wire_looks, b_k_Wire_looks, b_a_Walk___init, b_i_Walk___init, _⟩ := ex_2_ok x_2
  obtain ⟨b_k_Walk___init, b_a_Walk_say, b_i_Walk_say, b_k_Walk_say, b_a_Walk_ended, b_i_Walk_ended, b_k_Walk_ended, b_a_Walk_begin, b_i_Walk_begin, b_k_Walk_begin, b_a_Walk_step, b_i_Walk_step, b_k_Walk_step, b_a_Walk_go_round, b_i_Walk_go_round, b_k_Walk_go_round, b_a_Walk_found, b_i_Walk_found, b_k_Walk_found, b_a_Walk_go_all, b_i_Walk_go_all, b_k_Walk_go_all, b_a_law_rounds, b_k_law_rounds, b_a_law_alike, _⟩ := ex_3_ok x_3
  obtain ⟨b_k_law_alike, b_a_Wire_need_thing, b_i_Wire_need_thing, b_k_Wire_need_thing, b_a_Wire_off, b_i_Wire_off, b_k_Wire_off, b_a_Wire_alarm, b_i_Wire_alarm, b_k_Wire_alarm, b_a_Wire_calm, b_i_Wire_calm, b_k_Wire_calm, b_a_Wire_hung, b_i_Wire_hung, b_k_Wire_hung, b_a_Wire_alarms, b_i_Wire_alarms, b_k_Wire_alarms, b_a_law, b_k_law, b_a_law_word, b_k_law_word, b_hP01, b_hP02, _⟩ := ex_4_ok x_4
  obtain ⟨b_hP12, b_pg_Wire, b_hd_Wire, b_po_Wire, b_sa_Wire, b_mk_Wire, b_kc_Wire, b_na_Wire_width, b_na_Wire_things, b_na_Wire_listening, b_na_Wire_told, b_na_Wire_many, b_pg_Walk, b_hd_Walk, b_po_Walk, b_sa_Walk, b_mk_Walk, b_kc_Walk, b_na_Walk_wire, b_na_Walk_kind, b_na_Walk_rest, b_na_Walk_said, b_na_Walk_names, b_na_Walk_seen, b_pg_Day, _⟩ := ex_5_ok x_5
  obtain ⟨b_hd_Day, b_po_Day, b_sa_Day, b_mk_Day, b_kc_Day, b_na_Day_line, b_na_Day_path, b_na_Day_office, b_na_Day_clerk, b_n_BusError, b_n_BadWidth, b_n_BadNumber, b_n_BadKind, b_n_BadBit, b_n_There, b_n_NotThere, b_n_NoRound, b_n_Over, b_n_Busy, b_n_BadLooks, b_n_BadRoster, b_n_TooMany, b_n_BadPlan, b_n_BadStep, b_n_BadText, _⟩ := ex_6_ok x_6
  obtain ⟨b_q_BadBit, b_kx_BadBit, b_bx_BadBit, b_tx_BadBit, b_q_BadKind, b_kx_BadKind, b_bx_BadKind, b_tx_BadKind, b_q_BadNumber, b_kx_BadNumber, b_bx_BadNumber, b_tx_BadNumber, b_q_BadWidth, b_kx_BadWidth, b_bx_BadWidth, b_tx_BadWidth, b_q_NoRound, b_kx_NoRound, b_bx_NoRound, b_tx_NoRound, b_q_NotThere, b_kx_NotThere, b_bx_NotThere, b_tx_NotThere, b_q_Over, _⟩ := ex_7_ok x_7
  obtain ⟨b_kx_Over, b_bx_Over, b_tx_Over, b_q_There, b_kx_There, b_bx_There, b_tx_There, b_kk, b_kv, b_kg, b_ka, b_ks, b_kh, b_kl, b_km, b_kb, b_kn, b_kt, b_n_FOUND, b_n_KINDS, b_t_KINDS, b_n_LOST, b_n_MOST_WIDTH, b_z_len, b_z_range, _⟩ := ex_8_ok x_8
  obtain ⟨j_n_FOUND, y_n_FOUND⟩ := strB_ok b_n_FOUND
  obtain ⟨j_n_LOST, y_n_LOST⟩ := strB_ok b_n_LOST
  obtain ⟨j_n_MOST_WIDTH, y_n_MOST_WIDTH⟩ := intB_ok b_n_MOST_WIDTH
  obtain ⟨b_z_int, b_z_bool, b_z_str, b_z_tuple, b_z_list, b_z_set, b_z_sorted, b_z_max, b_z_min, b_z_sum, b_z_isinstance, b_z_enumerate, b_z_ValueError, _⟩ := ex_9_ok x_9
  obtain ⟨oc_law_taken, od_law_taken, sl_law_taken, kV_law_taken, dc_law_taken, pm_law_taken, an_law_taken, cdv_law_taken, ct_law_taken, l_law_taken, dd_law_taken⟩ := c.def_ 0 (d := d_law_taken) rfl
  obtain ⟨oc_law_width, od_law_width, sl_law_width, kV_law_width, dc_law_width, pm_law_width, an_law_width, cdv_law_width, ct_law_width, l_law_width, dd_law_width⟩ := c.def_ 1 (d := d_law_width) rfl
  obtain ⟨oc_law_number, od_law_number, sl_law_number, kV_law_number, dc_law_number, pm_law_number, an_law_number, cdv_law_number, ct_law_number, l_law_number, dd_law_number⟩ := c.def_ 2 (d := d_law_number) rfl
  obtain ⟨oc_law_near, od_law_near, sl_law_near, kV_law_near, dc_law_near, pm_law_near, an_law_near, cdv_law_near, ct_law_near, l_law_near, dd_law_near⟩ := c.def_ 3 (d := d_law_near) rfl
  obtain ⟨oc_law_things, od_law_things, sl_law_things, kV_law_things, dc_law_things, pm_law_things, an_law_things, cdv_law_things, ct_law_things, l_law_things, dd_law_things⟩ := c.def_ 4 (d := d_law_things) rfl
  obtain ⟨oc_need_width, od_need_width, sl_need_width, kV_need_width, dc_need_width, pm_need_width, an_need_width, cdv_need_width, ct_need_width, l_need_width, dd_need_width⟩ := c.def_ 5 (d := d_need_width) rfl
  obtain ⟨oc_Wire___init, od_Wire___init, sl_Wire___init, kV_Wire___init, dc_Wire___init, pm_Wire___init, an_Wire___init, cdv_Wire___init, ct_Wire___init, l_Wire___init, dd_Wire___init⟩ := c.def_ 6 (d := d_Wire___init) rfl
  obtain ⟨oc_are_bits, od_are_bits, sl_are_bits, kV_are_bits, dc_are_bits, pm_are_bits, an_are_bits, cdv_are_bits, ct_are_bits, l_are_bits, dd_are_bits⟩ := c.def_ 7 (d := d_are_bits) rfl
  obtain ⟨oc_is_number, od_is_number, sl_is_number, kV_is_number, dc_is_number, pm_is_number, an_is_number, cdv_is_number, ct_is_number, l_is_number, dd_is_number⟩ := c.def_ 8 (d := d_is_number) rfl
  obtain ⟨oc_need_number, od_need_number, sl_need_number, kV_need_number, dc_need_number, pm_need_number, an_need_number, cdv_need_number, ct_need_number, l_need_number, dd_need_number⟩ := c.def_ 9 (d := d_need_number) rfl
  obtain ⟨oc_Wire_hang, od_Wire_hang, sl_Wire_hang, kV_Wire_hang, dc_Wire_hang, pm_Wire_hang, an_Wire_hang, cdv_Wire_hang, ct_Wire_hang, l_Wire_hang, dd_Wire_hang⟩ := c.def_ 10 (d := d_Wire_hang) rfl
  obtain ⟨oc_law_made, od_law_made, sl_law_made, kV_law_made, dc_law_made, pm_law_made, an_law_made, cdv_law_made, ct_law_made, l_law_made, dd_law_made⟩ := c.def_ 11 (d := d_law_made) rfl
  obtain ⟨oc_met, od_met, sl_met, kV_met, dc_met, pm_met, an_met, cdv_met, ct_met, l_met, dd_met⟩ := c.def_ 12 (d := d_met) rfl
  obtain ⟨oc_fewest, od_fewest, sl_fewest, kV_fewest, dc_fewest, pm_fewest, an_fewest, cdv_fewest, ct_fewest, l_fewest, dd_fewest⟩ := c.def_ 13 (d := d_fewest) rfl
  obtain ⟨oc_shown, od_shown, sl_shown, kV_shown, dc_shown, pm_shown, an_shown, cdv_shown, ct_shown, l_shown, dd_shown⟩ := c.def_ 14 (d := d_shown) rfl
  obtain ⟨oc_need_roster, od_need_roster, sl_need_roster, kV_need_roster, dc_need_roster, pm_need_roster, an_need_roster, cdv_need_roster, ct_need_roster, l_need_roster, dd_need_roster⟩ := c.def_ 15 (d := d_need_roster) rfl
  obtain ⟨oc_judged, od_judged, sl_judged, kV_judged, dc_judged, pm_judged, an_judged, cdv_judged, ct_judged, l_judged, dd_judged⟩ := c.def_ 16 (d := d_judged) rfl
  obtain ⟨oc_least, od_least, sl_least, kV_least, dc_least, pm_least, an_least, cdv_least, ct_least, l_least, dd_least⟩ := c.def_ 17 (d := d_least) rfl
  obtain ⟨oc_plan_of, od_plan_of, sl_plan_of, kV_plan_of, dc_plan_of, pm_plan_of, an_plan_of, cdv_plan_of, ct_plan_of, l_plan_of, dd_plan_of⟩ := c.def_ 18 (d := d_plan_of) rfl
  obtain ⟨oc_follows, od_follows, sl_follows, kV_follows, dc_follows, pm_follows, an_follows, cdv_follows, ct_follows, l_follows, dd_follows⟩ := c.def_ 19 (d := d_follows) rfl
  obtain ⟨oc_Day___init, od_Day___init, sl_Day___init, kV_Day___init, dc_Day___init, pm_Day___init, an_Day___init, cdv_Day___init, ct_Day___init, l_Day___init, dd_Day___init⟩ := c.def_ 20 (d := d_Day___init) rfl
  obtain ⟨oc_played, od_played, sl_played, kV_played, dc_played, pm_played, an_played, cdv_played, ct_played, l_played, dd_played⟩ := c.def_ 21 (d := d_played) rfl
  obtain ⟨oc_law_wide, od_law_wide, sl_law_wide, kV_law_wide, dc_law_wide, pm_law_wide, an_law_wide, ct_law_wide, l_law_wide, dd_law_wide⟩ := c.defT 22 (d := d_law_wide) rfl
  obtain ⟨oc_law_odd, od_law_odd, sl_law_odd, kV_law_odd, dc_law_odd, pm_law_odd, an_law_odd, cdv_law_odd, ct_law_odd, l_law_odd, dd_law_odd⟩ := c.def_ 23 (d := d_law_odd) rfl
  obtain ⟨oc_Wire_need_round, od_Wire_need_round, sl_Wire_need_round, kV_Wire_need_round, dc_Wire_need_round, pm_Wire_need_round, an_Wire_need_round, cdv_Wire_need_round, ct_Wire_need_round, l_Wire_need_round, dd_Wire_need_round⟩ := c.def_ 24 (d := d_Wire_need_round) rfl
  obtain ⟨oc_look_at, od_look_at, sl_look_at, kV_look_at, dc_look_at, pm_look_at, an_look_at, cdv_look_at, ct_look_at, l_look_at, dd_look_at⟩ := c.def_ 25 (d := d_look_at) rfl
  obtain ⟨oc_Wire_look, od_Wire_look, sl_Wire_look, kV_Wire_look, dc_Wire_look, pm_Wire_look, an_Wire_look, cdv_Wire_look, ct_Wire_look, l_Wire_look, dd_Wire_look⟩ := c.def_ 26 (d := d_Wire_look) rfl
  obtain ⟨oc_Wire_say, od_Wire_say, sl_Wire_say, kV_Wire_say, dc_Wire_say, pm_Wire_say, an_Wire_say, cdv_Wire_say, ct_Wire_say, l_Wire_say, dd_Wire_say⟩ := c.def_ 27 (d := d_Wire_say) rfl
  obtain ⟨oc_need_kind, od_need_kind, sl_need_kind, kV_need_kind, dc_need_kind, pm_need_kind, an_need_kind, cdv_need_kind, ct_need_kind, l_need_kind, dd_need_kind⟩ := c.def_ 28 (d := d_need_kind) rfl
  obtain ⟨oc_Wire_begin, od_Wire_begin, sl_Wire_begin, kV_Wire_begin, dc_Wire_begin, pm_Wire_begin, an_Wire_begin, cdv_Wire_begin, ct_Wire_begin, l_Wire_begin, dd_Wire_begin⟩ := c.def_ 29 (d := d_Wire_begin) rfl
  obtain ⟨oc_Wire_looks, od_Wire_looks, sl_Wire_looks, kV_Wire_looks, dc_Wire_looks, pm_Wire_looks, an_Wire_looks, cdv_Wire_looks, ct_Wire_looks, l_Wire_looks, dd_Wire_looks⟩ := c.def_ 30 (d := d_Wire_looks) rfl
  obtain ⟨oc_Walk___init, od_Walk___init, sl_Walk___init, kV_Walk___init, dc_Walk___init, pm_Walk___init, an_Walk___init, cdv_Walk___init, ct_Walk___init, l_Walk___init, dd_Walk___init⟩ := c.def_ 31 (d := d_Walk___init) rfl
  obtain ⟨oc_Walk_say, od_Walk_say, sl_Walk_say, kV_Walk_say, dc_Walk_say, pm_Walk_say, an_Walk_say, cdv_Walk_say, ct_Walk_say, l_Walk_say, dd_Walk_say⟩ := c.def_ 32 (d := d_Walk_say) rfl
  obtain ⟨oc_Walk_ended, od_Walk_ended, sl_Walk_ended, kV_Walk_ended, dc_Walk_ended, pm_Walk_ended, an_Walk_ended, cdv_Walk_ended, ct_Walk_ended, l_Walk_ended, dd_Walk_ended⟩ := c.def_ 33 (d := d_Walk_ended) rfl
  obtain ⟨oc_Walk_begin, od_Walk_begin, sl_Walk_begin, kV_Walk_begin, dc_Walk_begin, pm_Walk_begin, an_Walk_begin, cdv_Walk_begin, ct_Walk_begin, l_Walk_begin, dd_Walk_begin⟩ := c.def_ 34 (d := d_Walk_begin) rfl
  obtain ⟨oc_Walk_step, od_Walk_step, sl_Walk_step, kV_Walk_step, dc_Walk_step, pm_Walk_step, an_Walk_step, cdv_Walk_step, ct_Walk_step, l_Walk_step, dd_Walk_step⟩ := c.def_ 35 (d := d_Walk_step) rfl
  obtain ⟨oc_Walk_go_round, od_Walk_go_round, sl_Walk_go_round, kV_Walk_go_round, dc_Walk_go_round, pm_Walk_go_round, an_Walk_go_round, cdv_Walk_go_round, ct_Walk_go_round, l_Walk_go_round, dd_Walk_go_round⟩ := c.def_ 36 (d := d_Walk_go_round) rfl
  obtain ⟨oc_Walk_found, od_Walk_found, sl_Walk_found, kV_Walk_found, dc_Walk_found, pm_Walk_found, an_Walk_found, cdv_Walk_found, ct_Walk_found, l_Walk_found, dd_Walk_found⟩ := c.def_ 37 (d := d_Walk_found) rfl
  obtain ⟨oc_Walk_go_all, od_Walk_go_all, sl_Walk_go_all, kV_Walk_go_all, dc_Walk_go_all, pm_Walk_go_all, an_Walk_go_all, cdv_Walk_go_all, ct_Walk_go_all, l_Walk_go_all, dd_Walk_go_all⟩ := c.def_ 38 (d := d_Walk_go_all) rfl
  obtain ⟨oc_law_rounds, od_law_rounds, sl_law_rounds, kV_law_rounds, dc_law_rounds, pm_law_rounds, an_law_rounds, ct_law_rounds, l_law_rounds, dd_law_rounds⟩ := c.defT 39 (d := d_law_rounds) rfl
  obtain ⟨oc_law_alike, od_law_alike, sl_law_alike, kV_law_alike, dc_law_alike, pm_law_alike, an_law_alike, cdv_law_alike, ct_law_alike, l_law_alike, dd_law_alike⟩ := c.def_ 40 (d := d_law_alike) rfl
  obtain ⟨oc_Wire_need_thing, od_Wire_need_thing, sl_Wire_need_thing, kV_Wire_need_thing, dc_Wire_need_thing, pm_Wire_need_thing, an_Wire_need_thing, cdv_Wire_need_thing, ct_Wire_need_thing, l_Wire_need_thing, dd_Wire_need_thing⟩ := c.def_ 41 (d := d_Wire_need_thing) rfl
  obtain ⟨oc_Wire_off, od_Wire_off, sl_Wire_off, kV_Wire_off, dc_Wire_off, pm_Wire_off, an_Wire_off, cdv_Wire_off, ct_Wire_off, l_Wire_off, dd_Wire_off⟩ := c.def_ 42 (d := d_Wire_off) rfl
  obtain ⟨oc_Wire_alarm, od_Wire_alarm, sl_Wire_alarm, kV_Wire_alarm, dc_Wire_alarm, pm_Wire_alarm, an_Wire_alarm, cdv_Wire_alarm, ct_Wire_alarm, l_Wire_alarm, dd_Wire_alarm⟩ := c.def_ 43 (d := d_Wire_alarm) rfl
  obtain ⟨oc_Wire_calm, od_Wire_calm, sl_Wire_calm, kV_Wire_calm, dc_Wire_calm, pm_Wire_calm, an_Wire_calm, cdv_Wire_calm, ct_Wire_calm, l_Wire_calm, dd_Wire_calm⟩ := c.def_ 44 (d := d_Wire_calm) rfl
  obtain ⟨oc_Wire_hung, od_Wire_hung, sl_Wire_hung, kV_Wire_hung, dc_Wire_hung, pm_Wire_hung, an_Wire_hung, cdv_Wire_hung, ct_Wire_hung, l_Wire_hung, dd_Wire_hung⟩ := c.def_ 45 (d := d_Wire_hung) rfl
  obtain ⟨oc_Wire_alarms, od_Wire_alarms, sl_Wire_alarms, kV_Wire_alarms, dc_Wire_alarms, pm_Wire_alarms, an_Wire_alarms, cdv_Wire_alarms, ct_Wire_alarms, l_Wire_alarms, dd_Wire_alarms⟩ := c.def_ 46 (d := d_Wire_alarms) rfl
  obtain ⟨oc_law, od_law, sl_law, kV_law, dc_law, pm_law, an_law, ct_law, l_law, dd_law⟩ := c.defT 47 (d := d_law) rfl
  obtain ⟨oc_law_word, od_law_word, sl_law_word, kV_law_word, dc_law_word, pm_law_word, an_law_word, cdv_law_word, ct_law_word, l_law_word, dd_law_word⟩ := c.def_ 48 (d := d_law_word) rfl
  have mt_law : (("law", none) : Defn) ∈ tf := List.mem_cons_self
  have mt_law_wide : (("_law_wide", none) : Defn) ∈ tf := List.mem_cons_of_mem _ (List.mem_cons_self)
  have mt_law_rounds : (("_law_rounds", none) : Defn) ∈ tf := List.mem_cons_of_mem _ (List.mem_cons_of_mem _ (List.mem_cons_self))
  have hts : ∀ P ∈ ([A_P_law K, A_P_law_wide K, A_P_law_rounds K] : List PySem.Addr), h.get? P = some (PySem.W.tabObj #[]) := by
    intro P hP
    simp only [List.mem_cons, List.not_mem_nil, or_false] at hP
    rcases hP with rfl | rfl | rfl
    · exact c.empty _ mt_law
    · exact c.empty _ mt_law_wide
    · exact c.empty _ mt_law_rounds
  exact My.all_mk (l := PySem.Challenge.rw_busfind_k01_refused) (w := w) (K := K) (c_Wire := A_c_Wire K) (c_Walk := A_c_Walk K) (c_Day := A_c_Day K) (f_law_taken := A_f_law_taken K) (f_law_width := A_f_law_width K) (f_law_number := A_f_law_number K) (f_law_near := A_f_law_near K) (f_law_things := A_f_law_things K) (f_need_width := A_f_need_width K) (f_Wire___init := A_f_Wire___init K) (f_are_bits := A_f_are_bits K) (f_is_number := A_f_is_number K) (f_need_number := A_f_need_number K) (f_Wire_hang := A_f_Wire_hang K) (f_law_made := A_f_law_made K) (f_met := A_f_met K) (f_fewest := A_f_fewest K) (f_shown := A_f_shown K) (f_need_roster := A_f_need_roster K) (f_judged := A_f_judged K) (f_least := A_f_least K) (f_plan_of := A_f_plan_of K) (f_follows := A_f_follows K) (f_Day___init := A_f_Day___init K) (f_played := A_f_played K) (f_law_wide := A_f_law_wide K) (cd_law_wide := A_cd_law_wide K) (P_law_wide := A_P_law_wide K) (f_law_odd := A_f_law_odd K) (f_Wire_need_round := A_f_Wire_need_round K) (f_look_at := A_f_look_at K) (f_Wire_look := A_f_Wire_look K) (f_Wire_say := A_f_Wire_say K) (f_need_kind := A_f_need_kind K) (f_Wire_begin := A_f_Wire_begin K) (f_Wire_looks := A_f_Wire_looks K) (f_Walk___init := A_f_Walk___init K) (f_Walk_say := A_f_Walk_say K) (f_Walk_ended := A_f_Walk_ended K) (f_Walk_begin := A_f_Walk_begin K) (f_Walk_step := A_f_Walk_step K) (f_Walk_go_round := A_f_Walk_go_round K) (f_Walk_found := A_f_Walk_found K) (f_Walk_go_all := A_f_Walk_go_all K) (f_law_rounds := A_f_law_rounds K) (cd_law_rounds := A_cd_law_rounds K) (P_law_rounds := A_P_law_rounds K) (f_law_alike := A_f_law_alike K) (f_Wire_need_thing := A_f_Wire_need_thing K) (f_Wire_off := A_f_Wire_off K) (f_Wire_alarm := A_f_Wire_alarm K) (f_Wire_calm := A_f_Wire_calm K) (f_Wire_hung := A_f_Wire_hung K) (f_Wire_alarms := A_f_Wire_alarms K) (f_law := A_f_law K) (cd_law := A_cd_law K) (P_law := A_P_law K) (f_law_word := A_f_law_word K) (e_BusError := A_e_BusError K) (e_BadWidth := A_e_BadWidth K) (e_BadNumber := A_e_BadNumber K) (e_BadKind := A_e_BadKind K) (e_BadBit := A_e_BadBit K) (e_There := A_e_There K) (e_NotThere := A_e_NotThere K) (e_NoRound := A_e_NoRound K) (e_Over := A_e_Over K) (e_Busy := A_e_Busy K) (e_BadLooks := A_e_BadLooks K) (e_BadRoster := A_e_BadRoster K) (e_TooMany := A_e_TooMany K) (e_BadPlan := A_e_BadPlan K) (e_BadStep := A_e_BadStep K) (e_BadText := A_e_BadText K) (a_KINDS := A_a_KINDS K) (ts := [A_P_law K, A_P_law_wide K, A_P_law_rounds K]) X G hts hfa
    b_n_Wire b_n_Walk b_n_Day b_a_law_taken l_law_taken dd_law_taken b_k_law_taken b_a_law_width l_law_width dd_law_width b_k_law_width b_a_law_number l_law_number dd_law_number b_k_law_number b_a_law_near l_law_near dd_law_near b_k_law_near b_a_law_things l_law_things dd_law_things b_k_law_things b_a_need_width l_need_width dd_need_width b_k_need_width b_a_Wire___init b_i_Wire___init l_Wire___init dd_Wire___init b_k_Wire___init b_a_are_bits l_are_bits dd_are_bits b_k_are_bits b_a_is_number l_is_number dd_is_number b_k_is_number b_a_need_number l_need_number dd_need_number b_k_need_number b_a_Wire_hang b_i_Wire_hang l_Wire_hang dd_Wire_hang b_k_Wire_hang b_a_law_made l_law_made dd_law_made b_k_law_made b_a_met l_met dd_met b_k_met b_a_fewest l_fewest dd_fewest b_k_fewest b_a_shown l_shown dd_shown b_k_shown b_a_need_roster l_need_roster dd_need_roster b_k_need_roster b_a_judged l_judged dd_judged b_k_judged b_a_least l_least dd_least b_k_least b_a_plan_of l_plan_of dd_plan_of b_k_plan_of b_a_follows l_follows dd_follows b_k_follows b_a_Day___init b_i_Day___init l_Day___init dd_Day___init b_k_Day___init b_a_played l_played dd_played b_k_played b_a_law_wide l_law_wide dd_law_wide b_k_law_wide (c.hd _ mt_law_wide) (c.out _ mt_law_wide) (List.mem_cons_of_mem _ (List.mem_cons_self)) b_a_law_odd l_law_odd dd_law_odd b_k_law_odd b_a_Wire_need_round b_i_Wire_need_round l_Wire_need_round dd_Wire_need_round b_k_Wire_need_round b_a_look_at l_look_at dd_look_at b_k_look_at b_a_Wire_look b_i_Wire_look l_Wire_look dd_Wire_look b_k_Wire_look b_a_Wire_say b_i_Wire_say l_Wire_say dd_Wire_say b_k_Wire_say b_a_need_kind l_need_kind dd_need_kind b_k_need_kind b_a_Wire_begin b_i_Wire_begin l_Wire_begin dd_Wire_begin b_k_Wire_begin b_a_Wire_looks b_i_Wire_looks l_Wire_looks dd_Wire_looks b_k_Wire_looks b_a_Walk___init b_i_Walk___init l_Walk___init dd_Walk___init b_k_Walk___init b_a_Walk_say b_i_Walk_say l_Walk_say dd_Walk_say b_k_Walk_say b_a_Walk_ended b_i_Walk_ended l_Walk_ended dd_Walk_ended b_k_Walk_ended b_a_Walk_begin b_i_Walk_begin l_Walk_begin dd_Walk_begin b_k_Walk_begin b_a_Walk_step b_i_Walk_step l_Walk_step dd_Walk_step b_k_Walk_step b_a_Walk_go_round b_i_Walk_go_round l_Walk_go_round dd_Walk_go_round b_k_Walk_go_round b_a_Walk_found b_i_Walk_found l_Walk_found dd_Walk_found b_k_Walk_found b_a_Walk_go_all b_i_Walk_go_all l_Walk_go_all dd_Walk_go_all b_k_Walk_go_all b_a_law_rounds l_law_rounds dd_law_rounds b_k_law_rounds (c.hd _ mt_law_rounds) (c.out _ mt_law_rounds) (List.mem_cons_of_mem _ (List.mem_cons_of_mem _ (List.mem_cons_self))) b_a_law_alike l_law_alike dd_law_alike b_k_law_alike b_a_Wire_need_thing b_i_Wire_need_thing l_Wire_need_thing dd_Wire_need_thing b_k_Wire_need_thing b_a_Wire_off b_i_Wire_off l_Wire_off dd_Wire_off b_k_Wire_off b_a_Wire_alarm b_i_Wire_alarm l_Wire_alarm dd_Wire_alarm b_k_Wire_alarm b_a_Wire_calm b_i_Wire_calm l_Wire_calm dd_Wire_calm b_k_Wire_calm b_a_Wire_hung b_i_Wire_hung l_Wire_hung dd_Wire_hung b_k_Wire_hung b_a_Wire_alarms b_i_Wire_alarms l_Wire_alarms dd_Wire_alarms b_k_Wire_alarms b_a_law l_law dd_law b_k_law (c.hd _ mt_law) (c.out _ mt_law) (List.mem_cons_self) b_a_law_word l_law_word dd_law_word b_k_law_word b_hP01 b_hP02 b_hP12 b_pg_Wire b_hd_Wire b_po_Wire b_sa_Wire b_mk_Wire b_kc_Wire b_na_Wire_width b_na_Wire_things b_na_Wire_listening b_na_Wire_told b_na_Wire_many b_pg_Walk b_hd_Walk b_po_Walk b_sa_Walk b_mk_Walk b_kc_Walk b_na_Walk_wire b_na_Walk_kind b_na_Walk_rest b_na_Walk_said b_na_Walk_names b_na_Walk_seen b_pg_Day b_hd_Day b_po_Day b_sa_Day b_mk_Day b_kc_Day b_na_Day_line b_na_Day_path b_na_Day_office b_na_Day_clerk b_n_BusError b_n_BadWidth b_n_BadNumber b_n_BadKind b_n_BadBit b_n_There b_n_NotThere b_n_NoRound b_n_Over b_n_Busy b_n_BadLooks b_n_BadRoster b_n_TooMany b_n_BadPlan b_n_BadStep b_n_BadText b_q_BadBit b_kx_BadBit b_bx_BadBit b_tx_BadBit b_q_BadKind b_kx_BadKind b_bx_BadKind b_tx_BadKind b_q_BadNumber b_kx_BadNumber b_bx_BadNumber b_tx_BadNumber b_q_BadWidth b_kx_BadWidth b_bx_BadWidth b_tx_BadWidth b_q_NoRound b_kx_NoRound b_bx_NoRound b_tx_NoRound b_q_NotThere b_kx_NotThere b_bx_NotThere b_tx_NotThere b_q_Over b_kx_Over b_bx_Over b_tx_Over b_q_There b_kx_There b_bx_There b_tx_There b_kk b_kv b_kg b_ka b_ks b_kh b_kl b_km b_kb b_kn b_kt y_n_FOUND b_n_KINDS (fun H => tupB_ok b_t_KINDS H) y_n_LOST y_n_MOST_WIDTH b_z_len b_z_range b_z_int b_z_bool b_z_str b_z_tuple b_z_list b_z_set b_z_sorted b_z_max b_z_min b_z_sum b_z_isinstance b_z_enumerate b_z_ValueError
end HR
open PySem PySem.W PyProof.Rows
set_option maxRecDepth 100000 in
set_option maxHeartbeats 0 in
theorem PySem.Challenge.cw_busfind_k01_refused_holds : PySem.Challenge.rw_busfind_k01_refused.Holds := by
  refine HR.front ?_
  refine LamX.walk_ofTsE (l := PySem.Challenge.rw_busfind_k01_refused) (n := 63) (k := 30) (x := "_law_script") (CX := fun w => L2.CX PySem.Challenge.rw_busfind_k01_refused.prog w) rfl (by decide) (by kernel_rfl) ⟨rfl, by decide, by decide⟩ ?F (fun w H s e s' h => by obtain ⟨_, _, _, _, _, _, _, _, _, _, _, _, z⟩ := h; exact z)
  intro w mg fa h Y G hmg0
  obtain ⟨K, KX, c⟩ := Y
  have hmg : mg ("law" : PySem.Str) = some (.ref fa) := by
    rw [← HR.lawName]
    exact hmg0
  exact ⟨K, KX, HR.facts KX G hmg c⟩
end

