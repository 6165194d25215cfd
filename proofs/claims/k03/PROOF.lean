import PyProof.Rows.All
import Wide.All
import OpenK.AllK
import Wide.FinOn
import HandS.ForMost
import HandS.ForExc
import HandS.Zip
import HandS.More
import HandS.IsInst
import HandS.Wide
import HandS.HeadHook4
import HandS.HeadWalk
import HandS.TryMany
import HandS.ExcCtx
import HandS.Lambda
import HandS.HeadEnd
import HandS.Head2
import HandS.NestedK
import HandS.ExcField
import HandS.SetFor
import HandS.SortOrd
import HandS.Dict
import HandS.TupSets
import KE.KeyNested
import KE.KSortTup
import HandS.HotCalls
import HandS.RaiseFrom
import HandS.SuiteRaise
import HandS.TupAny
import HandS.TupMul
import HandS.TupLe
import HandS.Deep
import PyProof.Rows.SeqMore
import KE.GoesNew
import HandS.ExcIs
import PyProof.TupleOfSeq
import PyProof.CollectStr
import PyProof.CollectIter
import HandS.Small
import HandS.Text
import HandS.RaiseMore
import HandS.ExcInitHot
import HandS.MakeKwOnly
import HandS.DictComp
import HandS.SetKeys
import KE.KAssignIn
import HandS.Style
import PyProof.StrBlock2
import HandS.Strs
import PyProof.TupleOfStr
import KE.KRevSl
import KE.KSortKey
import PyProof.ReprRoads
import PyProof.ReprText
import KE.IntTextLaws
import KE.KIntText
import KE.DataCmp
import PySem.Challenge.RW_cageworks_k03_whole_rights
set_option Elab.async false
set_option linter.all false
set_option maxRecDepth 100000
set_option maxHeartbeats 0
namespace DL
open PySem PySem.Spec PyProof.Rows L2
/-! ### deep values, what the head looks at -/
inductive D where
  | non | bl (b : Bool) | int (i : Int) | str (s : String)
  | tup (xs : List D) | lst (xs : List D) | dct (kvs : List (D × D)) | ref (a : Addr) | scr (ns : List Int)
abbrev S (s : String) : Str := Str.ofString s
def refusals : List String := ["BadProgram", "BadRights", "BadNumber", "BadFeeds", "BadPaper", "BadName", "Taken", "NoName", "Nothing", "BadPicture", "BadLog", "BadText"]
def kinds13 : List String := ["BadProgram", "BadRights", "BadNumber", "BadFeeds", "BadPaper", "BadName", "Taken", "NoName", "TooMuch", "Nothing", "BadPicture", "BadLog", "BadText"]
def excB (K : PySem.W.Frag) (D : Addr) : Bool :=
  decide (PySem.W.findIn K (.ref D) "__getattribute__" = some (some (.builtin "BaseException.__getattribute__"))) && (decide (PySem.W.findIn K (.ref D) "__getattr__" = some none) && (decide (PySem.W.subIn K (.ref D) (.type "BaseException") = some true) && (PySem.W.hasDictIn K D &&
    (decide (PySem.W.findIn K (.ref D) "__class__" = some (some (.builtin "object.__class__"))) && (decide (PySem.W.specialIn K (.builtin "object.__class__") "__get__" = some (some (.builtin "getset_descriptor.__get__"))) &&
      (decide (PySem.W.takesIn K (.builtin "object.__class__") = some true) && decide (PySem.W.mroIn K D (.type "object") = some true)))))))
def toldB (K : PySem.W.Frag) : Bool := refusals.all fun c => excB K (He.ga K (S c)) && ((kinds13.all fun c' => decide (PySem.W.kitOne K (.ref (He.ga K (S c))) (.ref (He.ga K (S c'))) = some (c == c'))) &&
  (decide (PySem.W.kitOne K (.ref (He.ga K (S c))) (.type "ValueError") = some true) && (decide (PySem.W.exmOne K (.ref (He.ga K (S c))) (.ref (He.ga K (S "TooMuch"))) = some false) && decide (PySem.W.exmOne K (.ref (He.ga K (S c))) (.ref (He.ga K (S "CageError"))) = some true))))
abbrev tmA (K : PySem.W.Frag) : Addr := He.ga K (S "TooMuch")
/-- the j-th statement of a class -/
def inCls (st : Stmt) (j : Nat) : Stmt := match st with
  | .ClassDef _ _ _ b _ _ _ _ _ _ _ => b.getD j (.Pass ⟨0, 0, 0, 0⟩)
  | _ => .Pass ⟨0, 0, 0, 0⟩
/-! ### tables of numbers -/
mutual
def relKB (K : PySem.W.Frag) : D → Value → Bool
  | .non, .none => true
  | .bl a, .bool b => a == b
  | .int i, .int j _ => decide (i = j)
  | .str s, .str y _ => decide (y = S s)
  | .tup ds, .ref a => (match K.lookup a with
    | some ⟨.type c, _, .seq its _, _⟩ => decide (c = "tuple") && (decide (its.size ≤ sizeLine) && relKBs K ds its.toList)
    | _ => false)
  | _, _ => false
def relKBs (K : PySem.W.Frag) : List D → List Value → Bool
  | [], [] => true
  | d :: ds, u :: us => relKB K d u && relKBs K ds us
  | _, _ => false
end
def tupGB (K : PySem.W.Frag) (x : String) (d : D) : Bool := relKB K d (.ref (He.ga K (S x)))
/-! ### the Hook over told addresses -/
section
variable (L : List Addr) (fa : List He.Fa) (fn : List He.DefD) (ts : List He.Tab) (tf : List He.Defn) (ex : PySem.W.Frag → Bool)
def obsL (g : Addr → Option Obj) : He.AlX := (He.obsT fa fn ts (He.frT g L), ex (He.frT g L) && He.tabsB g tf (He.frT g L))
end
theorem tabs_at {g : Addr → Option Obj} {tf : List He.Defn} {K : PySem.W.Frag} (z : He.tabsB g tf K = true) (p : He.Defn) (hp : p ∈ tf) :
    PySem.W.codeHdIn K (He.cT K p).1 (He.cT K p).2 = true ∧ ∃ o, g (He.cT K p).2 = some o ∧ He.emptyTab o = true := by
  have q := List.all_eq_true.mp z p hp
  rw [Bool.and_eq_true] at q
  refine ⟨q.1, ?_⟩
  revert q
  generalize g (He.cT K p).2 = r
  rintro ⟨_, q⟩
  match r, q with
  | some o, q => exact ⟨o, rfl, q⟩
theorem saysL {L : List Addr} {fa : List He.Fa} {fn : List He.DefD} {ts : List He.Tab} {tf : List He.Defn} {ex : PySem.W.Frag → Bool} {w : World} {h : Heap} (e : obsL L fa fn ts tf ex h.get? = He.valX fn ts w) : He.SaysX fa fn ts tf ex w h (He.frT h.get? L) := by
  unfold obsL He.valX at e
  rw [Prod.mk.injEq, Bool.and_eq_true] at e
  obtain ⟨a, b, c⟩ := e
  refine ⟨a, b, fun p hp => (tabs_at c p hp).1, fun p hp => ?_, fun p hp => ?_⟩
  · obtain ⟨o, q, y⟩ := (tabs_at c p hp).2
    exact He.frT_none q y
  · obtain ⟨o, q, y⟩ := (tabs_at c p hp).2
    rw [q, He.emptyTab_eq y]
def hookL (L : List Addr) (fa : List He.Fa) (fn : List He.DefD) (ts : List He.Tab) (tf : List He.Defn) (ex : PySem.W.Frag → Bool) : PySem.W.Hook where
  α := He.AlX
  obs := fun s => obsL L fa fn ts tf ex s.heap.get?
  val := He.valX fn ts
  says := (He.hookX 0 fa fn ts tf ex).says
  of := fun _ _ e => ⟨_, He.frT_in, saysL e⟩
  keeps := (He.hookX 0 fa fn ts tf ex).keeps
theorem obsL_eq {L : List Addr} {fa : List He.Fa} {fn : List He.DefD} {ts : List He.Tab} {tf : List He.Defn} {ex : PySem.W.Frag → Bool} {g : Addr → Option Obj} {s : Shared} (h : ∀ a, g a = s.heap.get? a) : obsL L fa fn ts tf ex g = (hookL L fa fn ts tf ex).obs s := by
  rw [funext h]
  rfl
theorem some_of {α β : Type} {o : Option α} {f : α → β} {b : β} {a : α} (h : o.map f = some b) (e : o = some a) : f a = b := by
  rw [e] at h
  exact Option.some.inj h
end DL

namespace K03
open PySem PySem.Spec PyProof.Rows L2 LamX DL
def top (i : Nat) : Stmt := PySem.Challenge.pw_cageworks_k03_whole_rights.main.body.getD i (.Pass ⟨0, 0, 0, 0⟩)
abbrev s__law_door_pool : Stmt := top 49
abbrev s__law_page_pool : Stmt := top 50
abbrev s__law_drawn : Stmt := top 44
abbrev s__law_roll : Stmt := top 45
abbrev s__law_some_of : Stmt := top 51
abbrev s__law_any_rights : Stmt := top 52
abbrev s__law_has : Stmt := top 53
abbrev s_Shared___init__ : Stmt := inCls (top 37) 0
abbrev s_is_word : Stmt := top 19
abbrev s_is_row : Stmt := top 23
abbrev s_is_whole : Stmt := top 18
abbrev s_is_rights : Stmt := top 24
abbrev s_need_rights : Stmt := top 25
abbrev s_Cage___init__ : Stmt := inCls (top 38) 0
abbrev s__law_term : Stmt := top 47
abbrev s__law_told : Stmt := top 48
abbrev s_excess_of : Stmt := top 27
abbrev s_need_both : Stmt := top 26
abbrev s_beyond : Stmt := top 32
abbrev s_joined : Stmt := top 31
abbrev s_met_of : Stmt := top 29
abbrev s_met : Stmt := top 30
abbrev s_rights_text : Stmt := top 41
abbrev s_within : Stmt := top 28
abbrev s__law_rights_refused : Stmt := top 54
abbrev s__law_cell : Stmt := top 43
abbrev s__law_rounds : Stmt := top 46
abbrev s_law : Stmt := top 55
def fn : List He.DefD := [⟨("_law_door_pool", none), "_law_door_pool", "_law_door_pool", defArgs s__law_door_pool, defBody s__law_door_pool, defScope s__law_door_pool, [], []⟩, ⟨("_law_page_pool", none), "_law_page_pool", "_law_page_pool", defArgs s__law_page_pool, defBody s__law_page_pool, defScope s__law_page_pool, [], []⟩, ⟨("_law_drawn", none), "_law_drawn", "_law_drawn", defArgs s__law_drawn, defBody s__law_drawn, defScope s__law_drawn, [], []⟩, ⟨("_law_roll", none), "_law_roll", "_law_roll", defArgs s__law_roll, defBody s__law_roll, defScope s__law_roll, [], []⟩, ⟨("_law_some_of", none), "_law_some_of", "_law_some_of", defArgs s__law_some_of, defBody s__law_some_of, defScope s__law_some_of, [], []⟩, ⟨("_law_any_rights", none), "_law_any_rights", "_law_any_rights", defArgs s__law_any_rights, defBody s__law_any_rights, defScope s__law_any_rights, [], []⟩, ⟨("_law_has", none), "_law_has", "_law_has", defArgs s__law_has, defBody s__law_has, defScope s__law_has, [], []⟩, ⟨("Shared", some "__init__"), "__init__", "Shared.__init__", defArgs s_Shared___init__, defBody s_Shared___init__, defScope s_Shared___init__, [], []⟩, ⟨("is_word", none), "is_word", "is_word", defArgs s_is_word, defBody s_is_word, defScope s_is_word, [], []⟩, ⟨("is_row", none), "is_row", "is_row", defArgs s_is_row, defBody s_is_row, defScope s_is_row, [], []⟩, ⟨("is_whole", none), "is_whole", "is_whole", defArgs s_is_whole, defBody s_is_whole, defScope s_is_whole, [], []⟩, ⟨("is_rights", none), "is_rights", "is_rights", defArgs s_is_rights, defBody s_is_rights, defScope s_is_rights, [], []⟩, ⟨("need_rights", none), "need_rights", "need_rights", defArgs s_need_rights, defBody s_need_rights, defScope s_need_rights, [], []⟩, ⟨("Cage", some "__init__"), "__init__", "Cage.__init__", defArgs s_Cage___init__, defBody s_Cage___init__, defScope s_Cage___init__, [], []⟩, ⟨("_law_term", none), "_law_term", "_law_term", defArgs s__law_term, defBody s__law_term, defScope s__law_term, [], []⟩, ⟨("_law_told", none), "_law_told", "_law_told", defArgs s__law_told, defBody s__law_told, defScope s__law_told, [], []⟩, ⟨("excess_of", none), "excess_of", "excess_of", defArgs s_excess_of, defBody s_excess_of, defScope s_excess_of, [], []⟩, ⟨("need_both", none), "need_both", "need_both", defArgs s_need_both, defBody s_need_both, defScope s_need_both, [], []⟩, ⟨("beyond", none), "beyond", "beyond", defArgs s_beyond, defBody s_beyond, defScope s_beyond, [], []⟩, ⟨("joined", none), "joined", "joined", defArgs s_joined, defBody s_joined, defScope s_joined, [], []⟩, ⟨("met_of", none), "met_of", "met_of", defArgs s_met_of, defBody s_met_of, defScope s_met_of, [], []⟩, ⟨("met", none), "met", "met", defArgs s_met, defBody s_met, defScope s_met, [], []⟩, ⟨("rights_text", none), "rights_text", "rights_text", defArgs s_rights_text, defBody s_rights_text, defScope s_rights_text, [], []⟩, ⟨("within", none), "within", "within", defArgs s_within, defBody s_within, defScope s_within, [], []⟩, ⟨("_law_rights_refused", none), "_law_rights_refused", "_law_rights_refused", defArgs s__law_rights_refused, defBody s__law_rights_refused, defScope s__law_rights_refused, [], []⟩, ⟨("_law_cell", none), "_law_cell", "_law_cell", defArgs s__law_cell, defBody s__law_cell, defScope s__law_cell, [], []⟩, ⟨("_law_rounds", none), "_law_rounds", "_law_rounds", defArgs s__law_rounds, defBody s__law_rounds, defScope s__law_rounds, [], []⟩, ⟨("law", none), "law", "law", defArgs s_law, defBody s_law, defScope s_law, [], []⟩]
def fa : List He.Fa := [.glo "_law_door_pool", .glo "_law_page_pool", .glo "_law_drawn", .glo "_law_roll", .glo "_law_some_of", .glo "_law_any_rights", .glo "_law_has", .glo "is_word", .glo "is_row", .glo "is_whole", .glo "is_rights", .glo "need_rights", .glo "_law_term", .glo "_law_told", .glo "excess_of", .glo "need_both", .glo "beyond", .glo "joined", .glo "met_of", .glo "met", .glo "rights_text", .glo "within", .glo "_law_rights_refused", .glo "_law_cell", .glo "_law_rounds", .glo "law", .cls "Cage", .cls "Shared", .mkr "Cage", .glo "Cage", .mkr "Shared", .glo "Shared", .noat "Shared" "boxes", .noat "Cage" "given", .noat "Shared" "sheets", .noat "Cage" "table", .noat "Cage" "world", .glo "SORTS", .free "ValueError", .free "all", .free "bool", .free "enumerate", .free "int", .free "isinstance", .free "len", .free "max", .free "min", .free "range", .free "set", .free "sorted", .free "str", .free "sum", .free "tuple", .free "zip", .int "MOST_ROOM" 60, .str "SIGNS" (Str.ofString "?!<>"), .str "SMALL" (Str.ofString "abcdefghijklmnopqrstuvwxyz"), .exc "BadRights", .glo "BadRights", .glo "BadProgram", .glo "BadNumber", .glo "BadFeeds", .glo "BadPaper", .glo "BadName", .glo "Taken", .glo "NoName", .glo "TooMuch", .glo "Nothing", .glo "BadPicture", .glo "BadLog", .glo "BadText", .glo "CageError"]
def ts : List He.Tab := []
def tf : List He.Defn := [("law", none), ("_law_rights_refused", none)]
def ex (K : PySem.W.Frag) : Bool := toldB K && tupGB K "SORTS" (.tup [(.str "ask"), (.str "tell"), (.str "look"), (.str "mark")]) && decide ((He.cT K ("_law_rights_refused", none)).2 ≠ (He.cT K ("law", none)).2)
abbrev R : PySem.W.OpenRow := PySem.W.OpenLaw.row PySem.Challenge.rw_cageworks_k03_whole_rights
def adrs : List PySem.Addr := [3, 6, 4, 21, 31, 51, 63, 75, 87, 99, 111, 123, 135, 147, 159, 171, 183, 195, 204, 209, 210, 215, 220, 227, 234, 239, 246, 251, 258, 263, 270, 272, 279, 338, 479, 488, 495, 502, 509, 514, 519, 526, 533, 540, 545, 552, 557, 564, 569, 0, 20, 30, 50, 62, 74, 86, 98, 110, 122, 134, 146, 158, 170, 182, 194, 203, 208, 214, 219, 226, 233, 238, 245, 250, 257, 262, 269, 278, 337, 478, 487, 494, 501, 508, 513, 518, 525, 532, 539, 544, 551, 556, 563, 568, 15, 16, 17, 18, 19, 29, 32, 48, 49, 61, 73, 85, 97, 109, 121, 133, 145, 157, 169, 181, 193, 198, 199, 200, 201, 202, 205, 206, 207, 211, 212, 213, 216, 217, 218, 221, 222, 223, 224, 225, 228, 229, 230, 231, 232, 235, 236, 237, 240, 241, 242, 243, 244, 247, 248, 249, 252, 253, 254, 255, 256, 259, 260, 261, 264, 265, 266, 267, 268, 273, 274, 275, 276, 277, 293, 300, 307, 314, 321, 328, 335, 336, 339, 340, 356, 363, 370, 377, 385, 392, 399, 406, 413, 420, 427, 434, 441, 448, 455, 462, 469, 476, 477, 480, 481, 484, 485, 486, 489, 490, 491, 492, 493, 496, 497, 498, 499, 500, 503, 504, 505, 506, 507, 510, 511, 512, 515, 516, 517, 520, 521, 522, 523, 524, 527, 528, 529, 530, 531, 534, 535, 536, 537, 538, 541, 542, 543, 546, 547, 548, 549, 550, 553, 554, 555, 558, 559, 560, 561, 562, 565, 566, 567, 47, 292, 299, 306, 313, 320, 327, 334, 355, 362, 369, 376, 384, 378, 391, 398, 405, 412, 419, 426, 433, 440, 447, 454, 461, 468, 475, 42, 43, 44, 45, 46, 287, 288, 289, 290, 291, 294, 295, 296, 297, 298, 301, 302, 303, 304, 305, 308, 309, 310, 311, 312, 315, 316, 317, 318, 319, 322, 323, 324, 325, 326, 329, 330, 331, 332, 333, 350, 351, 352, 353, 354, 357, 358, 359, 360, 361, 364, 365, 366, 367, 368, 371, 372, 373, 374, 375, 379, 380, 381, 382, 383, 386, 387, 388, 389, 390, 393, 394, 395, 396, 397, 400, 401, 402, 403, 404, 407, 408, 409, 410, 411, 414, 415, 416, 417, 418, 421, 422, 423, 424, 425, 428, 429, 430, 431, 432, 435, 436, 437, 438, 439, 442, 443, 444, 445, 446, 449, 450, 451, 452, 453, 456, 457, 458, 459, 460, 463, 464, 465, 466, 467, 470, 471, 472, 473, 474]
abbrev hk : PySem.W.Hook := hookL adrs fa fn ts tf ex
def ob (s : PySem.W.SharedT) : He.AlX := obsL adrs fa fn ts tf ex (HandSHeadRun.getT s)
theorem ob_eq (s : PySem.W.SharedT) : ob s = hk.obs s.abs := obsL_eq (HandSHeadRun.getT_eq s)
def nm0 : List PySem.Str := ["_wall", "CageError", "TooMuch", "BadProgram", "BadRights", "BadNumber", "BadFeeds", "BadPaper", "BadName", "Taken", "NoName", "Nothing", "BadPicture", "BadLog", "BadText", "SMALL", "is_whole", "is_word", "MOST_ROOM", "SORTS", "is_row", "is_rights", "need_rights", "need_both", "excess_of", "within", "met_of", "met", "joined", "beyond"]
def nm1 : List PySem.Str := ["BARE", "need_word", "Shared", "Cage", "SIGNS", "rights_text", "_law_cell", "_law_drawn", "_law_roll", "_law_rounds", "_law_term", "_law_told", "_law_door_pool", "_law_page_pool", "_law_some_of", "_law_any_rights", "_law_has", "_law_rights_refused"]
def nms : List PySem.Str := nm0 ++ nm1
theorem rf_look (w : World) (os : OsState) : (HandSHeadRun.endF (HandSHeadRun.stepQ (HandSHeadRun.denQ HandSHeadRun.tabQ) R.prog (w.withFollow "special-get-raises" false)) 20000 R.prog (w.withFollow "special-get-raises" false) os).map (fun s => (HandSHeadRun.looksF R.prog (PySem.W.boot_heap (w.withFollow "special-get-raises" false).params) s.abs, HandSHeadRun.seenQ (PySem.W.view R.prog [55]) nms (importedModules R.prog.main.body) (fun s => PySem.W.xlAt (PySem.W.view R.prog [55]) [] s && PySem.W.recOk R.toRowW.records s) s.abs)) = some (true, PySem.W.openGood (PySem.W.view R.prog [55]) nms) := by
  kernel_rfl
theorem rf_ob (w : World) (os : OsState) : (HandSHeadRun.endF (HandSHeadRun.stepQ (HandSHeadRun.denQ HandSHeadRun.tabQ) R.prog (w.withFollow "special-get-raises" false)) 20000 R.prog (w.withFollow "special-get-raises" false) os).map (fun s => ob s) = some (hk.val (w.withFollow "special-get-raises" false)) := by
  kernel_rfl
theorem run_f (w : World) : HandSHeadRun.RunEq R (PySem.W.view R.prog [55]) hk ob 20000 nms (w.withFollow "special-get-raises" false) := by
  intro os
  obtain ⟨s, e, z⟩ := Option.map_eq_some_iff.mp (rf_look w os)
  have o1 := some_of (rf_ob w os) e
  show (HandSHeadRun.endF (HandSHeadRun.stepQ (HandSHeadRun.denQ HandSHeadRun.tabQ) R.prog (w.withFollow "special-get-raises" false)) 20000 R.prog (w.withFollow "special-get-raises" false) os).map _ = _
  rw [e]
  simp only [Prod.mk.injEq] at z
  exact congrArg some (Prod.ext z.1 (Prod.ext z.2 o1))
theorem rt_look (w : World) (os : OsState) : (HandSHeadRun.endF (HandSHeadRun.stepQ (HandSHeadRun.denQ HandSHeadRun.tabQ) R.prog (w.withFollow "special-get-raises" true)) 20000 R.prog (w.withFollow "special-get-raises" true) os).map (fun s => (HandSHeadRun.looksF R.prog (PySem.W.boot_heap (w.withFollow "special-get-raises" true).params) s.abs, HandSHeadRun.seenQ (PySem.W.view R.prog [55]) nms (importedModules R.prog.main.body) (fun s => PySem.W.xlAt (PySem.W.view R.prog [55]) [] s && PySem.W.recOk R.toRowW.records s) s.abs)) = some (true, PySem.W.openGood (PySem.W.view R.prog [55]) nms) := by
  kernel_rfl
theorem rt_ob (w : World) (os : OsState) : (HandSHeadRun.endF (HandSHeadRun.stepQ (HandSHeadRun.denQ HandSHeadRun.tabQ) R.prog (w.withFollow "special-get-raises" true)) 20000 R.prog (w.withFollow "special-get-raises" true) os).map (fun s => ob s) = some (hk.val (w.withFollow "special-get-raises" true)) := by
  kernel_rfl
theorem run_t (w : World) : HandSHeadRun.RunEq R (PySem.W.view R.prog [55]) hk ob 20000 nms (w.withFollow "special-get-raises" true) := by
  intro os
  obtain ⟨s, e, z⟩ := Option.map_eq_some_iff.mp (rt_look w os)
  have o1 := some_of (rt_ob w os) e
  show (HandSHeadRun.endF (HandSHeadRun.stepQ (HandSHeadRun.denQ HandSHeadRun.tabQ) R.prog (w.withFollow "special-get-raises" true)) 20000 R.prog (w.withFollow "special-get-raises" true) os).map _ = _
  rw [e]
  simp only [Prod.mk.injEq] at z
  exact congrArg some (Prod.ext z.1 (Prod.ext z.2 o1))
theorem run (w : World) : HandSHeadRun.RunEq R (PySem.W.view R.prog [55]) hk ob 20000 nms w :=
  PySem.W.byRow2 "special-get-raises" (P := fun w => HandSHeadRun.RunEq R (PySem.W.view R.prog [55]) hk ob 20000 nms w) run_f run_t w
end K03

/-! sets of ints and texts that are made of a row and sorted; sorted of a row, a dict, a set -/
namespace DZ
open PySem PySem.Spec PyProof.Rows L2 SrtO
def kOf (v : Value) : Key := match v with
  | .int k _ => .inl k
  | .str x _ => .inr x
  | _ => .inl 0
theorem kOf_is {k : Key} {v : Value} (h : keyIs k v = true) : kOf v = k := by
  rcases keyIs_shape h with ⟨i, t, rfl, rfl⟩ | ⟨x, t, rfl, rfl⟩ <;> rfl
theorem sc_is {k : Key} {v : Value} (h : keyIs k v = true) : v.scannable = true := by
  rcases keyIs_shape h with ⟨i, t, rfl, rfl⟩ | ⟨x, t, rfl, rfl⟩ <;> rfl
def Good (w : World) (e : Int × Value) : Prop := keyIs (kOf e.2) e.2 = true ∧ e.1 = keyH w (kOf e.2)
def kE (e : Int × Value) : Key := kOf e.2
/-- the set at a: its members are those of S, at most n -/
def SetM (w : World) (h : Heap) (a : Addr) (S : List Key) (n : Nat) : Prop :=
  ∃ o es ep t, h.get? a = some o ∧ o.ExactSet ∧ o.data = .set es ep t ∧ (∀ e ∈ es.toList, Good w e) ∧ (es.toList.map kE).Nodup ∧ (∀ k, k ∈ S ↔ k ∈ es.toList.map kE) ∧
    es.size ≤ n ∧ n < scanBound ∧ t.fits es.size = true ∧ Ris t.place.toList ∧ (w.params.followText "set-order" = true ∨ t.led = true)
section
variable {P : Program} {w : World} {h h' : Heap} {a : Addr} {S : List Key} {n : Nat}
theorem SetM.at (R : SetM w h a S n) (k : ∀ o, h.get? a = some o → h'.get? a = some o) : SetM w h' a S n := by
  obtain ⟨o, es, ep, t, ho, r⟩ := R
  exact ⟨o, es, ep, t, k o ho, r⟩
theorem elems {l : List (Int × Value)} (g : ∀ e ∈ l, Good w e) : ElemsOf (mixKind P w) l := fun e he => ⟨⟨kE e, (g e he).1, (g e he).2⟩, sc_is (g e he).1⟩
theorem mem_is {l : List (Int × Value)} (g : ∀ e ∈ l, Good w e) (k : Key) : k ∈ l.map kE ↔ ∃ e ∈ l, keyIs k e.2 = true := by
  constructor
  · intro m
    obtain ⟨e, he, q⟩ := List.mem_map.mp m
    exact ⟨e, he, q ▸ (g e he).1⟩
  · rintro ⟨e, he, q⟩
    exact List.mem_map.mpr ⟨e, he, kOf_is q⟩
end
section
variable {P : Program} {w : World} {A : Around} {E : Value → Shared → Prop} {s : Shared} {a : Addr} {S : List Key} {n : Nat}
theorem tailM {g : Bool → Sem Unit} (hg : ∀ (b : Bool) (s₁ : Shared) (Q' : Unit → Shared → Prop), Q' () s₁ → wpAny (model P w) A (g b) Q' E s₁)
    {o : Obj} {es : Array (Int × Value)} {ep : Nat} {t : SetTable} (ho : s.heap.get? a = some o) (hex : o.ExactSet) (hd : o.data = .set es ep t)
    {z : Array (Int × Value)} {u : SetTable} (zg : ∀ e ∈ z.toList, Good w e) (zn : (z.toList.map kE).Nodup) (zm : ∀ k, k ∈ S ↔ k ∈ z.toList.map kE)
    (zs : z.size ≤ n) (hn : n < scanBound) (uf : u.fits z.size = true) (ur : Ris u.place.toList) (ul : w.params.followText "set-order" = true ∨ u.led = true) {dm : Bool} {R : Option Bool → Shared → Prop}
    (hR : ∀ h', Heap.SameBut a s.heap h' → SetM w h' a S n → R (some true) { s with heap := h' }) :
    wpAny (model P w) A (do
        storeSet a z u
        if (!dm && u.tooFull) = true then do
            g (relayAll u z (SetTable.grown z.size)).2.2
            storeSet a (relayAll u z (SetTable.grown z.size)).1 (relayAll u z (SetTable.grown z.size)).2.1
            pure (some true)
          else pure (some true)) R E s := by
  have zb : z.size < scanBound := Nat.lt_of_le_of_lt zs hn
  refine wpAny_bind (wpAny_storeSet_of ho hd ?_ (fits_of_scanBound zb))
  have o1 := store_at (es' := z) (t' := u) ho hd
  have b1 := Heap.SameBut.update s.heap a (Obj.putSet z u)
  by_cases c : (!dm && u.tooFull) = true
  · rw [if_pos c]
    have q1 := relayAll_perm u z (SetTable.grown z.size)
    have q2 := relayAll_fits u z (SetTable.grown z.size)
    have q3 := relayAll_ris u z (SetTable.grown z.size)
    have q4 := relayAll_led u z (SetTable.grown z.size)
    revert q1 q2 q3 q4
    generalize relayAll u z (SetTable.grown z.size) = Z
    obtain ⟨y, v, gv⟩ := Z
    dsimp only
    intro q1 q2 q3 q4
    have ys : y.size = z.size := by rw [← Array.length_toList, q1.length_eq, Array.length_toList]
    refine wpAny_bind (hg _ _ _ (wpAny_bind (wpAny_storeSet_of o1 rfl ?_ (fits_of_scanBound (by rw [ys]; exact zb)))))
    refine wpAny_pure (hR _ (b1.trans (Heap.SameBut.update _ a _)) ⟨_, y, _, v, store_at (es' := y) (t' := v) o1 rfl, hex, rfl, fun e he => zg e (q1.mem_iff.mp he), (q1.map kE).nodup_iff.mpr zn,
      fun k => (zm k).trans (q1.map kE).mem_iff.symm, by rw [ys]; exact zs, hn, q2, q3, ul.imp id fun e => by rw [q4]; exact e⟩)
  · rw [if_neg c]
    exact wpAny_pure (hR _ b1 ⟨_, z, _, u, o1, hex, rfl, zg, zn, zm, zs, hn, uf, ur, ul⟩)
theorem addM {k : Key} {v : Value} {Q : Bool → Shared → Prop} (hk : keyIs k v = true) (R : SetM w s.heap a S n) (room : n + 1 < scanBound)
    (hQ : ∀ b h', Heap.SameBut a s.heap h' → SetM w h' a (S ++ [k]) (n + 1) → Q b { s with heap := h' }) :
    wpAny (model P w) A (setAddHashed a v ((mixKind P w).hash k)) Q E s := by
  obtain ⟨o, es, ep, t, ho, hex, hd, g, nd, hm, hs, hn, hf, hr, hl⟩ := R
  have hb : es.size < scanBound := Nat.lt_of_le_of_lt hs hn
  have hsc := sc_is hk
  have hel : ElemsOf (mixKind P w) es.toList := elems g
  have hkey : (mixKind P w).is k v = true := hk
  unfold setAddHashed setAddHashedIn
  refine wpAny_holding (wpAny_bind (wpAny_setState_of ho hd hf ?_))
  dsimp only
  rw [byScan_of hsc hb hel]
  simp only [↓reduceIte]
  unfold setAddByScan
  refine wpAny_bind (wpAny_bind (wpAny_rule (wpAny_bind (wpAny_setScan_of hkey ho hd hf hel ?_))))
  cases fi : List.findIdx? (fun e => (mixKind P w).is k e.2) es.toList with
  | some j =>
    dsimp only
    obtain ⟨hj, pj, _⟩ := List.findIdx?_eq_some_iff_getElem.mp fi
    have mk : k ∈ es.toList.map kE := (mem_is g k).mpr ⟨es.toList[j], List.getElem_mem hj, pj⟩
    refine wpAny_pure (wpAny_pure (hQ _ s.heap (Heap.SameBut.refl a s.heap) ⟨o, es, ep, t, ho, hex, hd, g, nd, fun i => ?_, Nat.le_succ_of_le hs, room, hf, hr, hl⟩))
    rw [List.mem_append, List.mem_singleton, hm i]
    exact ⟨fun z => z.elim id fun e => e ▸ mk, .inl⟩
  | none =>
    dsimp only
    have nk : k ∉ es.toList.map kE := fun m => by
      obtain ⟨e, he, q⟩ := (mem_is g k).mp m
      have c := List.findIdx?_eq_none_iff.mp fi e he
      rw [show (mixKind P w).is k e.2 = true from q] at c
      cases c
    have rl : ∀ (b : Bool) {s₁ : Shared} {Q' : Unit → Shared → Prop}, Q' () s₁ → wpAny (model P w) A (match b with | true => rule "set.scan.the-table-gave-way" | false => pure ()) Q' E s₁ :=
      fun b s₁ Q' q => by cases b <;> first | exact wpAny_pure q | exact wpAny_rule q
    have p1 := layNew_perm t es ((mixKind P w).hash k) v
    have p2 := layNew_fits t es ((mixKind P w).hash k) v
    have p3 := layNew_ris t es ((mixKind P w).hash k) v hr
    have p4 := layNew_led t es ((mixKind P w).hash k) v
    revert p1 p2 p3 p4
    generalize layNew t es ((mixKind P w).hash k) v = Z
    obtain ⟨z, u, dm, gv⟩ := Z
    dsimp only
    intro p1 p2 p3 p4
    rw [Array.toList_push] at p1
    have pc : z.toList.Perm (((mixKind P w).hash k, v) :: es.toList) := p1.trans (List.perm_append_singleton _ _)
    have pk : (z.toList.map kE).Perm (k :: es.toList.map kE) := by
      have e := pc.map kE
      rw [List.map_cons, show kE ((mixKind P w).hash k, v) = k from kOf_is hk] at e
      exact e
    have zg : ∀ e ∈ z.toList, Good w e := fun e he => by
      rcases List.mem_cons.mp (pc.mem_iff.mp he) with e1 | e1
      · rw [e1]
        exact ⟨by rw [kOf_is hk]; exact hk, by rw [kOf_is hk] <;> rfl⟩
      · exact g e e1
    have zn : (z.toList.map kE).Nodup := pk.nodup_iff.mpr (List.nodup_cons.mpr ⟨nk, nd⟩)
    have zm : ∀ i, i ∈ S ++ [k] ↔ i ∈ z.toList.map kE := fun i => by
      rw [List.mem_append, List.mem_singleton, hm i, pk.mem_iff, List.mem_cons]
      exact Or.comm
    have zs : z.size ≤ n + 1 := by
      rw [← Array.length_toList, pc.length_eq, List.length_cons, Array.length_toList]
      exact Nat.succ_le_succ hs
    have ul : w.params.followText "set-order" = true ∨ u.led = true := hl.imp id fun e => by rw [p4]; exact e
    refine wpAny_bind (rl _ ?_)
    split
    · refine wpAny_bind ?_
      rw [hashByValue_scannable 8 hsc]
      refine wpAny_pure (tailM ?_ ho hex hd zg zn zm zs room ?_ ?_ ?_ ?_)
      · intro b s₁ Q' q
        cases b <;> first | exact wpAny_pure q | exact wpAny_rule q
      · first | (split <;> first | exact p2 | exact SetTable.fits_plain_off p2) | exact p2
      · first | (split <;> exact p3) | exact p3
      · first | (split <;> exact ul) | exact ul
      · intro h' sb r
        dsimp only
        exact wpAny_pure (hQ _ h' sb r)
    · refine wpAny_bind (wpAny_pure ?_)
      simp only [↓reduceIte]
      refine tailM ?_ ho hex hd zg zn zm zs room p2 p3 ul ?_
      · intro b s₁ Q' q
        cases b <;> first | exact wpAny_pure q | exact wpAny_rule q
      · intro h' sb r
        dsimp only
        exact wpAny_pure (hQ _ h' sb r)
/-- the row's keys, one by one, into the set -/
theorem updM {I : Addr} {fp wr : List Addr} {G : Array GenState → Array GenState → Prop} {n : Nat} {Pv : Nat → Value → Prop} {St : Nat → Shared → Prop} {R : Result → Shared → Prop}
    (W : WalksS P w A.in1 I fp wr G n Pv St) (T : Addr) (hT : T ∉ fp) (ks : List Key) (hn : n = ks.length) (hb : ks.length + 1 < scanBound) (hv : ∀ i v, Pv i v → ∃ k, ks[i]? = some k ∧ keyIs k v = true) :
    ∀ (j i : Nat) (s : Shared), n - i = j → i ≤ n → St i s → SetM w s.heap T (ks.take i) i →
      (∀ s', Moved (T :: wr) G s s' → SetM w s'.heap T ks n → R (.ok (.ret .none)) s') →
      codeAny (model P w) A (.builtin "set.update.loop" ⟨[.ref T, .ref I], []⟩) R s := by
  have nw : T ∉ wr := fun m => hT (W.sub _ m)
  have sub : ∀ b ∈ wr, b ∈ T :: wr := fun b m => List.mem_cons_of_mem _ m
  intro j
  induction j with
  | zero =>
    intro i s hj hi st M hR
    obtain rfl : i = n := by omega
    refine codeAny_builtin F.entry_set_update_loop ?_
    rw [Around.under_plainId F.plain_set_update_loop _]
    show wpAny _ A.in1 (pyNext (.ref I) >>= _) _ _ s
    refine wpAny_bind (W.done s _ _ st fun s' mv => ?_)
    rw [List.take_of_length_le (by omega)] at M
    exact wpAny_pure (hR s' (mv.mono sub) (M.at fun o e => mv.heap T o nw e))
  | succ j ih =>
    intro i s hj hi st M hR
    have lt : i < n := by omega
    refine codeAny_builtin F.entry_set_update_loop ?_
    rw [Around.under_plainId F.plain_set_update_loop _]
    show wpAny _ A.in1 (pyNext (.ref I) >>= _) _ _ s
    refine wpAny_bind (W.item i s _ _ lt st fun v s' hP st' mv => ?_)
    obtain ⟨k, hk, is⟩ := hv i v hP
    have M1 : SetM w s'.heap T (ks.take i) i := M.at fun o e => mv.heap T o nw e
    show wpAny _ A.in1 (holding [v] (setAdd T v) >>= _) _ _ s'
    refine wpAny_bind (wpAny_holding ?_)
    unfold setAdd
    refine wpAny_holding (wpAny_bind ((mixKind P w).pyHash (k := k) is ?_))
    refine addM (s := { s' with toks := s'.toks + 1 }) is M1 (by omega) fun b h' sb M2 => ?_
    have e1 : ks.take i ++ [k] = ks.take (i + 1) := by
      rw [List.take_add_one, hk]
      rfl
    rw [e1] at M2
    refine wpAny_pure ⟨plainId_quiet F.plain_set_update_loop _, ih (i + 1) _ (by omega) lt (W.frame _ s' _ _ st' (Nat.le_succ _) fun b m o e => ?_) M2 fun s2 mv2 M3 => ?_⟩
    · rw [sb.2 b (fun z : b = T => hT (z ▸ m))]
      exact e
    · refine hR s2 (Moved.trans W.gtrans ((mv.mono sub).then_heap (Nat.le_succ _) fun b o m e => ?_) mv2) M3
      rw [sb.2 b (fun z : b = T => m (by rw [z]; exact List.mem_cons_self))]
      exact e
theorem freshM {h : Heap} {a : Addr} (ho : h.get? a = some { cls := .type "set", dict := none, data := .set #[] 0 (.fresh 0 0 (!w.params.followText "set-order")) }) : SetM w h a [] 0 :=
  ⟨_, #[], 0, _, ho, ⟨rfl, rfl, rfl⟩, rfl, fun e m => by simp at m, by simp, fun k => by simp, Nat.le_refl _, by decide, rfl, List.Pairwise.nil, by
    show _ ∨ (!w.params.followText "set-order") = true
    cases w.params.followText "set-order"
    · exact .inr rfl
    · exact .inl rfl⟩
end
end DZ

namespace DZ
open PySem PySem.Spec PyProof.Rows L2 SrtO
section
variable {P : Program} {w : World} {A : Around} {E : Value → Shared → Prop} {s : Shared}
/-- the new set's object -/
def nilSet (w : World) : Obj := { cls := .type "set", dict := none, data := .set #[] 0 (.fresh 0 0 (!w.params.followText "set-order")) }
theorem call_set_list {l : Addr} {xs : Array Value} (ks : List Key) {Q : Value → Shared → Prop} (hh : A.handled = none) (hl : s.heap.IsList l xs) (len : xs.size = ks.length) (hk : ∀ (i : Nat) (v : Value), xs[i]? = some v → ∃ k, ks[i]? = some k ∧ keyIs k v = true) (hb : ks.length + 1 < scanBound)
    (h : ∀ (h' : Heap) (tk : Nat), SetM w h' s.heap.objs.size ks ks.length → (∀ b o, s.heap.get? b = some o → h'.get? b = some o) → Q (.ref s.heap.objs.size) { s with heap := h', toks := tk }) :
    wpAny (model P w) A (call (.type "set") [.ref l]) Q E s := by
  obtain ⟨c, tl, hmro⟩ := F.called_set.mro
  have hmade := F.called_set.made
  have hsub := F.called_set.sub
  refine wpAny_call (codeAny_of_tree ?_)
  show wpAny _ _ (callAny (.type "set") _) _ _ _
  refine wpAny_pure ⟨Code.quiet_builtin _ (by decide +kernel), codeAny_builtin F.entry_type_call ?_⟩
  rw [Around.under_plain (weight_type_call_type "set" [.ref l] []) rfl]
  have h1 := F.called_set.notType
  have h2 := F.called_set.canCreate
  have hct := F.typeCall_set_1 (.ref l)
  repeat (any_goals (first | assumption | wp_step))
  refine codeAny_mono (code_set_led1 (.ref l) (E := E) (Q₁ := fun x s₁ => x = .ref s.heap.objs.size ∧ s₁ = { s with heap := s.heap.push (nilSet w) }) ⟨rfl, rfl⟩) fun r s₁ hr => ?_
  cases r with
  | error e => exact hr
  | ok fl =>
    cases fl with
    | ret x =>
      obtain ⟨rfl, rfl⟩ := hr
      have hS : (s.heap.push (nilSet w)).get? s.heap.objs.size = some (nilSet w) := Heap.get?_push_size _ rfl
      have hT : Shared.TypeIs { s with heap := s.heap.push (nilSet w) } (.ref s.heap.objs.size) "set" := ⟨_, hS, rfl⟩
      have hli := F.called_set.init.lookup
      have hbi := F.called_set.init.bind (.ref s.heap.objs.size)
      repeat (any_goals (first | assumption | wp_step))
      refine codeAny_mono (codeAny_call_builtin (R := wants (fun r s₂ => r = .none ∧ ∃ h' tk, s₂ = { s with heap := h', toks := tk } ∧ SetM w h' s.heap.objs.size ks ks.length ∧
          (∀ b o, s.heap.get? b = some o → h'.get? b = some o)) E) F.called_set.init.plain F.entry_set_init (check_set_init_1 hT ?_)) fun r₂ s₂ hr₂ => ?_
      · obtain ⟨ol, hol, hcl, nl, hdl⟩ := hl
        obtain ⟨ocls, odict, odata, oslots⟩ := ol
        simp only at hcl hdl
        subst hcl; subst hdl
        have hol' : (s.heap.push (nilSet w)).get? l = some { cls := .type "list", dict := odict, data := .seq xs nl, slots := oslots } := Heap.get?_push_of_some _ hol
        have hsls := F.sub_list_set
        have hslf := F.sub_list_frozenset
        have hne : (Value.type "list" == Value.type "dict") = false := by decide
        have hl1 : (s.heap.push (nilSet w)).IsList l xs := ⟨_, hol', rfl, nl, rfl⟩
        unfold Builtin.«set.__init__» noKeywords Builtin.Frozenset.updateFrom
        generalize hPI : pyIter = PI
        wp_walk
        subst hPI
        refine wpAny_pyIter_list hl1 (wpAny_bind (wpAny_runValue ?_))
        have lS : l < s.heap.objs.size := Heap.lt_size hol
        have hh3 : A.in1.in1.in1.handled = none := by simp [hh]
        have lI : l ≠ (s.heap.push (nilSet w)).objs.size := by
          rw [Heap.size_push]
          exact Nat.ne_of_lt (Nat.lt_succ_of_lt lS)
        have nf : s.heap.objs.size ∉ [(s.heap.push (nilSet w)).objs.size, l] := by
          rw [Heap.size_push]
          simp only [List.mem_cons, List.mem_singleton, List.not_mem_nil, or_false, not_or]
          exact ⟨Nat.ne_of_lt (Nat.lt_succ_self _), Nat.ne_of_gt lS⟩
        refine updM ((Walks.list hh3 _ l lI xs).toS) s.heap.objs.size nf ks len hb hk (xs.size - 0) 0 _ (by omega) (Nat.zero_le _)
          ⟨⟨_, Heap.get?_push_size _ rfl, rfl, rfl⟩, hl1.push _⟩ (freshM (Heap.get?_push_of_some _ hS)) fun s' mv M => ?_
        obtain ⟨h', g2, d', tk', os'⟩ := s'
        have eg : g2 = s.gens := mv.gens
        have ed : d' = s.drawn := mv.drawn
        have eo : os' = s.os := mv.os
        subst eg; subst ed; subst eo
        refine wpAny_pure ?_
        show wpAny _ _ (ret Value.none) _ _ _
        rw [len] at M
        refine wpAny_pure ⟨rfl, h', tk', rfl, M, fun b o e => ?_⟩
        have b0 : b < s.heap.objs.size := Heap.lt_size e
        refine mv.heap b o ?_ (Heap.get?_push_of_some _ (Heap.get?_push_of_some _ e))
        simp only [List.mem_cons, List.mem_singleton, List.not_mem_nil, or_false, not_or]
        refine ⟨Nat.ne_of_lt b0, ?_⟩
        rw [Heap.size_push]
        exact Nat.ne_of_lt (Nat.lt_succ_of_lt b0)
      · cases r₂ with
        | error e => exact hr₂
        | ok fl₂ =>
          cases fl₂ with
          | ret r =>
            obtain ⟨rfl, h', tk, rfl, M, hk'⟩ := hr₂
            repeat (any_goals (first | assumption | wp_step))
            exact h _ _ M hk'
          | _ => exact hr₂.elim
    | _ => exact hr.elim
end
end DZ

namespace DZ
open PySem PySem.Spec PyProof.Rows L2 SrtO
section
variable {P : Program} {w : World} {A : Around} {E : Value → Shared → Prop} {s : Shared}
theorem call_set_tuple {l : Addr} {xs : Array Value} (ks : List Key) {Q : Value → Shared → Prop} (hh : A.handled = none) (hl : s.heap.IsTuple l xs) (len : xs.size = ks.length) (hk : ∀ (i : Nat) (v : Value), xs[i]? = some v → ∃ k, ks[i]? = some k ∧ keyIs k v = true) (hb : ks.length + 1 < scanBound)
    (h : ∀ (h' : Heap) (tk : Nat), SetM w h' s.heap.objs.size ks ks.length → (∀ b o, s.heap.get? b = some o → h'.get? b = some o) → Q (.ref s.heap.objs.size) { s with heap := h', toks := tk }) :
    wpAny (model P w) A (call (.type "set") [.ref l]) Q E s := by
  obtain ⟨c, tl, hmro⟩ := F.called_set.mro
  have hmade := F.called_set.made
  have hsub := F.called_set.sub
  refine wpAny_call (codeAny_of_tree ?_)
  show wpAny _ _ (callAny (.type "set") _) _ _ _
  refine wpAny_pure ⟨Code.quiet_builtin _ (by decide +kernel), codeAny_builtin F.entry_type_call ?_⟩
  rw [Around.under_plain (weight_type_call_type "set" [.ref l] []) rfl]
  have h1 := F.called_set.notType
  have h2 := F.called_set.canCreate
  have hct := F.typeCall_set_1 (.ref l)
  repeat (any_goals (first | assumption | wp_step))
  refine codeAny_mono (code_set_led1 (.ref l) (E := E) (Q₁ := fun x s₁ => x = .ref s.heap.objs.size ∧ s₁ = { s with heap := s.heap.push (nilSet w) }) ⟨rfl, rfl⟩) fun r s₁ hr => ?_
  cases r with
  | error e => exact hr
  | ok fl =>
    cases fl with
    | ret x =>
      obtain ⟨rfl, rfl⟩ := hr
      have hS : (s.heap.push (nilSet w)).get? s.heap.objs.size = some (nilSet w) := Heap.get?_push_size _ rfl
      have hT : Shared.TypeIs { s with heap := s.heap.push (nilSet w) } (.ref s.heap.objs.size) "set" := ⟨_, hS, rfl⟩
      have hli := F.called_set.init.lookup
      have hbi := F.called_set.init.bind (.ref s.heap.objs.size)
      repeat (any_goals (first | assumption | wp_step))
      refine codeAny_mono (codeAny_call_builtin (R := wants (fun r s₂ => r = .none ∧ ∃ h' tk, s₂ = { s with heap := h', toks := tk } ∧ SetM w h' s.heap.objs.size ks ks.length ∧
          (∀ b o, s.heap.get? b = some o → h'.get? b = some o)) E) F.called_set.init.plain F.entry_set_init (check_set_init_1 hT ?_)) fun r₂ s₂ hr₂ => ?_
      · obtain ⟨ol, hol, hcl, nl, hdl⟩ := hl
        obtain ⟨ocls, odict, odata, oslots⟩ := ol
        simp only at hcl hdl
        subst hcl; subst hdl
        have hol' : (s.heap.push (nilSet w)).get? l = some { cls := .type "tuple", dict := odict, data := .seq xs nl, slots := oslots } := Heap.get?_push_of_some _ hol
        have hsls := F.sub_tuple_set
        have hslf := F.sub_tuple_frozenset
        have hne : (Value.type "tuple" == Value.type "dict") = false := by decide
        have hl1 : (s.heap.push (nilSet w)).IsTuple l xs := ⟨_, hol', rfl, nl, rfl⟩
        unfold Builtin.«set.__init__» noKeywords Builtin.Frozenset.updateFrom
        generalize hPI : pyIter = PI
        wp_walk
        subst hPI
        refine wpAny_pyIter_tuple hl1 (wpAny_bind (wpAny_runValue ?_))
        have lS : l < s.heap.objs.size := Heap.lt_size hol
        have hh3 : A.in1.in1.in1.handled = none := by simp [hh]
        have lI : l ≠ (s.heap.push (nilSet w)).objs.size := by
          rw [Heap.size_push]
          exact Nat.ne_of_lt (Nat.lt_succ_of_lt lS)
        have nf : s.heap.objs.size ∉ [(s.heap.push (nilSet w)).objs.size, l] := by
          rw [Heap.size_push]
          simp only [List.mem_cons, List.mem_singleton, List.not_mem_nil, or_false, not_or]
          exact ⟨Nat.ne_of_lt (Nat.lt_succ_self _), Nat.ne_of_gt lS⟩
        refine updM ((Walks.tuple hh3 _ l lI xs).toS) s.heap.objs.size nf ks len hb hk (xs.size - 0) 0 _ (by omega) (Nat.zero_le _)
          ⟨⟨_, Heap.get?_push_size _ rfl, rfl, rfl⟩, hl1.push _⟩ (freshM (Heap.get?_push_of_some _ hS)) fun s' mv M => ?_
        obtain ⟨h', g2, d', tk', os'⟩ := s'
        have eg : g2 = s.gens := mv.gens
        have ed : d' = s.drawn := mv.drawn
        have eo : os' = s.os := mv.os
        subst eg; subst ed; subst eo
        refine wpAny_pure ?_
        show wpAny _ _ (ret Value.none) _ _ _
        rw [len] at M
        refine wpAny_pure ⟨rfl, h', tk', rfl, M, fun b o e => ?_⟩
        have b0 : b < s.heap.objs.size := Heap.lt_size e
        refine mv.heap b o ?_ (Heap.get?_push_of_some _ (Heap.get?_push_of_some _ e))
        simp only [List.mem_cons, List.mem_singleton, List.not_mem_nil, or_false, not_or]
        refine ⟨Nat.ne_of_lt b0, ?_⟩
        rw [Heap.size_push]
        exact Nat.ne_of_lt (Nat.lt_succ_of_lt b0)
      · cases r₂ with
        | error e => exact hr₂
        | ok fl₂ =>
          cases fl₂ with
          | ret r =>
            obtain ⟨rfl, h', tk, rfl, M, hk'⟩ := hr₂
            repeat (any_goals (first | assumption | wp_step))
            exact h _ _ M hk'
          | _ => exact hr₂.elim
    | _ => exact hr.elim
end
end DZ

/-! sets of nested keys (tuples of ints, texts and such tuples): how a member is sought and put in -/
namespace DZ
open PySem PySem.Spec PyProof.Rows L2 SrtO
section asks
variable {P : Program} {w : World} {A : Around} {E : Value → Shared → Prop}
/-- the model's two questions about a value that is stored -/
def NoStmt (P : Program) (w : World) (A : Around) (E : Value → Shared → Prop) (n : Nat) (s : Shared) (v : Value) : Prop := ∀ Q : Bool → Shared → Prop, Q false s → wpAny (model P w) A (ofAClassStatement n v) Q E s
def SomeWay (P : Program) (w : World) (A : Around) (E : Value → Shared → Prop) (n : Nat) (s : Shared) (v : Value) : Prop := ∀ Q : Bool → Shared → Prop, (∀ b, Q b s) → wpAny (model P w) A (hashByValue n v) Q E s
theorem noStmt_tup {n : Nat} {s : Shared} {a : Addr} {o : Obj} {vs : Array Value} {m : Nat} (ho : s.heap.get? a = some o) (hc : o.cls = .type "tuple") (hd : o.data = .seq vs m) (all : ∀ v ∈ vs.toList, NoStmt P w A E n s v) :
    NoStmt P w A E (n + 1) s (.ref a) := fun Q q => by
  unfold ofAClassStatement
  refine wpAny_bind (wpAny_typeOf (T := "tuple") ⟨o, ho, hc⟩ ?_)
  dsimp only
  simp only [show (("tuple" : String) == "tuple") = true by decide, if_true, Bool.not_true, Bool.false_eq_true, if_false]
  try refine wpAny_bind (wpAny_pure ?_)
  try simp only [Bool.not_true, Bool.false_eq_true, if_false]
  refine wpAny_bind (wpAny_seqItems ho hd ?_)
  refine wpAny_bind ?_
  show wpAny _ _ (forIn vs _ _) _ _ s
  rw [← Array.forIn_toList]
  refine wpAny_forIn_list _ (fun left r t => t = s ∧ r.1 = none ∧ ∀ v ∈ left, NoStmt P w A E n s v) _ ?_ ?_ _ _ ⟨rfl, rfl, all⟩
  · rintro v left r t ⟨rfl, hr, h⟩
    refine wpAny_bind (h v List.mem_cons_self _ ?_)
    simp only [Bool.false_eq_true, if_false]
    exact wpAny_pure ⟨rfl, rfl, fun x m => h x (List.mem_cons_of_mem _ m)⟩
  · rintro ⟨r1, r2⟩ t ⟨rfl, hr, _⟩
    cases hr
    exact wpAny_pure q
theorem someWay_tup {n : Nat} {s : Shared} {a : Addr} {o : Obj} {vs : Array Value} {m : Nat} (ho : s.heap.get? a = some o) (hc : o.cls = .type "tuple") (hd : o.data = .seq vs m) (all : ∀ v ∈ vs.toList, SomeWay P w A E n s v) :
    SomeWay P w A E (n + 1) s (.ref a) := fun Q q => by
  unfold hashByValue
  refine wpAny_bind (wpAny_specialOf (T := "tuple") ⟨o, ho, hc⟩ F.slot_tuple_hash.lookup ?_)
  refine wpAny_bind (wpAny_seqItems ho hd ?_)
  refine wpAny_bind ?_
  show wpAny _ _ (forIn vs _ _) _ _ s
  rw [← Array.forIn_toList]
  refine wpAny_forIn_list _ (fun left r t => t = s ∧ r.1 = none ∧ ∀ v ∈ left, SomeWay P w A E n s v) _ ?_ ?_ _ _ ⟨rfl, rfl, all⟩
  · rintro v left r t ⟨rfl, hr, h⟩
    refine wpAny_bind (h v List.mem_cons_self _ fun b => ?_)
    cases b
    · simp only [Bool.not_false, if_true]
      exact wpAny_pure (wpAny_pure (q _))
    · simp only [Bool.not_true, Bool.false_eq_true, if_false]
      exact wpAny_pure ⟨rfl, rfl, fun x m => h x (List.mem_cons_of_mem _ m)⟩
  · rintro ⟨r1, r2⟩ t ⟨rfl, hr, _⟩
    cases hr
    exact wpAny_pure (q _)
mutual
theorem noStmt_key : ∀ (k : NestedKey) (v : Value) (n : Nat) (s : Shared), NestedIs s.heap k v → k.depth ≤ n → NoStmt P w A E n s v
  | .none, _, n, s, x, _ => by
    cases x
    intro Q q
    cases n <;> exact wpAny_pure q
  | .num i, _, n, s, x, _ => by
    intro Q q
    cases x <;> cases n <;> exact wpAny_pure q
  | .text y, _, n, s, x, _ => by
    cases x
    intro Q q
    cases n <;> exact wpAny_pure q
  | .tup ks, _, n, s, x, d => by
    cases x with
    | tup h1 h2 h3 h4 =>
      simp only [NestedKey.depth] at d
      cases n with
      | zero => omega
      | succ n => exact noStmt_tup h1 h2 h3 (noStmt_keys ks _ n s h4 (by omega))
theorem noStmt_keys : ∀ (ks : List NestedKey) (vs : List Value) (n : Nat) (s : Shared), NestedAll s.heap ks vs → NestedKey.depthAll ks ≤ n → ∀ v ∈ vs, NoStmt P w A E n s v
  | [], _, _, _, x, _, v, m => by
    cases x
    cases m
  | k :: ks, _, n, s, x, d, v, m => by
    cases x with
    | cons r rs =>
      simp only [NestedKey.depthAll] at d
      rcases List.mem_cons.mp m with m | m
      · exact m ▸ noStmt_key k _ n s r (by omega)
      · exact noStmt_keys ks _ n s rs (by omega) v m
end
mutual
theorem someWay_key : ∀ (k : NestedKey) (v : Value) (n : Nat) (s : Shared), NestedIs s.heap k v → k.depth ≤ n → SomeWay P w A E n s v
  | .none, _, n, s, x, _ => by
    cases x
    intro Q q
    cases n <;> exact wpAny_pure (q _)
  | .num i, _, n, s, x, _ => by
    intro Q q
    cases x <;> cases n <;> exact wpAny_pure (q _)
  | .text y, _, n, s, x, _ => by
    cases x
    intro Q q
    cases n <;> exact wpAny_pure (q _)
  | .tup ks, _, n, s, x, d => by
    cases x with
    | tup h1 h2 h3 h4 =>
      simp only [NestedKey.depth] at d
      cases n with
      | zero => omega
      | succ n => exact someWay_tup h1 h2 h3 (someWay_keys ks _ n s h4 (by omega))
theorem someWay_keys : ∀ (ks : List NestedKey) (vs : List Value) (n : Nat) (s : Shared), NestedAll s.heap ks vs → NestedKey.depthAll ks ≤ n → ∀ v ∈ vs, SomeWay P w A E n s v
  | [], _, _, _, x, _, v, m => by
    cases x
    cases m
  | k :: ks, _, n, s, x, d, v, m => by
    cases x with
    | cons r rs =>
      simp only [NestedKey.depthAll] at d
      rcases List.mem_cons.mp m with m | m
      · exact m ▸ someWay_key k _ n s r (by omega)
      · exact someWay_keys ks _ n s rs (by omega) v m
end
/-- the tuple at b is the key k -/
def IsN (h : Heap) (k : NestedKey) (b : Addr) : Prop := NestedIs h k (.ref b) ∧ k.depth ≤ 8
theorem no_show {s : Shared} {k : NestedKey} {b : Addr} (hk : IsN s.heap k b) : ∀ {ys : List Value}, (∀ y ∈ ys, ∃ c j, y = Value.ref c ∧ IsN s.heap j c) → ∀ {Q : Bool → Shared → Prop}, Q false s → wpAny (model P w) A (searchCouldBeSeen (.ref b) ys) Q E s := by
  intro ys hy Q q
  unfold searchCouldBeSeen
  refine wpAny_bind ?_
  refine wpAny_forIn_list _ (fun left r t => t = s ∧ r.1 = none ∧ ∀ y ∈ left, ∃ c j, y = Value.ref c ∧ IsN s.heap j c) _ ?_ ?_ _ _ ⟨rfl, rfl, hy⟩
  · rintro v left r t ⟨rfl, hr, h⟩
    have h' : ∀ y ∈ left, ∃ c j, y = Value.ref c ∧ IsN t.heap j c := fun x m => h x (List.mem_cons_of_mem _ m)
    obtain ⟨c, j, rfl, hj⟩ := h v List.mem_cons_self
    dsimp only
    by_cases e : (b == c || (carriedByValue (.ref b) && carriedByValue (.ref c))) = true
    · exact wp_if_pos e (wpAny_pure ⟨rfl, rfl, h'⟩)
    · refine wp_if_neg e (wpAny_bind (quiet_key k _ 8 t hk.1 hk.2 A E _ ?_))
      simp only [Bool.not_true, Bool.false_eq_true, if_false]
      refine wpAny_bind (quiet_key j _ 8 t hj.1 hj.2 A E _ ?_)
      simp only [Bool.not_true, Bool.false_eq_true, if_false]
      refine wpAny_bind (noStmt_key k _ 8 t hk.1 hk.2 _ ?_)
      simp only [Bool.false_eq_true, if_false]
      refine wpAny_bind (noStmt_key j _ 8 t hj.1 hj.2 _ ?_)
      simp only [Bool.false_eq_true, if_false]
      exact wpAny_pure ⟨rfl, rfl, h'⟩
  · rintro ⟨r1, r2⟩ t ⟨rfl, hr, _⟩
    cases hr
    exact wpAny_pure q
end asks
/-! the table's way for one hash -/
abbrev spot (m : Nat) (h : Int) (c : Nat) : SetTable.Probe := nth m (runAt m (SetTable.bits h % (m + 1)) (SetTable.bits h)) c
theorem spot_calm (m : Nat) (h : Int) : ∀ c, (spot m h c).dummy = none := fun c => by
  have z : ∀ (c : Nat) (p : SetTable.Probe), p.dummy = none → (nth m p c).dummy = none := fun c => by
    induction c with
    | zero => exact fun p e => e
    | succ c ih =>
      refine fun p e => ih (adv m p) ?_
      unfold adv
      split <;> exact e
  exact z c _ rfl
theorem spot_on (m : Nat) (h : Int) (c q : Nat) : nth m (spot m h c) q = spot m h (c + q) := (nth_add m c _ q).symm
/-- what is told from the c-th spot on, K being the first empty one -/
theorem told_from {t : SetTable} {hs : List Int} (T : TabOk t hs) (hf : Nat → Int) {h : Int} {K : Nat} (lim : K < 10 * SetTable.turns t.mask) (e : way t.mask h K ∉ t.place.toList) (b : ∀ d, d < K → way t.mask h d ∈ t.place.toList) {c : Nat} (hc : c ≤ K) :
    (∃ d i, c ≤ d ∧ d < K ∧ t.place.toList[i]? = some (way t.mask h d) ∧ (∀ d' i', c ≤ d' → d' < d → t.place.toList[i']? = some (way t.mask h d') → hf i' ≠ h) ∧ t.probe hf h (spot t.mask h c) = some (.candidate (way t.mask h d) i (spot t.mask h (d + 1)))) ∨
    ((∀ d' i', c ≤ d' → d' < K → t.place.toList[i']? = some (way t.mask h d') → hf i' ≠ h) ∧ t.probe hf h (spot t.mask h c) = some (.empty (way t.mask h K) none)) := by
  have j : ∀ q, (nth t.mask (spot t.mask h c) q).j = way t.mask h (c + q) := fun q => congrArg SetTable.Probe.j (spot_on t.mask h c q)
  have tot : c + (K - c) = K := by omega
  rcases go_spec t T.ris T.dm hf h (10 * SetTable.turns t.mask) (K - c) (spot t.mask h c) (spot_calm _ _ _) (by omega) (fun q l => by rw [j]; exact b _ (by omega)) (by rw [j, tot]; exact e) with ⟨q, i, l, a, _, n, g⟩ | ⟨n, g⟩
  · refine .inl ⟨c + q, i, by omega, by omega, by rw [← j]; exact a, fun d' i' l1 l2 m => n (d' - c) i' (by omega) (by rw [j, show c + (d' - c) = d' by omega]; exact m), ?_⟩
    rw [← j q, show c + q + 1 = c + (q + 1) by omega, ← spot_on]
    exact g
  · refine .inr ⟨fun d' i' l1 l2 m => n (d' - c) i' (by omega) (by rw [j, show c + (d' - c) = d' by omega]; exact m), ?_⟩
    have z : way t.mask h K = (nth t.mask (spot t.mask h c) (K - c)).j := by rw [j, tot]
    rw [z]
    exact g
/-! the set -/
def entN (w : World) (p : Addr × NestedKey) : Int × Value := (p.2.hash w, .ref p.1)
abbrev hsN (w : World) (L : List (Addr × NestedKey)) : List Int := L.map fun p => p.2.hash w
/-- the set at a, its members in the order of the table -/
structure SetN (w : World) (h : Heap) (a : Addr) (L : List (Addr × NestedKey)) (o : Obj) (es : Array (Int × Value)) (ep : Nat) (t : SetTable) : Prop where
  ob : h.get? a = some o
  ex : o.ExactSet
  dt : o.data = .set es ep t
  en : es.toList = L.map (entN w)
  tb : TabOk t (hsN w L)
  nd : (L.map (·.2)).Nodup
  ld : w.params.followText "set-order" = true ∨ t.led = true
  rm : L.length * 5 < t.mask * 3
  fw : L.length < 64
section
variable {P : Program} {w : World} {A : Around} {E : Value → Shared → Prop} {s : Shared} {a : Addr} {L : List (Addr × NestedKey)} {o : Obj} {es : Array (Int × Value)} {ep : Nat} {t : SetTable}
theorem len_en {w : World} {es : Array (Int × Value)} (e : es.toList = L.map (entN w)) : es.size = L.length := by
  rw [← Array.length_toList, e, List.length_map]
theorem at_en {w : World} {es : Array (Int × Value)} (e : es.toList = L.map (entN w)) (i : Nat) : es[i]? = L[i]?.map (entN w) := by
  rw [← Array.getElem?_toList, e, List.getElem?_map]
theorem fits_en {t : SetTable} (T : TabOk t (hsN w L)) {n : Nat} (hn : n = L.length) (hm : n ≤ t.mask) : t.fits n = true := by
  have z := T.sz
  rw [List.length_map] at z
  unfold SetTable.fits SetTable.fill
  rw [T.dm, Bool.and_eq_true, beq_iff_eq, decide_eq_true_eq]
  show t.place.size = n ∧ t.place.size + 0 ≤ t.mask
  omega
theorem SetN.fits (R : SetN w s.heap a L o es ep t) : t.fits es.size = true := by
  have z := R.rm
  exact fits_en R.tb (len_en R.en) (by rw [len_en R.en]; omega)
/-- a search, from the c-th spot on -/
theorem seekN (R : SetN w s.heap a L o es ep t) (mem : ∀ p ∈ L, IsN s.heap p.2 p.1) {x : Addr} {k : NestedKey} (hx : IsN s.heap k x) (hu : A.units + 8 < cLine) {K : Nat} (lim : K < 10 * SetTable.turns t.mask)
    (free : way t.mask (k.hash w) K ∉ t.place.toList) (full : ∀ d, d < K → way t.mask (k.hash w) d ∈ t.place.toList) {Q : SetFound → Shared → Prop} (yes : k ∈ L.map (·.2) → Q (.there none) s) (no : k ∉ L.map (·.2) → Q (.free (way t.mask (k.hash w) K) false) s) :
    ∀ (fu c : Nat) (st : Option SetTable.Probe), st.getD (t.probeStart (k.hash w)) = spot t.mask (k.hash w) c → c ≤ K → K < fu + c → (∀ (i : Nat) p, L[i]? = some p → p.2 = k → ∃ d, c ≤ d ∧ d < K ∧ t.place.toList[i]? = some (way t.mask (k.hash w) d)) →
      wpAny (model P w) A (setSearchFrom a (.ref x) (k.hash w) true fu st) Q E s := by
  intro fu
  induction fu with
  | zero => exact fun c st _ h1 h2 => absurd h2 (by omega)
  | succ fu ih =>
    intro c st hst hc hf stand
    rw [setSearchFrom_succ]
    refine wpAny_bind (wpAny_setState_of R.ob R.dt R.fits ?_)
    dsimp only
    have odd : ¬ t.gaveWay = true := by
      unfold SetTable.gaveWay
      rw [mask_odd R.tb.mok]
      decide
    refine wp_if_neg odd ?_
    try refine wpAny_bind (wpAny_pure ?_)
    have hash : ∀ (i : Nat) p, L[i]? = some p → (fun i => (es[i]?.map (·.1)).getD 0) i = p.2.hash w := fun i p e => by
      show (es[i]?.map (·.1)).getD 0 = _
      rw [at_en R.en, e] <;> rfl
    rw [hst]
    rcases told_from R.tb (fun i => (es[i]?.map (·.1)).getD 0) lim free full hc with ⟨d, i, l1, l2, hi, n, g⟩ | ⟨n, g⟩
    · rw [g]
      dsimp only
      have li : i < L.length := by
        have z := (List.getElem?_eq_some_iff.mp hi).1
        have y := R.tb.sz
        rw [List.length_map] at y
        rw [Array.length_toList] at z
        omega
      obtain ⟨p, hp⟩ : ∃ p, L[i]? = some p := ⟨_, List.getElem?_eq_getElem li⟩
      have mp : p ∈ L := List.mem_of_getElem? hp
      have ei : es[i]? = some (entN w p) := by rw [at_en R.en, hp] <;> rfl
      have live := slot_live R.tb.ris hi
      have go : wpAny (model P w) A (searchRest a (.ref x) (k.hash w) true fu es t (way t.mask (k.hash w) d) i (spot t.mask (k.hash w) (d + 1))) Q E s := by
        unfold searchRest
        rw [ei]
        dsimp only [entN]
        refine wpAny_bind (wpAny_holding ((nestedKind P w).eqBool hu (mem p mp) hx ?_))
        refine wpAny_bind (wpAny_setState_of R.ob R.dt R.fits ?_)
        dsimp only
        by_cases same : p.2 = k
        · exact wp_if_pos (by simp [same]) (wpAny_pure (yes (List.mem_map.mpr ⟨p, mp, same⟩)))
        · refine wp_if_neg (by simp [same]) ?_
          try refine wpAny_bind (wpAny_pure ?_)
          rw [sameMem]
          dsimp only
          simp only [if_true, live, ei, entN]
          refine wpAny_bind (wpAny_isSame_ref_self (wpAny_bind (wpAny_pure ?_)))
          simp only [if_true]
          refine wp_if_neg (by simp [same]) (ih (d + 1) _ rfl (by omega) (by omega) fun i0 p0 h0 k0 => ?_)
          obtain ⟨d0, m1, m2, m3⟩ := stand i0 p0 h0 k0
          refine ⟨d0, ?_, m2, m3⟩
          by_cases lt : d0 < d
          · exact absurd ((hash i0 p0 h0).trans (by rw [k0])) (n d0 i0 m1 lt m3)
          · by_cases eq : d0 = d
            · rw [eq] at m3
              have z := slot_live R.tb.ris m3
              rw [live] at z
              injection z with z
              rw [← z, hp] at h0
              cases h0
              exact absurd k0 same
            · omega
      by_cases led : t.led = true
      · refine wp_if_neg (by simp [led]) ?_
        try refine wpAny_bind (wpAny_pure ?_)
        exact go
      · refine wp_if_pos (by simp [led]) ?_
        refine wpAny_bind (no_show hx (fun y my => ?_) ?_)
        · obtain ⟨e, me, rfl⟩ := List.mem_map.mp my
          have me' : e ∈ es ∧ e.1 = k.hash w := by simpa using me
          have mq : e ∈ es.toList := by simpa using me'.1
          rw [R.en] at mq
          obtain ⟨q, lq, rfl⟩ := List.mem_map.mp mq
          exact ⟨q.1, q.2, rfl, mem q lq⟩
        · refine wp_if_neg (by decide) ?_
          try refine wpAny_bind (wpAny_pure ?_)
          exact go
    · rw [g]
      dsimp only
      refine wpAny_pure (no fun m => ?_)
      obtain ⟨p, mp, e⟩ := List.mem_map.mp m
      obtain ⟨i, hi⟩ := List.getElem?_of_mem mp
      obtain ⟨d, m1, m2, m3⟩ := stand i p hi e
      exact n d i m1 m2 m3 ((hash i p hi).trans (by rw [e]))
theorem searchN (R : SetN w s.heap a L o es ep t) (mem : ∀ p ∈ L, IsN s.heap p.2 p.1) {x : Addr} {k : NestedKey} (hx : IsN s.heap k x) (hu : A.units + 8 < cLine) {Q : SetFound → Shared → Prop} (yes : k ∈ L.map (·.2) → Q (.there none) s)
    (no : ∀ K, k ∉ L.map (·.2) → way t.mask (k.hash w) K ∉ t.place.toList → (∀ d, d < K → way t.mask (k.hash w) d ∈ t.place.toList) → Q (.free (way t.mask (k.hash w) K) false) s) : wpAny (model P w) A (setSearch a (.ref x) (k.hash w) true) Q E s := by
  have rm := R.rm
  obtain ⟨K, lim, free, full⟩ := R.tb.first (by rw [List.length_map]; omega) (k.hash w)
  have lt : K < 100000 := by
    unfold SetTable.turns at lim
    rcases R.tb.mok with e | e | e <;> rw [e] at lim <;> omega
  unfold setSearch
  refine seekN R mem hx hu lim free full yes (fun z => no K z free full) 100000 0 none rfl (Nat.zero_le _) (by omega) fun i p hp e => ?_
  have li : i < t.place.toList.length := by
    have z := (List.getElem?_eq_some_iff.mp hp).1
    have y := R.tb.sz
    rw [List.length_map] at y
    rw [Array.length_toList]
    omega
  have hj := List.getElem?_eq_getElem li
  obtain ⟨d, l, e2⟩ := R.tb.before free (show (hsN w L)[i]? = some (k.hash w) by rw [List.getElem?_map, hp, ← e] <;> rfl) hj
  exact ⟨d, Nat.zero_le _, l, by rw [hj, e2]⟩
end
end DZ

/-! sets of nested keys: laid anew, added to, made of a list -/
namespace DZ
open PySem PySem.Spec PyProof.Rows L2 SrtO
theorem pick_all {α : Type} : ∀ L : List α, (List.range L.length).filterMap (fun i => L[i]?) = L
  | [] => rfl
  | x :: L => by
    rw [List.length_cons, List.range_succ_eq_map, List.filterMap_cons_some (f := fun i => (x :: L)[i]?) (a := 0) (b := x) rfl, List.filterMap_map]
    exact congrArg _ (pick_all L)
theorem pick_some {α β : Type} {L : List α} {f : α → β} {g : Nat → β} : ∀ {l : List Nat}, (∀ i ∈ l, ∃ x, L[i]? = some x ∧ g i = f x) → (l.filterMap fun i => L[i]?).map f = l.map g
  | [], _ => rfl
  | i :: l, h => by
    obtain ⟨x, e, q⟩ := h i List.mem_cons_self
    rw [List.filterMap_cons_some e, List.map_cons, List.map_cons, q, pick_some fun j m => h j (List.mem_cons_of_mem _ m)]
section
variable {P : Program} {w : World} {A : Around} {E : Value → Shared → Prop} {s : Shared} {a : Addr} {L : List (Addr × NestedKey)} {o : Obj} {es : Array (Int × Value)} {ep : Nat} {t : SetTable}
/-- the rows in another order -/
theorem shuffled {es : Array (Int × Value)} {order : Array Nat} (e : es.toList = L.map (entN w)) (pm : order.toList.Perm (List.range L.length)) :
    ∃ M, M.Perm L ∧ (order.filterMap (es[·]?)).toList = M.map (entN w) ∧ hsN w M = order.toList.map fun i => (es.map (·.1)).getD i 0 := by
  have inn : ∀ i ∈ order.toList, ∃ x, L[i]? = some x := fun i m => ⟨_, List.getElem?_eq_getElem (List.mem_range.mp (pm.mem_iff.mp m))⟩
  refine ⟨order.toList.filterMap fun i => L[i]?, ?_, ?_, pick_some fun i m => ?_⟩
  · have z := pm.filterMap fun i => L[i]?
    rw [pick_all] at z
    exact z
  · have z : (order.filterMap (es[·]?)).toList = order.toList.filterMap (fun i => es[i]?) := by first | exact Array.toList_filterMap .. | simp
    rw [z, List.map_filterMap]
    exact congrArg (fun f => order.toList.filterMap f) (funext fun i => at_en e i)
  · obtain ⟨x, hx⟩ := inn i m
    refine ⟨x, hx, ?_⟩
    have z : (es.map (·.1))[i]? = some (x.2.hash w) := by rw [Array.getElem?_map, at_en e, hx] <;> rfl
    simp [Array.getD_eq_getD_getElem?, z]
theorem isN_keep {h h' : Heap} {k : NestedKey} {b : Addr} (kp : ∀ c u, h.get? c = some u → h'.get? c = some u) (x : IsN h k b) : IsN h' k b := ⟨NestedIs.at (fun c u _ _ e _ => kp c u e) k _ x.1, x.2⟩
/-- laid anew -/
theorem relayN (ho : s.heap.get? a = some o) (hex : o.ExactSet) (hd : o.data = .set es ep t) (en : es.toList = L.map (entN w)) (T : TabOk t (hsN w L)) (nd : (L.map (·.2)).Nodup) (ld : w.params.followText "set-order" = true ∨ t.led = true) (fw : L.length < 64)
    (hl : L.length ≤ t.mask) {wanted M : Nat} (big : SetTable.sizeAbove wanted - 1 = M) (mok : MaskOk M) (small : SetTable.sizeAbove wanted ≤ 128) (rm : L.length * 5 < M * 3) {Q : Unit → Shared → Prop}
    (q : ∀ h' L' o' es' ep' t', Heap.SameBut a s.heap h' → SetN w h' a L' o' es' ep' t' → L'.Perm L → Q () { s with heap := h' }) : wpAny (model P w) A (setRelay a wanted) Q E s := by
  have sz := len_en en
  obtain ⟨u, order, eq, pm, T', um, ul, _, _⟩ := relaid_ok t (hs := es.map (·.1)) (wanted := wanted) big mok (by rw [Array.size_map, sz]; omega)
  rw [Array.size_map, sz] at pm
  obtain ⟨L', pl, en', hh⟩ := shuffled en pm
  rw [← hh] at T'
  have sz' : (order.filterMap (es[·]?)).size = es.size := by rw [len_en en', pl.length_eq, sz]
  rw [setRelay_eq]
  refine wpAny_bind (wpAny_setState_of ho hd (fits_en T sz (by rw [sz]; exact hl)) ?_)
  dsimp only
  refine wp_if_neg (by rw [sizeLine_eq]; omega) ?_
  try refine wpAny_bind (wpAny_pure ?_)
  rw [eq]
  dsimp only
  refine wpAny_bind (wp_if_neg (by rw [sz']; simp) ?_)
  try refine wpAny_bind (wpAny_pure ?_)
  refine wpAny_pure (wpAny_storeSet_of ho hd ?_ (by rw [sz', sz, sizeLine_eq]; omega))
  refine q _ L' _ _ _ u (Heap.SameBut.update ..) ⟨store_at ho hd, ⟨hex.1, hex.2.1, hex.2.2⟩, rfl, en', T', ?_, by rw [ul]; exact ld, by rw [pl.length_eq, um]; exact rm, by rw [pl.length_eq]; exact fw⟩ pl
  exact (pl.map (·.2)).nodup_iff.mpr nd
theorem ins_perm {α : Type} (l : List α) (p : Nat) (x : α) : (l.take p ++ x :: l.drop p).Perm (x :: l) := by
  refine List.perm_middle.trans ?_
  rw [List.take_append_drop]
/-- put in, what was not there -/
theorem putN (R : SetN w s.heap a L o es ep t) {x : Addr} {k : NestedKey} (nk : k ∉ L.map (·.2)) (few : L.length + 1 < 64) {K : Nat} (free : way t.mask (k.hash w) K ∉ t.place.toList) (full : ∀ d, d < K → way t.mask (k.hash w) d ∈ t.place.toList) {u : SetTable} {n : Nat}
    (hu : t.put (way t.mask (k.hash w) K) = (u, n)) (pl : Bool) {Q : Bool → Shared → Prop} (q : ∀ h' L' o' es' ep' t', Heap.SameBut a s.heap h' → SetN w h' a L' o' es' ep' t' → L'.Perm ((x, k) :: L) → Q true { s with heap := h' }) :
    wpAny (model P w) A (do
      storeSet a (SetTable.insertAt es n (k.hash w, Value.ref x)) { u with plain := pl }
      if ({ u with plain := pl } : SetTable).tooFull = true then setRelay a (SetTable.grown (es.size + 1))
      pure true) Q E s := by
  have sz := len_en R.en
  have rm := R.rm
  obtain ⟨e1, le, T, em, el, _, _, _, ef⟩ := R.tb.put free full
  rw [hu] at e1 T em el ef
  dsimp only at e1 T em el ef
  rw [← e1] at T le
  have en : (SetTable.insertAt es n (k.hash w, Value.ref x)).toList = (L.take n ++ (x, k) :: L.drop n).map (entN w) := by
    rw [SetTable.toList_insertAt, R.en, List.map_append, List.map_cons, List.map_take, List.map_drop] <;> rfl
  have hs : hsN w (L.take n ++ (x, k) :: L.drop n) = (hsN w L).take n ++ k.hash w :: (hsN w L).drop n := by rw [hsN, List.map_append, List.map_cons, List.map_take, List.map_drop]
  rw [← hs] at T
  have pm := ins_perm L n (x, k)
  have nd : ((L.take n ++ (x, k) :: L.drop n).map (·.2)).Nodup := (pm.map (·.2)).nodup_iff.mpr (List.nodup_cons.mpr ⟨nk, R.nd⟩)
  have ln : (L.take n ++ (x, k) :: L.drop n).length = L.length + 1 := pm.length_eq
  have z1 := len_en en
  have ul : u.fill = L.length + 1 := by rw [ef, List.length_map]
  generalize SetTable.insertAt es n (k.hash w, Value.ref x) = es1 at en z1 ⊢
  generalize L.take n ++ (x, k) :: L.drop n = L1 at en T pm nd ln z1
  refine wpAny_bind (wpAny_storeSet_of R.ob R.dt ?_ (by rw [z1, ln, sizeLine_eq]; omega))
  have o1 := store_at (es' := es1) (t' := { u with plain := pl }) R.ob R.dt
  have sb : Heap.SameBut a s.heap (s.heap.update a (Obj.putSet es1 { u with plain := pl })) := Heap.SameBut.update ..
  generalize s.heap.update a (Obj.putSet es1 { u with plain := pl }) = h1 at o1 sb ⊢
  have T1 : TabOk { u with plain := pl } (hsN w L1) := ⟨T.ris, T.dm, T.sz, T.mok, T.bd, T.reach⟩
  have l1 : w.params.followText "set-order" = true ∨ ({ u with plain := pl } : SetTable).led = true := R.ld.imp id fun z => el.trans z
  have tf : ({ u with plain := pl } : SetTable).tooFull = decide ((L.length + 1) * 5 ≥ u.mask * 3) := by
    show decide (u.fill * 5 ≥ u.mask * 3) = _
    rw [ul]
  rw [tf]
  by_cases c : (L.length + 1) * 5 ≥ u.mask * 3
  · refine wp_if_pos (decide_eq_true c) (wpAny_bind ?_)
    rw [sz]
    have go : ∀ M, SetTable.sizeAbove (SetTable.grown (L.length + 1)) = M + 1 → MaskOk M → (L.length + 1) * 5 < M * 3 →
        wpAny (model P w) A (setRelay a (SetTable.grown (L.length + 1))) (fun _ s' => wpAny (model P w) A (pure true) Q E s') E { s with heap := h1 } := fun M b1 b2 b3 => by
      refine relayN (s := { s with heap := h1 }) o1 ⟨R.ex.1, R.ex.2.1, R.ex.2.2⟩ rfl en T1 nd l1 (by rw [ln]; exact few) ?_ (M := M) (by rw [b1]; rfl) b2 ?_ (by rw [ln]; exact b3) ?_
      · rw [ln]
        show L.length + 1 ≤ u.mask
        rw [em]
        rcases R.tb.mok with e | e | e <;> rw [e] at rm ⊢ <;> omega
      · rw [b1]
        rcases b2 with e | e | e <;> rw [e] <;> decide
      · exact fun h' L' o' es' ep' t' sb' R' p' => wpAny_pure (q h' L' o' es' ep' t' (sb.trans sb') R' (p'.trans pm))
    rw [em] at c
    rcases R.tb.mok with e | e | e
    · rw [e] at c rm
      have z : L.length = 4 := by omega
      exact go 31 (by rw [z]; exact size_20) (.inr (.inl rfl)) (by omega)
    · rw [e] at c rm
      have z : L.length = 18 := by omega
      exact go 127 (by rw [z]; exact size_76) (.inr (.inr rfl)) (by omega)
    · rw [e] at c
      omega
  · refine wp_if_neg (by rw [decide_eq_true_eq]; exact c) ?_
    exact wpAny_pure (q h1 L1 _ es1 _ _ sb ⟨o1, ⟨R.ex.1, R.ex.2.1, R.ex.2.2⟩, rfl, en, T1, nd, l1, by rw [ln]; show _ < u.mask * 3; omega, by rw [ln]; exact few⟩ pm)
/-- ADDED -/
theorem addN (R : SetN w s.heap a L o es ep t) (mem : ∀ p ∈ L, IsN s.heap p.2 p.1) {x : Addr} {k : NestedKey} (hx : IsN s.heap k x) (hu : A.units + 8 < cLine) (few : L.length + 1 < 64) {Q : Bool → Shared → Prop}
    (old : k ∈ L.map (·.2) → Q false s) (new : k ∉ L.map (·.2) → ∀ h' L' o' es' ep' t', Heap.SameBut a s.heap h' → SetN w h' a L' o' es' ep' t' → L'.Perm ((x, k) :: L) → Q true { s with heap := h' }) :
    wpAny (model P w) A (setAddHashed a (.ref x) (k.hash w)) Q E s := by
  unfold setAddHashed
  refine wpAny_holding ?_
  rw [show (100000 : Nat) = 99999 + 1 from rfl, setAddHashedIn_succ]
  refine wpAny_bind (wpAny_setState_of R.ob R.dt R.fits ?_)
  dsimp only
  refine wp_if_neg (by simp [byScan, Value.scannable]) ?_
  try refine wpAny_bind (wpAny_pure ?_)
  refine wpAny_bind (searchN R mem hx hu (fun m => wpAny_pure (old m)) fun K nk free full => ?_)
  dsimp only
  refine wpAny_bind (wpAny_setState_of R.ob R.dt R.fits ?_)
  dsimp only
  generalize hp : t.put (way t.mask (k.hash w) K) = pr
  obtain ⟨u, n⟩ := pr
  dsimp only
  have fin : ∀ b : Bool, wpAny (model P w) A (do
      storeSet a (SetTable.insertAt es n (k.hash w, Value.ref x)) (if b = true then u else { u with plain := false })
      if (!false && (if b = true then u else { u with plain := false } : SetTable).tooFull) = true then setRelay a (SetTable.grown (es.size + 1))
      pure true) Q E s := fun b => by
    simp only [Bool.not_false, Bool.true_and]
    cases b
    · exact putN R nk few free full hp false (new nk)
    · exact putN R nk few free full hp u.plain (new nk)
  by_cases c : u.plain = true
  · first
      | exact wpAny_bind (wp_if_pos c (someWay_key k _ 8 s hx.1 hx.2 _ fin))
      | exact wp_if_pos c (wpAny_bind (someWay_key k _ 8 s hx.1 hx.2 _ fin))
  · first
      | exact wpAny_bind (wp_if_neg c (wpAny_pure (fin true)))
      | exact wp_if_neg c (wpAny_bind (wpAny_pure (fin true)))
      | exact wp_if_neg c (fin true)
end
end DZ

/-! set(a list of nested keys) -/
namespace DZ
open PySem PySem.Spec PyProof.Rows L2 SrtO
/-- the set at a has the keys of these rows, each once -/
def HasN (w : World) (h : Heap) (a : Addr) (ks : List (Addr × NestedKey)) (n : Nat) : Prop :=
  ∃ L o es ep t, SetN w h a L o es ep t ∧ (∀ p ∈ L, p ∈ ks) ∧ (∀ p ∈ ks, p.2 ∈ L.map (·.2)) ∧ L.length ≤ n
section
variable {P : Program} {w : World} {A : Around} {E : Value → Shared → Prop} {s : Shared} {a : Addr} {ks : List (Addr × NestedKey)} {n : Nat}
theorem SetN.at {L : List (Addr × NestedKey)} {o : Obj} {es : Array (Int × Value)} {ep : Nat} {t : SetTable} {h h' : Heap} (R : SetN w h a L o es ep t) (k : ∀ u, h.get? a = some u → h'.get? a = some u) : SetN w h' a L o es ep t :=
  ⟨k _ R.ob, R.ex, R.dt, R.en, R.tb, R.nd, R.ld, R.rm, R.fw⟩
theorem HasN.at {h h' : Heap} (R : HasN w h a ks n) (k : ∀ u, h.get? a = some u → h'.get? a = some u) : HasN w h' a ks n := by
  obtain ⟨L, o, es, ep, t, r, q⟩ := R
  exact ⟨L, o, es, ep, t, r.at k, q⟩
theorem HasN.new {h : Heap} (ho : h.get? a = some (nilSet w)) : HasN w h a [] 0 :=
  ⟨[], _, #[], 0, _, ⟨ho, ⟨rfl, rfl, rfl⟩, rfl, rfl, ⟨List.Pairwise.nil, rfl, rfl, .inl rfl, fun x m => (by cases m), fun i h j e => (by simp at e)⟩, List.nodup_nil, by
    show _ ∨ (!w.params.followText "set-order") = true
    cases w.params.followText "set-order"
    · exact .inr rfl
    · exact .inl rfl, by
    show 0 * 5 < 7 * 3
    decide, by decide⟩, fun p m => (by cases m), fun p m => (by cases m), Nat.le_refl _⟩
/-- one more -/
theorem HasN.add (R : HasN w s.heap a ks n) (mem : ∀ p ∈ ks, IsN s.heap p.2 p.1) {x : Addr × NestedKey} (hx : IsN s.heap x.2 x.1) (hu : A.units + 8 < cLine) (few : n + 1 < 64) {Q : Bool → Shared → Prop}
    (q : ∀ b h', Heap.SameBut a s.heap h' → HasN w h' a (ks ++ [x]) (n + 1) → Q b { s with heap := h' }) : wpAny (model P w) A (setAddHashed a (.ref x.1) (x.2.hash w)) Q E s := by
  obtain ⟨L, o, es, ep, t, r, h1, h2, h3⟩ := R
  refine addN r (fun p m => mem p (h1 p m)) hx hu (by omega) (fun m => ?_) fun m h' L' o' es' ep' t' sb r' pm => ?_
  · refine q false s.heap (Heap.SameBut.refl a s.heap) ⟨L, o, es, ep, t, r, fun p m' => List.mem_append_left _ (h1 p m'), fun p m' => ?_, by omega⟩
    rcases List.mem_append.mp m' with m' | m'
    · exact h2 p m'
    · rw [List.mem_singleton.mp m']
      exact m
  · refine q true h' sb ⟨L', o', es', ep', t', r', fun p m' => ?_, fun p m' => ?_, by rw [pm.length_eq, List.length_cons]; omega⟩
    · rcases List.mem_cons.mp (pm.mem_iff.mp m') with e | m'
      · rw [e]
        exact List.mem_append_right _ (List.mem_singleton.mpr rfl)
      · exact List.mem_append_left _ (h1 p m')
    · rw [(pm.map (·.2)).mem_iff, List.map_cons]
      rcases List.mem_append.mp m' with m' | m'
      · exact List.mem_cons_of_mem _ (h2 p m')
      · rw [List.mem_singleton.mp m']
        exact List.mem_cons_self
theorem key_draws {A : Around} {E : Value → Shared → Prop} {s : Shared} {k : NestedKey} {b : Addr} {Q : Int → Shared → Prop} (hx : IsN s.heap k b) (hu : A.units + 8 < cLine) (q : Q (k.hash w) { s with toks := s.toks + k.draws }) : wpAny (model P w) A (pyHash (.ref b)) Q E s :=
  (nestedKind P w).pyHash hu hx q
/-- the rows, one by one, into the set -/
theorem updN {I : Addr} {fp wr : List Addr} {G : Array GenState → Array GenState → Prop} {n : Nat} {Pv : Nat → Value → Prop} {St : Nat → Shared → Prop} {R : Result → Shared → Prop}
    (W : WalksS P w A.in1 I fp wr G n Pv St) (T : Addr) (hT : T ∉ fp) (ks : List (Addr × NestedKey)) (hn : n = ks.length) (hb : ks.length < 64) (hu : A.in1.units + 8 < cLine) (hv : ∀ i v, Pv i v → ∃ k, ks[i]? = some k ∧ v = .ref k.1)
    (h0 : Heap) (mem : ∀ p ∈ ks, IsN h0 p.2 p.1) (nT : h0.get? T = none) (nw : ∀ b ∈ wr, h0.get? b = none) :
    ∀ (j i : Nat) (s : Shared), n - i = j → i ≤ n → St i s → (∀ b u, h0.get? b = some u → s.heap.get? b = some u) → HasN w s.heap T (ks.take i) i →
      (∀ s', Moved (T :: wr) G s s' → HasN w s'.heap T ks n → R (.ok (.ret .none)) s') →
      codeAny (model P w) A (.builtin "set.update.loop" ⟨[.ref T, .ref I], []⟩) R s := by
  have nTw : T ∉ wr := fun m => hT (W.sub _ m)
  have sub : ∀ b ∈ wr, b ∈ T :: wr := fun b m => List.mem_cons_of_mem _ m
  have stay : ∀ {s s' : Shared}, Moved wr G s s' → (∀ b u, h0.get? b = some u → s.heap.get? b = some u) → ∀ b u, h0.get? b = some u → s'.heap.get? b = some u := fun mv k b u e =>
    mv.heap b u (fun m => by rw [nw b m] at e; cases e) (k b u e)
  intro j
  induction j with
  | zero =>
    intro i s hj hi st kp M hR
    obtain rfl : i = n := by omega
    refine codeAny_builtin F.entry_set_update_loop ?_
    rw [Around.under_plainId F.plain_set_update_loop _]
    show wpAny _ A.in1 (pyNext (.ref I) >>= _) _ _ s
    refine wpAny_bind (W.done s _ _ st fun s' mv => ?_)
    rw [List.take_of_length_le (by omega)] at M
    exact wpAny_pure (hR s' (mv.mono sub) (M.at fun u e => mv.heap T u nTw e))
  | succ j ih =>
    intro i s hj hi st kp M hR
    have lt : i < n := by omega
    refine codeAny_builtin F.entry_set_update_loop ?_
    rw [Around.under_plainId F.plain_set_update_loop _]
    show wpAny _ A.in1 (pyNext (.ref I) >>= _) _ _ s
    refine wpAny_bind (W.item i s _ _ lt st fun v s' hP st' mv => ?_)
    obtain ⟨k, hk, rfl⟩ := hv i v hP
    have kp' := stay mv kp
    have M1 : HasN w s'.heap T (ks.take i) i := M.at fun u e => mv.heap T u nTw e
    have here : ∀ p ∈ ks, IsN s'.heap p.2 p.1 := fun p m => isN_keep kp' (mem p m)
    show wpAny _ A.in1 (holding [Value.ref k.1] (setAdd T (.ref k.1)) >>= _) _ _ s'
    refine wpAny_bind (wpAny_holding ?_)
    unfold setAdd
    refine wpAny_holding (wpAny_bind (key_draws (here k (List.mem_of_getElem? hk)) hu ?_))
    refine HasN.add (s := { s' with toks := s'.toks + k.2.draws }) M1 (fun p m => here p (List.mem_of_mem_take m)) (here k (List.mem_of_getElem? hk)) hu (by omega) fun b h' sb M2 => ?_
    have e1 : ks.take i ++ [k] = ks.take (i + 1) := by
      rw [List.take_add_one, hk]
      rfl
    rw [e1] at M2
    refine wpAny_pure ⟨plainId_quiet F.plain_set_update_loop _, ih (i + 1) _ (by omega) lt (W.frame _ s' _ _ st' (Nat.le_add_right _ _) fun b m o e => ?_) (fun b u e => ?_) M2 fun s2 mv2 M3 => ?_⟩
    · rw [sb.2 b (fun z : b = T => hT (z ▸ m))]
      exact e
    · exact (sb.2 b (fun z => by rw [z, nT] at e; cases e)).trans (kp' b u e)
    · refine hR s2 (Moved.trans W.gtrans ((mv.mono sub).then_heap (Nat.le_add_right _ _) fun b o m e => ?_) mv2) M3
      rw [sb.2 b (fun z : b = T => m (by rw [z]; exact List.mem_cons_self))]
      exact e
theorem call_set_listN {l : Addr} {xs : Array Value} (ks : List (Addr × NestedKey)) {Q : Value → Shared → Prop} (hh : A.handled = none) (hl : s.heap.IsList l xs) (hx : xs.toList = ks.map fun p => Value.ref p.1) (mem : ∀ p ∈ ks, IsN s.heap p.2 p.1) (hb : ks.length < 64) (hu : A.units + 16 < cLine)
    (h : ∀ (h' : Heap) (tk : Nat), HasN w h' s.heap.objs.size ks ks.length → (∀ b o, s.heap.get? b = some o → h'.get? b = some o) → Q (.ref s.heap.objs.size) { s with heap := h', toks := tk }) :
    wpAny (model P w) A (call (.type "set") [.ref l]) Q E s := by
  have len : xs.size = ks.length := by rw [← Array.length_toList, hx, List.length_map]
  obtain ⟨c, tl, hmro⟩ := F.called_set.mro
  have hmade := F.called_set.made
  have hsub := F.called_set.sub
  refine wpAny_call (codeAny_of_tree ?_)
  show wpAny _ _ (callAny (.type "set") _) _ _ _
  refine wpAny_pure ⟨Code.quiet_builtin _ (by decide +kernel), codeAny_builtin F.entry_type_call ?_⟩
  rw [Around.under_plain (weight_type_call_type "set" [.ref l] []) rfl]
  have h1 := F.called_set.notType
  have h2 := F.called_set.canCreate
  have hct := F.typeCall_set_1 (.ref l)
  repeat (any_goals (first | assumption | wp_step))
  refine codeAny_mono (code_set_led1 (.ref l) (E := E) (Q₁ := fun x s₁ => x = .ref s.heap.objs.size ∧ s₁ = { s with heap := s.heap.push (nilSet w) }) ⟨rfl, rfl⟩) fun r s₁ hr => ?_
  cases r with
  | error e => exact hr
  | ok fl =>
    cases fl with
    | ret x =>
      obtain ⟨rfl, rfl⟩ := hr
      have hS : (s.heap.push (nilSet w)).get? s.heap.objs.size = some (nilSet w) := Heap.get?_push_size _ rfl
      have hT : Shared.TypeIs { s with heap := s.heap.push (nilSet w) } (.ref s.heap.objs.size) "set" := ⟨_, hS, rfl⟩
      have hli := F.called_set.init.lookup
      have hbi := F.called_set.init.bind (.ref s.heap.objs.size)
      repeat (any_goals (first | assumption | wp_step))
      refine codeAny_mono (codeAny_call_builtin (R := wants (fun r s₂ => r = .none ∧ ∃ h' tk, s₂ = { s with heap := h', toks := tk } ∧ HasN w h' s.heap.objs.size ks ks.length ∧
          (∀ b o, s.heap.get? b = some o → h'.get? b = some o)) E) F.called_set.init.plain F.entry_set_init (check_set_init_1 hT ?_)) fun r₂ s₂ hr₂ => ?_
      · obtain ⟨ol, hol, hcl, nl, hdl⟩ := hl
        obtain ⟨ocls, odict, odata, oslots⟩ := ol
        simp only at hcl hdl
        subst hcl; subst hdl
        have hol' : (s.heap.push (nilSet w)).get? l = some { cls := .type "list", dict := odict, data := .seq xs nl, slots := oslots } := Heap.get?_push_of_some _ hol
        have hsls := F.sub_list_set
        have hslf := F.sub_list_frozenset
        have hne : (Value.type "list" == Value.type "dict") = false := by decide
        have hl1 : (s.heap.push (nilSet w)).IsList l xs := ⟨_, hol', rfl, nl, rfl⟩
        unfold Builtin.«set.__init__» noKeywords Builtin.Frozenset.updateFrom
        generalize hPI : pyIter = PI
        wp_walk
        subst hPI
        refine wpAny_pyIter_list hl1 (wpAny_bind (wpAny_runValue ?_))
        have lS : l < s.heap.objs.size := Heap.lt_size hol
        have hh3 : A.in1.in1.in1.handled = none := by simp [hh]
        have lI : l ≠ (s.heap.push (nilSet w)).objs.size := by
          rw [Heap.size_push]
          exact Nat.ne_of_lt (Nat.lt_succ_of_lt lS)
        have nf : s.heap.objs.size ∉ [(s.heap.push (nilSet w)).objs.size, l] := by
          rw [Heap.size_push]
          simp only [List.mem_cons, List.mem_singleton, List.not_mem_nil, or_false, not_or]
          exact ⟨Nat.ne_of_lt (Nat.lt_succ_self _), Nat.ne_of_gt lS⟩
        have far : ∀ b, s.heap.objs.size ≤ b → s.heap.get? b = none := fun b z => by
          cases q : s.heap.get? b with
          | none => rfl
          | some o => exact absurd (Nat.lt_of_lt_of_le (Heap.lt_size q) z) (Nat.lt_irrefl _)
        refine updN ((Walks.list hh3 _ l lI xs).toS) s.heap.objs.size nf ks len hb (by simp only [Around.in1_units]; omega) (fun i v e => ?_) s.heap mem (far _ (Nat.le_refl _)) (fun b m => far b ?_) (xs.size - 0) 0 _ (by omega) (Nat.zero_le _)
          ⟨⟨_, Heap.get?_push_size _ rfl, rfl, rfl⟩, hl1.push _⟩ (fun b o e => Heap.get?_push_of_some _ (Heap.get?_push_of_some _ e)) (HasN.new (Heap.get?_push_of_some _ hS)) fun s' mv M => ?_
        · have z : xs.toList[i]? = some v := by rw [Array.getElem?_toList]; exact e
          rw [hx, List.getElem?_map] at z
          obtain ⟨p, e1, e2⟩ := Option.map_eq_some_iff.mp z
          exact ⟨p, e1, e2.symm⟩
        · rw [List.mem_singleton.mp m, Heap.size_push]
          exact Nat.le_succ _
        · obtain ⟨h', g2, d', tk', os'⟩ := s'
          have eg : g2 = s.gens := mv.gens
          have ed : d' = s.drawn := mv.drawn
          have eo : os' = s.os := mv.os
          subst eg; subst ed; subst eo
          refine wpAny_pure ?_
          show wpAny _ _ (ret Value.none) _ _ _
          rw [len] at M
          refine wpAny_pure ⟨rfl, h', tk', rfl, M, fun b o e => ?_⟩
          have b0 : b < s.heap.objs.size := Heap.lt_size e
          refine mv.heap b o ?_ (Heap.get?_push_of_some _ (Heap.get?_push_of_some _ e))
          simp only [List.mem_cons, List.mem_singleton, List.not_mem_nil, or_false, not_or]
          refine ⟨Nat.ne_of_lt b0, ?_⟩
          rw [Heap.size_push]
          exact Nat.ne_of_lt (Nat.lt_succ_of_lt b0)
      · cases r₂ with
        | error e => exact hr₂
        | ok fl₂ =>
          cases fl₂ with
          | ret r =>
            obtain ⟨rfl, h', tk, rfl, M, hk'⟩ := hr₂
            repeat (any_goals (first | assumption | wp_step))
            exact h _ _ M hk'
          | _ => exact hr₂.elim
    | _ => exact hr.elim
end
end DZ

namespace DZ
open PySem PySem.Spec PyProof.Rows L2 SrtO
/-! ### the order of keys and of rows of keys -/
def ltK : Key → Key → Bool
  | .inl i, .inl j => decide (i < j)
  | .inr x, .inr y => decide (x.cps.toList < y.cps.toList)
  | .inl _, .inr _ => true
  | .inr _, .inl _ => false
theorem ltK_irr (x : Key) : ltK x x = false := by
  cases x with
  | inl i => simp [ltK]
  | inr x => simp [ltK, List.lt_irrefl]
theorem str_ext {x y : Str} (h : x.cps.toList = y.cps.toList) : x = y := by
  cases x; cases y
  simp at h
  simp [h]
theorem ltK_tri {x y : Key} (h1 : ltK x y = false) (h2 : ltK y x = false) : x = y := by
  cases x with
  | inl i =>
    cases y with
    | inl j =>
      simp [ltK] at h1 h2
      rw [show i = j from by omega]
    | inr y => simp [ltK] at h1
  | inr x =>
    cases y with
    | inl j => simp [ltK] at h2
    | inr y =>
      simp only [ltK, decide_eq_false_iff_not] at h1 h2
      rw [str_ext (List.le_antisymm (List.not_lt.mp h2) (List.not_lt.mp h1))]
theorem ltK_tr {x y z : Key} (h1 : ltK x y = true) (h2 : ltK y z = true) : ltK x z = true := by
  cases x with
  | inl i =>
    cases y with
    | inl j =>
      cases z with
      | inl k =>
        simp [ltK] at h1 h2 ⊢
        omega
      | inr z => rfl
    | inr y =>
      cases z with
      | inl k => simp [ltK] at h2
      | inr z => rfl
  | inr x =>
    cases y with
    | inl j => simp [ltK] at h1
    | inr y =>
      cases z with
      | inl k => simp [ltK] at h2
      | inr z =>
        simp only [ltK, decide_eq_true_eq] at *
        exact List.lt_trans h1 h2
/-- rows, the first unlike place telling -/
def ltR : List Key → List Key → Bool
  | _, [] => false
  | [], _ :: _ => true
  | x :: xs, y :: ys => if x = y then ltR xs ys else ltK x y
theorem ltR_irr : ∀ xs : List Key, ltR xs xs = false
  | [] => rfl
  | x :: xs => by rw [ltR, if_pos rfl, ltR_irr xs]
theorem ltR_tri : ∀ {xs ys : List Key}, ltR xs ys = false → ltR ys xs = false → xs = ys
  | [], [], _, _ => rfl
  | [], _ :: _, h, _ => by simp [ltR] at h
  | _ :: _, [], _, h => by simp [ltR] at h
  | x :: xs, y :: ys, h1, h2 => by
    unfold ltR at h1 h2
    by_cases e : x = y
    · subst e
      rw [if_pos rfl] at h1 h2
      rw [ltR_tri h1 h2]
    · rw [if_neg e] at h1
      rw [if_neg (fun z => e z.symm)] at h2
      exact absurd (ltK_tri h1 h2) e
theorem ltR_tr : ∀ {xs ys zs : List Key}, ltR xs ys = true → ltR ys zs = true → ltR xs zs = true
  | _, [], _, h, _ => by simp [ltR] at h
  | _, _ :: _, [], _, h => by simp [ltR] at h
  | [], y :: ys, z :: zs, _, _ => rfl
  | x :: xs, y :: ys, z :: zs, h1, h2 => by
    unfold ltR at h1 h2 ⊢
    by_cases e : x = y
    · subst e
      rw [if_pos rfl] at h1
      by_cases f : x = z
      · subst f
        rw [if_pos rfl] at h2 ⊢
        exact ltR_tr h1 h2
      · rw [if_neg f] at h2 ⊢
        exact h2
    · rw [if_neg e] at h1
      by_cases f : y = z
      · subst f
        rw [if_neg e]
        exact h1
      · rw [if_neg f] at h2
        have t := ltK_tr h1 h2
        rw [if_neg (fun q => by subst q; rw [ltK_irr] at t; cases t)]
        exact t
theorem swoR {α : Type} (k : α → List Key) : Swo fun u v => ltR (k u) (k v) := by
  refine ⟨fun x y h => ?_, fun x y z h1 h2 => ?_⟩
  · cases e : ltR (k y) (k x) with
    | false => rfl
    | true =>
      have t := ltR_tr h e
      rw [ltR_irr] at t
      cases t
  · cases e : ltR (k z) (k x) with
    | false => rfl
    | true =>
      cases f : ltR (k x) (k y) with
      | true =>
        have t := ltR_tr e f
        rw [h2] at t
        cases t
      | false =>
        rw [ltR_tri f h1, h2] at e
        cases e
/-! ### sorted, behind the gathering -/
section
variable {P : Program} {w : World} {A : Around} {E : Value → Shared → Prop} {s : Shared}
def Rdy (P : Program) (w : World) (A : Around) (Q : Value → Shared → Prop) (vs : List Value) (s1 : Shared) : Prop :=
  vs.length ≤ sizeLine ∧ ∃ ltv, Swo ltv ∧ (2 ≤ vs.length → ∀ (h₁ : Heap) (a : Addr), h₁.get? a = some (seqObj "list" vs.toArray 0) → (∀ b o, s1.heap.get? b = some o → b ≠ a ∧ h₁.get? b = some o) → SortableO P w A.in1.in1 { s1 with heap := h₁ } a vs ltv) ∧
    ∀ (h' : Heap) (p : Addr) (c : Nat) (out : List Value), (∀ b o, s1.heap.get? b = some o → h'.get? b = some o) → s1.heap.objs.size ≤ p → h'.get? p = some (seqObj "list" out.toArray c) → Srtd ltv out → Stb ltv out vs → Q (.ref p) { s1 with heap := h' }
theorem sortedV {v : Value} {Q : Value → Shared → Prop} (hc : wpAny (model P w) A.in1 (collect v) (Rdy P w A Q) E s) : wpAny (model P w) A (call (.builtin "sorted") [v]) Q E s := by
  refine Calls.call_function_entry kind_sorted plain_sorted entry_sorted (args_sorted1 _) ?_
  unfold Builtin.«sorted»
  refine wpAny_bind (m := checkCount "sorted" 1 1 _) (wpAny_pure ?_)
  refine wpAny_bind (wpAny_mono hc (fun vs s1 q => ?_) fun _ _ e => e)
  obtain ⟨hz, ltv, O, hS, fin⟩ := q
  refine wpAny_bind (wpAny_newList ?_ hz)
  have hoL : (s1.heap.push (seqObj "list" vs.toArray 0)).get? s1.heap.objs.size = some (seqObj "list" vs.toArray 0) := Heap.get?_push_size _ rfl
  have keep : ∀ b o, s1.heap.get? b = some o → b ≠ s1.heap.objs.size ∧ (s1.heap.push (seqObj "list" vs.toArray 0)).get? b = some o := fun b o e => ⟨Nat.ne_of_lt (Heap.lt_size e), Heap.get?_push_of_some _ e⟩
  refine wpAny_bind (wpAny_holding (wpAny_call_entry slot_list_sort ⟨_, hoL, rfl⟩ entry_list_sort (list_sort_ord O hoL hz (fun h2 => hS h2 _ _ hoL keep) fun out hs hb => ⟨_, rfl, ?_⟩) (args_list_sort _)))
  obtain ⟨c, hc⟩ := sortedHeap_at (vs := vs) (out := out.toArray) hoL
  refine wpAny_pure ⟨_, rfl, fin _ s1.heap.objs.size c out (fun b u e => ?_) (Nat.le_refl _) hc hs hb⟩
  have lt := Heap.lt_size e
  show (sortedHeap (s1.heap.push (seqObj "list" vs.toArray 0)) s1.heap.objs.size vs out.toArray).get? b = some u
  rw [sortedHeap_old (Nat.ne_of_lt lt) (by rw [size_push']; exact Nat.lt_succ_of_lt lt)]
  exact Heap.get?_push_of_some _ e
/-! ### what can be sorted -/
/-- all ints, or all texts -/
def Hom (vs : List Value) : Prop := (∀ v ∈ vs, ∃ i t, v = Value.int i t) ∨ (∀ v ∈ vs, ∃ x t, v = Value.str x t)
theorem ints_list : ∀ {vs : List Value}, (∀ v ∈ vs, ∃ i t, v = Value.int i t) → ∃ ns, IntsAre vs ns
  | [], _ => ⟨[], .nil⟩
  | v :: vs, h => by
    obtain ⟨i, t, rfl⟩ := h v List.mem_cons_self
    obtain ⟨ns, r⟩ := ints_list fun u m => h u (List.mem_cons_of_mem _ m)
    exact ⟨_, .cons i t r⟩
theorem strs_list : ∀ {vs : List Value}, (∀ v ∈ vs, ∃ x t, v = Value.str x t) → ∃ ss, StrsAre vs ss
  | [], _ => ⟨[], .nil⟩
  | v :: vs, h => by
    obtain ⟨x, t, rfl⟩ := h v List.mem_cons_self
    obtain ⟨ss, r⟩ := strs_list fun u m => h u (List.mem_cons_of_mem _ m)
    exact ⟨_, .cons x t r⟩
theorem sortable_keys {a : Addr} {vs : List Value} (hm : Hom vs) (h2 : 2 ≤ vs.length) : SortableO P w A s a vs fun u v => ltR [kOf u] [kOf v] := by
  intro h' _
  have e1 : ∀ x y : Key, ltR [x] [y] = ltK x y := fun x y => by
    show (if x = y then false else ltK x y) = ltK x y
    by_cases e : x = y
    · subst e
      rw [if_pos rfl, ltK_irr]
    · rw [if_neg e]
  refine ⟨oneType', fun Q E hq => ?_, fun p q hp hq => ?_⟩
  · match vs, hm, h2 with
    | v1 :: v2 :: rest, hm, _ =>
      rcases hm with hm | hm
      · obtain ⟨ns, hI⟩ := ints_list hm
        rw [keyKind_ints hI]
        exact wpAny_pure hq
      · obtain ⟨ss, hI⟩ := strs_list hm
        rw [keyKind_strs hI]
        exact wpAny_pure hq
    | [], _, h => exact absurd h (by decide)
    | [v], _, h => exact absurd h (by simp)
  · show wpAny (model P w) A (keyLt' oneType' p.1 q.1) (fun r s' => s' = _ ∧ r = ltR [kOf p.1] [kOf q.1]) (fun _ _ => False) _
    rw [e1]
    rcases hm with hm | hm
    · obtain ⟨i, t, ei⟩ := hm _ hp
      obtain ⟨j, u, ej⟩ := hm _ hq
      rw [ei, ej, keyLt'_oneType]
      exact oneLt_int ⟨rfl, rfl⟩
    · obtain ⟨i, t, ei⟩ := hm _ hp
      obtain ⟨j, u, ej⟩ := hm _ hq
      rw [ei, ej, keyLt'_oneType]
      exact oneLt_str ⟨rfl, rfl⟩
/-! ### rows of keys -/
def KsAre : List Key → List Value → Prop
  | [], vs => vs = []
  | k :: ks, vs => ∃ v r, vs = v :: r ∧ keyIs k v = true ∧ KsAre ks r
/-- the tuple of keys at v -/
def Flat (h : Heap) (v : Value) (ks : List Key) : Prop := ∃ a o xs n, v = .ref a ∧ h.get? a = some o ∧ o.cls = .type "tuple" ∧ o.data = .seq xs n ∧ KsAre ks xs.toList
theorem KsAre.len : ∀ {ks : List Key} {vs : List Value}, KsAre ks vs → ks.length = vs.length
  | [], vs, h => by
    subst h
    rfl
  | k :: ks, vs, ⟨v, r, e, _, q⟩ => by
    subst e
    rw [List.length_cons, List.length_cons, q.len]
def sortK : Key → Bool
  | .inl _ => true
  | .inr _ => false
theorem one_lt {k k' : Key} {v v' : Value} {b : Bool} {Q : Bool → Shared → Prop} (h : keyIs k v = true) (h' : keyIs k' v' = true) (hs : sortK k = sortK k') (q : Q (ltK k k') s) : wpAny (model P w) A (oneLt' b v v') Q E s := by
  rcases keyIs_shape h with ⟨i, t, rfl, rfl⟩ | ⟨x, t, rfl, rfl⟩
  · rcases keyIs_shape h' with ⟨j, u, rfl, rfl⟩ | ⟨y, u, rfl, rfl⟩
    · cases b with
      | true => exact oneLt_int q
      | false => exact PySem.W.kat_one _ _ (PyProof.Rows.lt_int q)
    · cases hs
  · rcases keyIs_shape h' with ⟨j, u, rfl, rfl⟩ | ⟨y, u, rfl, rfl⟩
    · cases hs
    · cases b with
      | true => exact oneLt_str q
      | false => exact PySem.W.kat_one _ _ (PyProof.Rows.lt_str q)
theorem lex_keys {b : Bool} : ∀ {ks ks' : List Key} {vs vs' : List Value} {i : Nat} {Q : Bool → Shared → Prop}, KsAre ks vs → KsAre ks' vs' → ks.map sortK = ks'.map sortK → Q (ltR ks ks') s →
    PySem.W.KatLex P w A b (decide (ks.length + i < ks'.length + i)) Q (vs.zip vs') i s
  | [], [], vs, vs', i, Q, h, h', _, q => by
    obtain rfl : vs = [] := h
    refine PySem.W.kat_nil ?_
    rw [show decide (([] : List Key).length + i < ([] : List Key).length + i) = false from decide_eq_false (Nat.lt_irrefl _)]
    exact q
  | [], _ :: _, _, _, _, _, _, _, e, _ => by cases e
  | _ :: _, [], _, _, _, _, _, _, e, _ => by cases e
  | k :: ks, k' :: ks', vs, vs', i, Q, ⟨v, r, e, hk, hr⟩, ⟨v', r', e', hk', hr'⟩, hs, q => by
    subst e e'
    rw [List.map_cons, List.map_cons, List.cons.injEq] at hs
    refine PySem.W.kat_cons ((mixKind P w).eqBool (a := k) (b := k') hk hk' ?_)
    have ef : decide ((k :: ks).length + i < (k' :: ks').length + i) = decide (ks.length + (i + 1) < ks'.length + (i + 1)) := by
      rw [List.length_cons, List.length_cons]
      exact decide_eq_decide.mpr (by omega)
    unfold ltR at q
    by_cases c : k = k'
    · rw [if_pos c] at q
      rw [decide_eq_true c, ef]
      exact PySem.W.kat_yes (lex_keys hr hr' hs.2 q)
    · rw [if_neg c] at q
      rw [decide_eq_false c]
      exact PySem.W.kat_no (one_lt hk hk' hs.1 q)
theorem tups_of {h : Heap} {kf : Value → List Key} {sh : List Bool} : ∀ {vs : List Value}, (∀ v ∈ vs, Flat h v (kf v) ∧ (kf v).map sortK = sh) → sh ≠ [] → ∃ fs : List Value, PySem.W.KatTups h vs fs ∧ fs.length = vs.length ∧
    ((∀ f ∈ fs, ∃ x t, f = Value.int x t) ∨ ∀ f ∈ fs, ∃ x t, f = Value.str x t)
  | [], _, _ => ⟨[], .nil, rfl, .inl fun f m => by cases m⟩
  | v :: vs, hv, hne => by
    obtain ⟨fs, t, l, c⟩ := tups_of (fun u m => hv u (List.mem_cons_of_mem _ m)) hne
    obtain ⟨⟨a, o, xs, n, ev, ho, hc, hd, ka⟩, es⟩ := hv v List.mem_cons_self
    cases ek : kf v with
    | nil =>
      rw [ek] at es
      exact absurd es.symm hne
    | cons k ks =>
      rw [ek] at ka es
      obtain ⟨f, r, ex, hk, _⟩ := ka
      have x0 : xs[0]? = some f := by
        rw [← Array.getElem?_toList, ex]
        rfl
      subst ev
      refine ⟨f :: fs, .cons ho hc hd x0 t, by rw [List.length_cons, List.length_cons, l], ?_⟩
      -- the kind of the first is told by sh
      match sh, es, hv with
      | b :: sh', es, hv =>
        have eb : sortK k = b := (List.cons.inj es).1
        have allk : ∀ u ∈ vs, ∃ k' r', kf u = k' :: r' ∧ sortK k' = b := fun u m => by
          have z := (hv u (List.mem_cons_of_mem _ m)).2
          cases e2 : kf u with
          | nil =>
            rw [e2] at z
            cases z
          | cons k' r' =>
            rw [e2] at z
            exact ⟨k', r', rfl, (List.cons.inj z).1⟩
        have fst : ∀ (us gs : List Value), (∀ u ∈ us, Flat h u (kf u) ∧ ∃ k' r', kf u = k' :: r' ∧ sortK k' = b) → PySem.W.KatTups h us gs → ∀ g ∈ gs, (b = true → ∃ x t, g = Value.int x t) ∧ (b = false → ∃ x t, g = Value.str x t) := by
          intro us
          induction us with
          | nil =>
            intro gs _ T g m
            cases gs with
            | nil => cases m
            | cons g' gs => exact T.elim
          | cons u us ih =>
            intro gs hu T g m
            cases gs with
            | nil => exact T.elim
            | cons g' gs =>
              obtain ⟨⟨a1, o1, ys, n1, e1, ho1, hc1, hd1, y0⟩, T'⟩ := T
              rcases List.mem_cons.mp m with m | m
              · obtain ⟨⟨a2, o2, zs, n2, e2, ho2, hc2, hd2, ka2⟩, k', r', ek', sk⟩ := hu u List.mem_cons_self
                rw [ek'] at ka2
                obtain ⟨f2, r2, ez, hk2, _⟩ := ka2
                have ea : a1 = a2 := by
                  have z := e1.symm.trans e2
                  injection z
                subst ea
                rw [ho1] at ho2
                obtain rfl := Option.some.inj ho2
                rw [hd1] at hd2
                injection hd2 with q1 q2
                subst q1
                have z0 : ys[0]? = some f2 := by
                  rw [← Array.getElem?_toList, ez]
                  rfl
                rw [y0] at z0
                obtain rfl := Option.some.inj z0
                subst m
                rcases keyIs_shape hk2 with ⟨i, t, e3, e4⟩ | ⟨x, t, e3, e4⟩
                · subst e3
                  exact ⟨fun _ => ⟨i, t, e4⟩, fun z => by rw [← sk] at z; cases z⟩
                · subst e3
                  exact ⟨fun z => (by rw [← sk] at z; cases z), fun _ => ⟨x, t, e4⟩⟩
              · exact ih gs (fun u m => hu u (List.mem_cons_of_mem _ m)) T' g m
        have all := fst (.ref a :: vs) (f :: fs) (fun u m => ⟨(hv u m).1, by
          rcases List.mem_cons.mp m with m | m
          · exact ⟨k, ks, m ▸ ek, eb⟩
          · exact allk u m⟩) (.cons ho hc hd x0 t)
        cases b with
        | true => exact .inl fun g m => (all g m).1 rfl
        | false => exact .inr fun g m => (all g m).2 rfl
theorem sortable_rows {a : Addr} {vs : List Value} {kf : Value → List Key} {sh : List Bool} (hne : sh ≠ []) (hv : ∀ v ∈ vs, Flat s.heap v (kf v) ∧ (kf v).map sortK = sh) (h2 : 2 ≤ vs.length)
    (ha : ∀ o, s.heap.get? a = some o → o.cls ≠ .type "tuple") : SortableO P w A s a vs fun u v => ltR (kf u) (kf v) := by
  intro h' keep
  have hv' : ∀ v ∈ vs, Flat h' v (kf v) ∧ (kf v).map sortK = sh := fun v m => by
    obtain ⟨⟨b, o, xs, n, e, ho, hc, r1, r2⟩, q⟩ := hv v m
    exact ⟨⟨b, o, xs, n, e, keep b o (fun z => by subst z; exact ha o ho hc) ho, hc, r1, r2⟩, q⟩
  obtain ⟨fs, t, l, c⟩ := tups_of hv' hne
  refine ⟨tuples' true, fun Q E hq => ?_, fun p q hp hq => ?_⟩
  · have hl : 0 < fs.length := by omega
    rcases c with c | c
    · refine PySem.W.kat_kind (T := .type "int") t hl (fun f m => ?_) (by rfl) ?_
      · obtain ⟨x, u, rfl⟩ := c f m
        exact PySem.W.Looks.now
      · rw [show (Value.type "int" != Value.type "tuple") = true from by decide]
        exact hq
    · refine PySem.W.kat_kind (T := .type "str") t hl (fun f m => ?_) (by rfl) ?_
      · obtain ⟨x, u, rfl⟩ := c f m
        exact PySem.W.Looks.now
      · rw [show (Value.type "str" != Value.type "tuple") = true from by decide]
        exact hq
  · obtain ⟨⟨a1, o1, xs1, n1, e1, ho1, hc1, hd1, k1⟩, s1⟩ := hv' _ hp
    obtain ⟨⟨a2, o2, xs2, n2, e2, ho2, hc2, hd2, k2⟩, s2⟩ := hv' _ hq
    show wpAny (model P w) A (keyLt' (tuples' true) p.1 q.1) (fun r s' => s' = _ ∧ r = ltR (kf p.1) (kf q.1)) (fun _ _ => False) _
    rw [e1] at k1 s1
    rw [e2] at k2 s2
    rw [e1, e2]
    refine PySem.W.kat_lt ho1 hd1 ho2 hd2 ?_
    have z := lex_keys (P := P) (w := w) (A := A) (s := { s with heap := h' }) (b := true) (i := 0) (Q := fun r s' => s' = { s with heap := h' } ∧ r = ltR (kf (.ref a1)) (kf (.ref a2))) k1 k2 (s1.trans s2.symm) ⟨rfl, rfl⟩
    rw [k1.len, k2.len, Array.length_toList, Array.length_toList] at z
    exact z
end
end DZ

namespace DL
open PySem PySem.Spec PyProof.Rows L2

/-! ### deep values, the tracked heap -/
inductive DO where
  | lst (xs : List D) | dct (kvs : List (D × D)) | lck (kvs : List (D × D)) (o : HO) | xdo (x : D) (v : V) | exn (c : String) (x : Option D) | ins (c : String) (fs : List (String × D))
abbrev DG := Addr → Option DO
def gset (G : DG) (a : Addr) (o : Option DO) : DG := fun b => if b = a then o else G b
theorem gset_same {G : DG} {a : Addr} {o : Option DO} : gset G a o a = o := by unfold gset; rw [if_pos rfl]
theorem gset_ne {G : DG} {a b : Addr} {o : Option DO} (h : b ≠ a) : gset G a o b = G b := by unfold gset; rw [if_neg h]

def keyOf : D → Option Key
  | .int i => some (.inl i)
  | .str s => some (.inr (S s))
  | _ => none

def KTup (K : PySem.W.Frag) (a : Addr) (xs : List V) : Prop :=
  ∃ (o : Obj) (its : Array Value) (n : Nat), K.lookup a = some o ∧ o.cls = .type "tuple" ∧ o.data = .seq its n ∧ its.size ≤ sizeLine ∧ Vals xs its.toList
/-- the frozen addresses (told by no transformer) -/
abbrev FS := Addr → Prop
def fadd (F : FS) (p : Addr) : FS := fun a => a = p ∨ F a
/-- what stands there, locked or not -/
def strip : HO → HO
  | .frz _ u => u
  | u => u
def Rs (H : Hp) (a : Addr) (u : HO) : Prop := ∃ o, H a = some o ∧ strip o = u
theorem Rs.rd {H : Hp} {a : Addr} {u : HO} (h : Rs H a u) : Rd H a u := by
  obtain ⟨o, h, e⟩ := h
  cases o <;> first | exact .inl (by rw [h, ← e]; rfl) | exact .inr ⟨_, by rw [h, ← e]; rfl⟩
theorem Rs.of {H : Hp} {a : Addr} {u : HO} (h : H a = some u) (e : strip u = u := by rfl) : Rs H a u := ⟨u, h, e⟩
/-- data: a list, a tuple, a dict -/
def isDat : HO → Bool
  | .lst _ => true
  | .tup _ => true
  | .dK _ => true
  | _ => false
/-- no table, no code -/
def plainO : HO → Bool
  | .tbl _ => false
  | .ext _ => false
  | _ => true
theorem dat_plain {u : HO} (h : isDat u = true) : plainO u = true := by cases u <;> first | rfl | cases h
abbrev LT := List (Addr × Str)
theorem tabs_upd {T : LT} {H : Hp} {a : Addr} {u : HO} (t : LamX.Tabs T H) (h : ∀ o, H a = some o → plainO o = true) : LamX.Tabs T (upd H a u) := fun p hp => by
  obtain ⟨ps, e, tr, cs⟩ := t p hp
  have hp1 : p.1 ≠ a := fun z => by
    have := h _ (z ▸ e)
    cases this
  refine ⟨ps, by rw [upd_ne hp1]; exact e, tr, fun pos cv hc => ?_⟩
  obtain ⟨c, ec, hcd⟩ := cs pos cv hc
  have hc1 : c ≠ a := fun z => by
    have := h _ (z ▸ hcd)
    cases this
  exact ⟨c, ec, by rw [upd_ne hc1]; exact hcd⟩
theorem tabs_new {T : LT} {H : Hp} {a : Addr} {u : HO} (t : LamX.Tabs T H) (h : H a = none) : LamX.Tabs T (upd H a u) := tabs_upd t fun o e => by rw [h] at e; cases e
def KLst (K : PySem.W.Frag) (a : Addr) (xs : List V) : Prop :=
  ∃ (o : Obj) (its : Array Value) (n : Nat), K.lookup a = some o ∧ o.cls = .type "list" ∧ o.dict = none ∧ o.data = .seq its n ∧ its.size ≤ sizeLine ∧ Vals xs its.toList
def TupAt (K : PySem.W.Frag) (F : FS) (H : Hp) (a : Addr) (vs : List V) : Prop := (Rs H a (.tup vs) ∧ F a) ∨ KTup K a vs
def LstAt (F : FS) (H : Hp) (a : Addr) (vs : List V) : Prop := Rs H a (.lst vs) ∧ F a
def DctAt (F : FS) (H : Hp) (a : Addr) (ws : List (Key × V)) : Prop := Rs H a (.dK ws) ∧ F a

mutual
def RelD (K : PySem.W.Frag) (F : FS) (H : Hp) : D → V → Prop
  | .non, v => v = .non
  | .bl b, v => v = .bl b
  | .int i, v => v = .int i
  | .str s, v => v = .str (S s)
  | .tup xs, v => ∃ a vs, v = .ref a ∧ TupAt K F H a vs ∧ RelDs K F H xs vs
  | .lst xs, v => ∃ a vs, v = .ref a ∧ LstAt F H a vs ∧ RelDs K F H xs vs
  | .dct kvs, v => ∃ a ws, v = .ref a ∧ DctAt F H a ws ∧ RelKs K F H kvs ws
  | .ref a, v => v = .ref a
  | .scr ns, v => ∃ a, v = .ref a ∧ ((Rs H a (.lst (ns.map V.int)) ∧ F a) ∨ KLst K a (ns.map V.int))
def RelDs (K : PySem.W.Frag) (F : FS) (H : Hp) : List D → List V → Prop
  | [], vs => vs = []
  | x :: xs, vs => ∃ v r, vs = v :: r ∧ RelD K F H x v ∧ RelDs K F H xs r
def RelKs (K : PySem.W.Frag) (F : FS) (H : Hp) : List (D × D) → List (Key × V) → Prop
  | [], ws => ws = []
  | (k, x) :: r, ws => ∃ key v ws', ws = (key, v) :: ws' ∧ keyOf k = some key ∧ RelD K F H x v ∧ RelKs K F H r ws'
end

/-- it stays, or is locked -/
def Lk (o o' : HO) : Prop := o' = o ∨ ∃ od, o' = .frz od o ∧ isDat o = true
theorem strip_dat {o : HO} (h : isDat o = true) : strip o = o := by cases o <;> first | rfl | cases h
theorem Lk.strip {o o' : HO} (h : Lk o o') : DL.strip o' = DL.strip o := by
  rcases h with rfl | ⟨od, rfl, d⟩
  · rfl
  · exact (strip_dat d).symm
theorem Lk.trans {o o1 o2 : HO} (h : Lk o o1) (k : Lk o1 o2) : Lk o o2 := by
  rcases h with rfl | ⟨od, rfl, d⟩
  · exact k
  · rcases k with rfl | ⟨od2, _, d2⟩
    · exact .inr ⟨od, rfl, d⟩
    · cases d2
def LkAt (H' : Hp) (a : Addr) (o : HO) : Prop := ∃ o', H' a = some o' ∧ Lk o o'
theorem LkAt.rs {H' : Hp} {a : Addr} {o : HO} (h : LkAt H' a o) : Rs H' a (strip o) := let ⟨o', e, l⟩ := h; ⟨o', e, l.strip⟩
/-- frozen things stay; so do private ones (neither frozen nor tracked), and they stay private -/
structure Step (F : FS) (G : DG) (H : Hp) (F' : FS) (G' : DG) (H' : Hp) : Prop where
  fz : ∀ a o, F a → H a = some o → F' a ∧ LkAt H' a o
  pv : ∀ a o, ¬ F a → G a = none → H a = some o → plainO o = true → ¬ F' a ∧ G' a = none ∧ H' a = some o
theorem Step.refl {F : FS} {G : DG} {H : Hp} : Step F G H F G H := ⟨fun _ o f h => ⟨f, o, h, .inl rfl⟩, fun _ _ f g h _ => ⟨f, g, h⟩⟩
theorem Step.trans {F F1 F2 : FS} {G G1 G2 : DG} {H H1 H2 : Hp} (a : Step F G H F1 G1 H1) (b : Step F1 G1 H1 F2 G2 H2) : Step F G H F2 G2 H2 :=
  ⟨fun x o f h => let ⟨f1, o1, h1, e1⟩ := a.fz x o f h; let ⟨f2, o2, h2, e2⟩ := b.fz x o1 f1 h1; ⟨f2, o2, h2, e1.trans e2⟩, fun x o f g h p => let ⟨f1, g1, h1⟩ := a.pv x o f g h p; b.pv x o f1 g1 h1 p⟩

/-- what frozen values lean on stands in another heap -/
def Kept (F : FS) (H : Hp) (F' : FS) (H' : Hp) : Prop := ∀ a o, F a → H a = some o → F' a ∧ LkAt H' a o
section
variable {K : PySem.W.Frag} {F F' : FS} {H H' : Hp}
theorem Rs.kept {a : Addr} {u : HO} (s : Kept F H F' H') (r : Rs H a u) (f : F a) : Rs H' a u ∧ F' a := by
  obtain ⟨o, h, e⟩ := r
  obtain ⟨f1, h1⟩ := s a o f h
  have h1 := h1.rs
  rw [e] at h1
  exact ⟨h1, f1⟩
theorem TupAt.kept {a : Addr} {vs : List V} (s : Kept F H F' H') (h : TupAt K F H a vs) : TupAt K F' H' a vs := by
  rcases h with ⟨h, g⟩ | h
  · exact .inl (Rs.kept s h g)
  · exact .inr h
theorem LstAt.kept {a : Addr} {vs : List V} (s : Kept F H F' H') (h : LstAt F H a vs) : LstAt F' H' a vs := Rs.kept s h.1 h.2
theorem DctAt.kept {a : Addr} {ws : List (Key × V)} (s : Kept F H F' H') (h : DctAt F H a ws) : DctAt F' H' a ws := Rs.kept s h.1 h.2
mutual
theorem RelD.kept (s : Kept F H F' H') : ∀ (d : D) {v : V}, RelD K F H d v → RelD K F' H' d v
  | .non, _, h => h
  | .bl _, _, h => h
  | .int _, _, h => h
  | .str _, _, h => h
  | .tup xs, _, ⟨a, vs, e, t, r⟩ => ⟨a, vs, e, t.kept s, RelDs.kept s xs r⟩
  | .lst xs, _, ⟨a, vs, e, t, r⟩ => ⟨a, vs, e, t.kept s, RelDs.kept s xs r⟩
  | .dct kvs, _, ⟨a, vs, e, t, r⟩ => ⟨a, vs, e, t.kept s, RelKs.kept s kvs r⟩
  | .ref _, _, h => h
  | .scr ns, _, ⟨a, e, t⟩ => ⟨a, e, t.imp (fun t => Rs.kept s t.1 t.2) id⟩
theorem RelDs.kept (s : Kept F H F' H') : ∀ (ds : List D) {vs : List V}, RelDs K F H ds vs → RelDs K F' H' ds vs
  | [], _, h => h
  | x :: xs, _, ⟨v, r, e, h, t⟩ => ⟨v, r, e, RelD.kept s x h, RelDs.kept s xs t⟩
theorem RelKs.kept (s : Kept F H F' H') : ∀ (ds : List (D × D)) {ws : List (Key × V)}, RelKs K F H ds ws → RelKs K F' H' ds ws
  | [], _, h => h
  | (k, x) :: xs, _, ⟨key, v, r, e, ek, h, t⟩ => ⟨key, v, r, e, ek, RelD.kept s x h, RelKs.kept s xs t⟩
end
theorem RelD.step {G G' : DG} (s : Step F G H F' G' H') (d : D) {v : V} (h : RelD K F H d v) : RelD K F' H' d v := RelD.kept s.fz d h
theorem RelDs.step {G G' : DG} (s : Step F G H F' G' H') (d : List D) {v : List V} (h : RelDs K F H d v) : RelDs K F' H' d v := RelDs.kept s.fz d h
theorem RelKs.step {G G' : DG} (s : Step F G H F' G' H') (d : List (D × D)) {v : List (Key × V)} (h : RelKs K F H d v) : RelKs K F' H' d v := RelKs.kept s.fz d h
end

def RelFs (K : PySem.W.Frag) (F : FS) (H : Hp) : List (String × D) → List (Str × V) → Prop
  | [], ws => ws = []
  | (f, x) :: r, ws => ∃ v ws', ws = (S f, v) :: ws' ∧ RelD K F H x v ∧ RelFs K F H r ws'
/-- the field of an exception that has one, in its dict -/
def RelXn (K : PySem.W.Frag) (F : FS) (G : DG) (H : Hp) : Option D → Option Addr → Prop
  | none, od => od = none
  | some d, od => ∃ dd v, od = some dd ∧ G dd = none ∧ ¬ F dd ∧ H dd = some (.xd [(S "excess", v)]) ∧ RelD K F H d v
/-- an exception that was caught: its object stays as it is -/
abbrev exnO (oe : Obj) : HO := .frz oe (.ext fun _ => True)
def RelO (K : PySem.W.Frag) (F : FS) (G : DG) (H : Hp) : DO → Option HO → Prop
  | .lst xs, ho => ∃ vs, ho = some (.lst vs) ∧ RelDs K F H xs vs
  | .dct kvs, ho => ∃ ws, ho = some (.dK ws) ∧ RelKs K F H kvs ws
  | .lck kvs o, ho => ∃ od ws, o = .frz od (.dK ws) ∧ ho = some o ∧ RelKs K F H kvs ws
  | .xdo x v, ho => ho = some (.xd [(S "excess", v)]) ∧ RelD K F H x v
  | .exn c x, ho => ∃ oe od, ho = some (exnO oe) ∧ (oe.cls = .ref (He.ga K (S c)) ∧ oe.dict = od) ∧ (∃ us : Array Value, oe.data = .fields us) ∧ RelXn K F G H x od
  | .ins c fs, ho => ∃ dx ws, ho = some (.ins (He.ga K (S c)) dx ws) ∧ G dx = none ∧ ¬ F dx ∧ (∃ b, H dx = some (.own b)) ∧ RelFs K F H fs ws
structure RelG (K : PySem.W.Frag) (T : LT) (F : FS) (G : DG) (H : Hp) : Prop where
  fz : ∀ a, F a → G a = none ∧ ∃ o, H a = some o ∧ isDat (strip o) = true
  tb : LamX.Tabs T H
  ob : ∀ a o, G a = some o → RelO K F G H o (H a)
def RelSt (K : PySem.W.Frag) (F : FS) (H : Hp) (env : List (Option D)) (σ : L2.St) : Prop :=
  env.length = σ.length ∧ ∀ (i : Nat) (d : D), env[i]? = some (some d) → ∃ v, σ[i]? = some (some v) ∧ RelD K F H d v

section
variable {K : PySem.W.Frag} {T : LT} {F F' : FS} {G G' : DG} {H H' : Hp}
theorem RelFs.kept (s : Kept F H F' H') : ∀ (fs : List (String × D)) {ws : List (Str × V)}, RelFs K F H fs ws → RelFs K F' H' fs ws
  | [], _, h => h
  | (f, x) :: xs, _, ⟨v, r, e, h, t⟩ => ⟨v, r, e, RelD.kept s x h, RelFs.kept s xs t⟩
theorem RelFs.step (s : Step F G H F' G' H') (fs : List (String × D)) {ws : List (Str × V)} (h : RelFs K F H fs ws) : RelFs K F' H' fs ws := RelFs.kept s.fz fs h
theorem RelO.step (s : Step F G H F' G' H') {o : DO} {ho : Option HO} (h : RelO K F G H o ho) : RelO K F' G' H' o ho := by
  cases o with
  | lst xs => obtain ⟨vs, e, r⟩ := h; exact ⟨vs, e, RelDs.step s xs r⟩
  | dct xs => obtain ⟨vs, e, r⟩ := h; exact ⟨vs, e, RelKs.step s xs r⟩
  | lck xs o => obtain ⟨od, vs, e, e2, r⟩ := h; exact ⟨od, vs, e, e2, RelKs.step s xs r⟩
  | xdo x v => exact ⟨h.1, RelD.step s x h.2⟩
  | exn c x =>
    obtain ⟨oe, od, e, z, us, r⟩ := h
    refine ⟨oe, od, e, z, us, ?_⟩
    cases x with
    | none => exact r
    | some d =>
      obtain ⟨dd, v, e1, g, f, q, r⟩ := r
      obtain ⟨f1, g1, h1⟩ := s.pv dd _ f g q rfl
      exact ⟨dd, v, e1, g1, f1, h1, RelD.step s d r⟩
  | ins c fs =>
    obtain ⟨dx, ws, e, g, f, ⟨b, q⟩, r⟩ := h
    obtain ⟨f1, g1, h1⟩ := s.pv dx _ f g q rfl
    exact ⟨dx, ws, e, g1, f1, ⟨b, h1⟩, RelFs.step s fs r⟩
theorem RelSt.step (s : Step F G H F' G' H') {env : List (Option D)} {σ : L2.St} (h : RelSt K F H env σ) : RelSt K F' H' env σ :=
  ⟨h.1, fun i d e => let ⟨v, e1, r⟩ := h.2 i d e; ⟨v, e1, RelD.step s d r⟩⟩
theorem RelG.obj {a : Addr} {o : DO} (h : RelG K T F G H) (e : G a = some o) : ∃ u, H a = some u ∧ plainO u = true := by
  have r := h.ob a o e
  cases o with
  | lst xs => obtain ⟨vs, e, _⟩ := r; exact ⟨_, e, rfl⟩
  | dct xs => obtain ⟨vs, e, _⟩ := r; exact ⟨_, e, rfl⟩
  | lck xs o => obtain ⟨od, vs, e, e2, _⟩ := r; exact ⟨_, e2, by rw [e]; rfl⟩
  | xdo x v => exact ⟨_, r.1, rfl⟩
  | exn c x => obtain ⟨oe, od, e, _⟩ := r; exact ⟨_, e, rfl⟩
  | ins c fs => obtain ⟨dx, ws, e, _⟩ := r; exact ⟨_, e, rfl⟩
theorem RelG.free {a : Addr} (h : RelG K T F G H) (e : H a = none) : G a = none := by
  cases q : G a with
  | none => rfl
  | some o => obtain ⟨u, z, _⟩ := h.obj q; rw [e] at z; cases z
theorem RelG.nof {a : Addr} (h : RelG K T F G H) (e : H a = none) : ¬ F a := fun f => by
  obtain ⟨_, o, z, _⟩ := h.fz a f
  rw [e] at z; cases z
/-- a new frozen object -/
theorem Step.new {a : Addr} {u : HO} (hn : H a = none) : Step F G H (fadd F a) G (upd H a u) :=
  ⟨fun b o f e => ⟨.inr f, o, by rw [upd_ne (ne_of_none e hn)]; exact e, .inl rfl⟩, fun b o f g e _ => ⟨fun z => z.elim (ne_of_none e hn) f, g, by rw [upd_ne (ne_of_none e hn)]; exact e⟩⟩
/-- a new private object -/
theorem Step.priv {a : Addr} {u : HO} (hn : H a = none) : Step F G H F G (upd H a u) :=
  ⟨fun b o f e => ⟨f, o, by rw [upd_ne (ne_of_none e hn)]; exact e, .inl rfl⟩, fun b o f g e _ => ⟨f, g, by rw [upd_ne (ne_of_none e hn)]; exact e⟩⟩
theorem RelG.to (h : RelG K T F G H) (s : Step F G H F' G H') (hf : ∀ a, F' a → F a ∨ (G a = none ∧ ∃ o, H' a = some o ∧ isDat (strip o) = true)) (ht : LamX.Tabs T H') (ho : ∀ a o, G a = some o → H' a = H a) : RelG K T F' G H' := by
  refine ⟨fun a f => ?_, ht, fun a o e => ?_⟩
  · rcases hf a f with f | f
    · obtain ⟨g, o, z, d⟩ := h.fz a f
      obtain ⟨_, o', z', e'⟩ := s.fz a o f z
      exact ⟨g, o', z', by rw [e'.strip]; exact d⟩
    · exact f
  · rw [ho a o e]
    exact (h.ob a o e).step s
theorem RelG.new {a : Addr} {u : HO} (h : RelG K T F G H) (hn : H a = none) (hu : isDat (strip u) = true := by rfl) : RelG K T (fadd F a) G (upd H a u) :=
  h.to (Step.new hn) (fun b f => f.elim (fun e => .inr ⟨by rw [e]; exact h.free hn, u, by rw [e, upd_same], hu⟩) .inl) (tabs_new h.tb hn) fun b o e => upd_ne (by
    obtain ⟨w, z, _⟩ := h.obj e
    exact ne_of_none z hn)
theorem RelG.priv {a : Addr} {u : HO} (h : RelG K T F G H) (hn : H a = none) : RelG K T F G (upd H a u) :=
  h.to (Step.priv hn) (fun b f => .inl f) (tabs_new h.tb hn) fun b o e => upd_ne (by
    obtain ⟨w, z, _⟩ := h.obj e
    exact ne_of_none z hn)
/-- a new tracked object, or one that is written -/
theorem Step.set {a : Addr} {o : Option DO} {u : HO} (hg : RelG K T F G H) (h : H a = none ∨ G a ≠ none) : Step F G H F (gset G a o) (upd H a u) := by
  refine ⟨fun b w f e => ?_, fun b w f g e _ => ?_⟩
  · have hb : b ≠ a := fun z => by
      subst z
      rcases h with h | h
      · rw [e] at h; cases h
      · exact h (hg.fz b f).1
    exact ⟨f, w, by rw [upd_ne hb]; exact e, .inl rfl⟩
  · have hb : b ≠ a := fun z => by
      subst z
      rcases h with h | h
      · rw [e] at h; cases h
      · exact h g
    exact ⟨f, by rw [gset_ne hb]; exact g, by rw [upd_ne hb]; exact e⟩
theorem RelG.plain {a : Addr} (h : RelG K T F G H) (hs : H a = none ∨ G a ≠ none) : ∀ o, H a = some o → plainO o = true := fun o e => by
  rcases hs with q | q
  · rw [q] at e; cases e
  · cases z : G a with
    | none => exact absurd z q
    | some w =>
      obtain ⟨u, eu, pu⟩ := h.obj z
      rw [e] at eu
      cases eu
      exact pu
theorem RelG.set {a : Addr} {o : DO} {u : HO} (h : RelG K T F G H) (hs : H a = none ∨ G a ≠ none) (r : RelO K F (gset G a (some o)) (upd H a u) o (some u)) : RelG K T F (gset G a (some o)) (upd H a u) := by
  have s : Step F G H F (gset G a (some o)) (upd H a u) := Step.set h hs
  refine ⟨fun b f => ?_, tabs_upd h.tb (h.plain hs), fun b w e => ?_⟩
  · have hb : b ≠ a := fun z => by
      subst z
      rcases hs with q | q
      · exact h.nof q f
      · exact q (h.fz b f).1
    obtain ⟨g, w, z, d⟩ := h.fz b f
    exact ⟨by rw [gset_ne hb]; exact g, w, by rw [upd_ne hb]; exact z, d⟩
  · by_cases hb : b = a
    · subst hb
      rw [gset_same] at e
      cases e
      rw [upd_same]
      exact r
    · rw [gset_ne hb] at e
      rw [upd_ne hb]
      exact (h.ob b w e).step s
/-- a private object is written; becomes frozen; becomes tracked -/
theorem RelO.kept0 (s : Kept F H F' H') (hp : ∀ a b, ¬ F a → G a = none → H a = some (.own b) → ¬ F' a ∧ G' a = none ∧ H' a = some (.own b)) {o : DO} {ho : Option HO} (hx : ∀ c d, o = .exn c (some d) → ∀ a v, ¬ F a → G a = none → H a = some (.xd [(S "excess", v)]) → ¬ F' a ∧ G' a = none ∧ H' a = some (.xd [(S "excess", v)])) (h : RelO K F G H o ho) : RelO K F' G' H' o ho := by
  cases o with
  | lst xs => obtain ⟨vs, e, r⟩ := h; exact ⟨vs, e, RelDs.kept s xs r⟩
  | dct xs => obtain ⟨vs, e, r⟩ := h; exact ⟨vs, e, RelKs.kept s xs r⟩
  | lck xs o => obtain ⟨od, vs, e, e2, r⟩ := h; exact ⟨od, vs, e, e2, RelKs.kept s xs r⟩
  | xdo x v => exact ⟨h.1, RelD.kept s x h.2⟩
  | exn c x =>
    obtain ⟨oe, od, e, z, us, r⟩ := h
    refine ⟨oe, od, e, z, us, ?_⟩
    cases x with
    | none => exact r
    | some d =>
      obtain ⟨dd, v, e1, g, f, q, r⟩ := r
      obtain ⟨f1, g1, h1⟩ := hx c d rfl dd v f g q
      exact ⟨dd, v, e1, g1, f1, h1, RelD.kept s d r⟩
  | ins c fs =>
    obtain ⟨dx, ws, e, g, f, ⟨b, q⟩, r⟩ := h
    obtain ⟨f1, g1, h1⟩ := hp dx b f g q
    exact ⟨dx, ws, e, g1, f1, ⟨b, h1⟩, RelFs.kept s fs r⟩
/-- what stands by itself beside others -/
def isPrv : HO → Bool
  | .own _ => true
  | .xd _ => true
  | _ => false
theorem isPrv_dat {u : HO} (h : isPrv u = true) (d : isDat u = true) : False := by cases u <;> simp_all [isPrv, isDat]
theorem RelO.kept (s : Kept F H F' H') (hp : ∀ a u, ¬ F a → G a = none → H a = some u → isPrv u = true → ¬ F' a ∧ G' a = none ∧ H' a = some u) {o : DO} {ho : Option HO} (h : RelO K F G H o ho) : RelO K F' G' H' o ho :=
  RelO.kept0 s (fun a b f g q => hp a _ f g q rfl) (fun _ _ _ a v f g q => hp a _ f g q rfl) h
theorem kept_wr {a : Addr} {u : HO} (hf : ¬ F a) : Kept F H F (upd H a u) := fun b o f e => ⟨f, o, by rw [upd_ne (fun (z : b = a) => hf (z ▸ f))]; exact e, .inl rfl⟩
theorem RelG.wr {a : Addr} {u0 u : HO} (h : RelG K T F G H) (hf : ¬ F a) (hg : G a = none) (e0 : H a = some u0) (hu : isDat u0 = true) : RelG K T F G (upd H a u) := by
  refine ⟨fun b f => ?_, tabs_upd h.tb (fun o e => by rw [e0] at e; cases e; exact dat_plain hu), fun b o e => ?_⟩
  · obtain ⟨g, o, z, d⟩ := h.fz b f
    obtain ⟨_, o', z', e'⟩ := kept_wr (u := u) hf b o f z
    exact ⟨g, o', z', by rw [e'.strip]; exact d⟩
  · rw [upd_ne (fun z => by rw [z, hg] at e; cases e)]
    refine RelO.kept (kept_wr hf) (fun c d f g q pv => ⟨f, g, ?_⟩) (h.ob b o e)
    rw [upd_ne (fun z => by rw [z, e0] at q; cases q; exact isPrv_dat pv hu)]
    exact q
theorem Step.wr {F0 : FS} {G0 : DG} {H0 : Hp} {a : Addr} {u : HO} (s : Step F0 G0 H0 F G H) (h0 : H0 a = none) : Step F0 G0 H0 F G (upd H a u) :=
  ⟨fun b o f e => ⟨(s.fz b o f e).1, by unfold LkAt; rw [upd_ne (ne_of_none e h0)]; exact (s.fz b o f e).2⟩, fun b o f g e p => ⟨(s.pv b o f g e p).1, (s.pv b o f g e p).2.1, by rw [upd_ne (ne_of_none e h0)]; exact (s.pv b o f g e p).2.2⟩⟩
theorem RelG.frz {a : Addr} {u0 : HO} (h : RelG K T F G H) (hg : G a = none) (e0 : H a = some u0) (hu : isDat u0 = true) : RelG K T (fadd F a) G H := by
  refine ⟨fun b f => ?_, h.tb, fun b o e => ?_⟩
  · rcases f with rfl | f
    · exact ⟨hg, u0, e0, by cases u0 <;> first | exact hu | cases hu⟩
    · exact h.fz b f
  · refine RelO.kept (fun b o f e => ⟨.inr f, o, e, .inl rfl⟩) (fun c d f g q pv => ⟨fun z => z.elim (fun z => ?_) f, g, q⟩) (h.ob b o e)
    rw [z, e0] at q; cases q; exact isPrv_dat pv hu
theorem Step.frz {F0 : FS} {G0 : DG} {H0 : Hp} {a : Addr} (s : Step F0 G0 H0 F G H) (h0 : H0 a = none) : Step F0 G0 H0 (fadd F a) G H :=
  ⟨fun b o f e => ⟨.inr (s.fz b o f e).1, (s.fz b o f e).2⟩, fun b o f g e p => ⟨fun z => z.elim (ne_of_none e h0) (s.pv b o f g e p).1, (s.pv b o f g e p).2⟩⟩
/-- forgetting -/
theorem gsub_none (hs : ∀ a o, G' a = some o → G a = some o) {b : Addr} (g : G b = none) : G' b = none := by
  cases q : G' b with
  | none => rfl
  | some z => rw [hs b z q] at g; cases g
theorem Step.sub (hs : ∀ a o, G' a = some o → G a = some o) : Step F G H F G' H := ⟨fun b w f e => ⟨f, w, e, .inl rfl⟩, fun b w f g e _ => ⟨f, gsub_none hs g, e⟩⟩
theorem RelG.sub (h : RelG K T F G H) (hs : ∀ a o, G' a = some o → G a = some o) : RelG K T F G' H :=
  ⟨fun a f => ⟨gsub_none hs (h.fz a f).1, (h.fz a f).2⟩, h.tb, fun a o e => (h.ob a o (hs a o e)).step (Step.sub hs)⟩
theorem RelSt.get {env : List (Option D)} {σ : L2.St} {i : Nat} {d : D} (h : RelSt K F H env σ) (e : env[i]? = some (some d)) : ∃ v, σ[i]? = some (some v) ∧ RelD K F H d v := h.2 i d e
theorem RelSt.set {env : List (Option D)} {σ : L2.St} {i : Nat} {d : D} {v : V} (h : RelSt K F H env σ) (r : RelD K F H d v) : RelSt K F H (env.set i (some d)) (σ.set i (some v)) := by
  refine ⟨by simp [h.1], fun j d' e => ?_⟩
  by_cases hj : i = j
  · subst hj
    by_cases hi : i < env.length
    · rw [List.getElem?_set_self hi] at e
      cases e
      exact ⟨v, by rw [List.getElem?_set_self (by rw [← h.1]; exact hi)], r⟩
    · rw [List.getElem?_eq_none (by simpa using hi)] at e; cases e
  · rw [List.getElem?_set_ne hj] at e ⊢
    exact h.2 j d' e
end

/-! ### transformers and their lifts -/
abbrev DSt := List (Option D)
abbrev DK := D → DG → Prop
abbrev DX := String × Option D
abbrev DXK := DX → DSt → DG → Prop
abbrev DTE := DXK → DSt → DG → DK → Prop
abbrev DTT := DXK → DSt → DG → (Bool → DG → Prop) → Prop
abbrev DTA := DXK → DSt → DG → (List D → DG → Prop) → Prop
structure DEnds where
  nx : DSt → DG → Prop
  rt : DK
abbrev DTS := DXK → DEnds → DSt → DG → Prop

def RelX (K : PySem.W.Frag) (F : FS) (G : DG) (H : Hp) : DX → Value → Option Addr → Prop
  | (c, none), cls, d => cls = .ref (He.ga K (S c)) ∧ d = none
  | (c, some x), cls, d => cls = .ref (He.ga K (S c)) ∧ ∃ dd v, d = some dd ∧ H dd = some (.xd [(S "excess", v)]) ∧ RelD K F H x v ∧ G dd = none
def XOk (K : PySem.W.Frag) (T : LT) (W : WX) (E : DXK) (F : FS) (G : DG) (H : Hp) : Prop :=
  ∀ x env' F' G' cls d σ' H', E x env' G' → Step F G H F' G' H' → RelG K T F' G' H' → RelSt K F' H' env' σ' → RelX K F' G' H' x cls d → W cls d σ' H'
theorem XOk.step {K : PySem.W.Frag} {T : LT} {W : WX} {E : DXK} {F F' : FS} {G G' : DG} {H H' : Hp} (x : XOk K T W E F G H) (s : Step F G H F' G' H') : XOk K T W E F' G' H' := fun a b c d e f g h i j k l m => x a b c d e f g h i (s.trans j) k l m

def liftE (K : PySem.W.Frag) (T : LT) (W : WX) (t : DTE) : TE := fun σ H Q => ∃ env F G E P, RelG K T F G H ∧ RelSt K F H env σ ∧ XOk K T W E F G H ∧ t E env G P ∧
  ∀ d F' G' v H', P d G' → Step F G H F' G' H' → RelG K T F' G' H' → RelD K F' H' d v → Q v H'
def liftT (K : PySem.W.Frag) (T : LT) (W : WX) (t : DTT) : TT := fun σ H Q => ∃ env F G E P, RelG K T F G H ∧ RelSt K F H env σ ∧ XOk K T W E F G H ∧ t E env G P ∧
  ∀ b F' G' H', P b G' → Step F G H F' G' H' → RelG K T F' G' H' → Q b H'
def liftA (K : PySem.W.Frag) (T : LT) (W : WX) (t : DTA) : TA := fun σ H Q => ∃ env F G E P, RelG K T F G H ∧ RelSt K F H env σ ∧ XOk K T W E F G H ∧ t E env G P ∧
  ∀ ds F' G' vs H', P ds G' → Step F G H F' G' H' → RelG K T F' G' H' → RelDs K F' H' ds vs → Q vs H'
def liftS (K : PySem.W.Frag) (T : LT) (W : WX) (t : DTS) : TS := fun D σ H => ∃ env F G E DE, RelG K T F G H ∧ RelSt K F H env σ ∧ XOk K T W E F G H ∧ t E DE env G ∧
  (∀ env' F' G' σ' H', DE.nx env' G' → Step F G H F' G' H' → RelG K T F' G' H' → RelSt K F' H' env' σ' → D.nx σ' H') ∧
  (∀ d F' G' v H', DE.rt d G' → Step F G H F' G' H' → RelG K T F' G' H' → RelD K F' H' d v → D.rt v H')
abbrev QE (X : Cx) (T : LT) (W : WX) (e : Expr) (t : DTE) : Prop := PE X e (liftE X.K T W t)
abbrev QT (X : Cx) (T : LT) (W : WX) (e : Expr) (t : DTT) : Prop := PT X e (liftT X.K T W t)
abbrev QA (X : Cx) (T : LT) (W : WX) (es : List Expr) (t : DTA) : Prop := PA X es (liftA X.K T W t)
abbrev QS (X : Cx) (T : LT) (W : WX) (st : Stmt) (t : DTS) : Prop := PS X st (liftS X.K T W t)
abbrev QSs (X : Cx) (T : LT) (W : WX) (st : List Stmt) (t : DTS) : Prop := PSs X st (liftS X.K T W t)

theorem PE.imp {X : Cx} {e : Expr} {t t' : TE} (h : PE X e t) (k : ∀ σ H Q, t' σ H Q → t σ H Q) : PE X e t' := ⟨fun pins s σ H Q I w => h.run pins s σ H Q I (k σ H Q w)⟩
theorem PT.imp {X : Cx} {e : Expr} {t t' : TT} (h : PT X e t) (k : ∀ σ H Q, t' σ H Q → t σ H Q) : PT X e t' := ⟨fun pins s σ H Q I w => h.run pins s σ H Q I (k σ H Q w)⟩
theorem PA.imp {X : Cx} {e : List Expr} {t t' : TA} (h : PA X e t) (k : ∀ σ H Q, t' σ H Q → t σ H Q) : PA X e t' := ⟨fun pos pins s σ H Q I w => h.run pos pins s σ H Q I (k σ H Q w)⟩
theorem PS.imp {X : Cx} {e : Stmt} {t t' : TS} (h : PS X e t) (k : ∀ D σ H, t' D σ H → t D σ H) : PS X e t' := ⟨fun pins s σ H D I w => h.run pins s σ H D I (k D σ H w)⟩
theorem PSs.imp {X : Cx} {e : List Stmt} {t t' : TS} (h : PSs X e t) (k : ∀ D σ H, t' D σ H → t D σ H) : PSs X e t' := ⟨fun pins s σ H D I w => h.run pins s σ H D I (k D σ H w)⟩
end DL

namespace DL
namespace LN
open PySem PySem.Spec PyProof.Rows L2 HotX
/-! ### exceptions with a chain of contexts -/
abbrev Chain := List (Addr × Obj)
def top : Chain → Value
  | [] => .none
  | p :: _ => .ref p.1
/-- each bears the next one as its context -/
def Lnk : Chain → Prop
  | [] => True
  | p :: l => (∃ us : Array Value, p.2.data = .fields us ∧ us[2]? = some (top l)) ∧ Lnk l
def Zx (cls : Value) (d : Option Addr) (l : Chain) (o : Obj) : Prop := o.cls = cls ∧ o.dict = d ∧ ∀ us : Array Value, o.data = .fields us → us[2]? = some (top l)
theorem Zx.zc {cls : Value} {d : Option Addr} {l : Chain} {o : Obj} (h : Zx cls d l o) : Zc cls d o := ⟨h.1, h.2.1⟩
theorem Zx.steady {cls : Value} {d : Option Addr} {l : Chain} : PXN.Steady1 (Zx cls d l) := by
  intro o v h
  refine ⟨PXN.steady_cls o v h.1, PXN.steady_dict o v h.2.1, ?_⟩
  intro us e
  rcases o with ⟨c, dd, dt, sl⟩
  cases dt with
  | fields ws =>
    have ew : ws.setIfInBounds 1 v = us := Data.fields.inj e
    have := h.2.2 ws rfl
    rw [← ew, ← this]
    simp [Array.getElem?_setIfInBounds]
  | _ => exact Data.noConfusion e
/-- the chain stands in the ground, untracked -/
def Kp (B : Heap) (H : Hp) (l : Chain) : Prop := Lnk l ∧ ∀ p ∈ l, B.get? p.1 = some p.2 ∧ H p.1 = none
theorem Lnk.fields {p : Addr × Obj} : ∀ {l : Chain}, Lnk l → p ∈ l → ∃ us : Array Value, p.2.data = .fields us
  | [], _, h => nomatch h
  | q :: l, ⟨⟨us, e, _⟩, r⟩, h => by
    rcases List.mem_cons.mp h with z | z
    · exact ⟨us, z ▸ e⟩
    · exact r.fields z
def XE (X : Cx) (W : WX) (u : Value) (t : Shared) : Prop :=
  ∃ (a : Addr) (B : Heap) (sI : Shared) (pins : List (Addr × Obj)) (σ : L2.St) (H : Hp) (cls : Value) (d : Option Addr) (l : Chain),
    u = .ref a ∧ Inv X pins σ H sI ∧ (∀ b o, sI.heap.get? b = some o → b ∉ frs X.stack → B.get? b = some o) ∧ sI.heap.UpToSlots t.heap ∧ Sky B X.stack a (Zx cls d l) X.env.locals t.heap ∧ Kp B H l ∧ H a = none ∧ t.os = sI.os ∧ AllBare t.gens ∧ W cls d σ H
def Takes (X : Cx) (W : WX) : Prop := ∀ u t, XE X W u t → X.xe u t
def CX (P : Program) (w : World) (outer : List Env) (H : Hp) (s : Shared) (E : XK) (u : Value) (t : Shared) : Prop :=
  ∃ (a : Addr) (B : Heap) (H' : Hp) (cls : Value) (d : Option Addr) (l : Chain), u = .ref a ∧ HandSPX.FlyingZ B outer a (Zx cls d l) t.heap ∧ Kp B H' l ∧ HOk P w H' B ∧ UB (frs outer) H H' s.heap B t.heap ∧ H' a = none ∧ t.os = s.os ∧ AllBare t.gens ∧ E cls d H'
section
variable {X : Cx} {pins : List (Addr × Obj)} {σ : L2.St} {H : Hp} {sI s t : Shared} {B : Heap} {W : WX} {E : XK} {l : Chain}
/-- what a call let out flies here -/
theorem air_call (I : Inv X pins σ H s) (hW : ∀ cls d H', E cls d H' → W cls d σ H') {u : Value} (c : CX X.prog X.w X.stack H s E u t) : XE X W u t := by
  obtain ⟨a, B, H1, cls, d, l, rfl, fl, kp, hk, ub, na, eo, ag, w⟩ := c
  have inB : B.StaysIn t.heap := fl.1
  obtain ⟨M, m1, m0⟩ := restrict t.heap fun b => decide (b ∈ frs X.stack) || (B.get? b).isSome
  have mB : ∀ {b o}, B.get? b = some o → M.get? b = some o := fun {b o} e => (m1 b (by rw [e]; simp)).trans (inB b o e)
  have mF : ∀ {b}, b ∈ frs X.stack → M.get? b = t.heap.get? b := fun {b} h => m1 b (by simp [h])
  have mT : ∀ b o, M.get? b = some o → t.heap.get? b = some o ∧ (b ∉ frs X.stack → B.get? b = some o) := fun b o e => by
    have q : (decide (b ∈ frs X.stack) || (B.get? b).isSome) = true := by
      cases z : (decide (b ∈ frs X.stack) || (B.get? b).isSome) with
      | true => rfl
      | false => rw [m0 b z] at e; cases e
    have e2 : t.heap.get? b = some o := (m1 b q).symm.trans e
    refine ⟨e2, fun hf => ?_⟩
    rw [decide_eq_false hf, Bool.false_or] at q
    obtain ⟨o2, e3⟩ := Option.isSome_iff_exists.mp q
    rw [inB b o2 e3] at e2
    rw [e3]
    exact e2
  refine ⟨a, B, { s with heap := M, gens := t.gens, drawn := t.drawn, toks := t.toks }, pins, σ, H1, cls, d, l, rfl, ?_, fun b o e hf => (mT b o e).2 hf, Heap.UpToSlots.of_keeps fun b o e => (mT b o e).1, .inr (.inl fl), kp, na, eo, ag, hW _ _ _ w⟩
  have slots : ∀ b o, s.heap.get? b = some o → b ∈ frs X.stack → ∃ sl, M.get? b = some { o with slots := sl } := fun b o e hb => by
    obtain ⟨sl, q⟩ := ub.slot b o e hb
    exact ⟨sl, (mF hb).trans q⟩
  have some_ : ∀ b o, s.heap.get? b = some o → ∃ o', M.get? b = some o' := fun b o e => by
    by_cases hb : b ∈ frs X.stack
    · obtain ⟨sl, q⟩ := slots b o e hb
      exact ⟨_, q⟩
    · obtain ⟨o', q⟩ := ub.there b o e hb
      exact ⟨o', mB q⟩
  exact I.call (ch := []) ⟨fun b o e n hb _ => mB (ub.keep b o e n hb), fun b o e n hb _ => slots b o e hb, fun b o e n _ => ub.free b o e n, fun b o e _ => some_ b o e, ub.tups, ub.frzs, ub.tbls⟩ (hk.kept fun b o e => mB e) ag (fun _ z => nomatch z)
theorem pin_nofr (I : Inv X pins σ H sI) {p : Addr × Obj} (h : p ∈ X.pn) : p.1 ∉ frs X.stack := fun hm => by
  obtain ⟨_, _, p3, p4, _⟩ := I.pin p (List.mem_append_left _ h)
  exact (List.mem_cons.mp (I.stkSub p.1 hm)).elim p3 p4
/-- a new one flies here, the chain's parts being held fast -/
theorem air_new {a : Addr} {oe : Obj} {us : Array Value} {cls : Value} {d : Option Addr} (I : Inv X pins σ H sI) (kp : ∀ b o, sI.heap.get? b = some o → t.heap.get? b = some o) (fresh : sI.heap.get? a = none) (he : t.heap.get? a = some oe) (hz : Zx cls d l oe) (hl : Lnk l)
    (hp : ∀ p ∈ l, p ∈ X.pn) (hd : oe.data = .fields us) (h1 : us[1]? = some .none) (na : H a = none) (eo : t.os = sI.os) (ag : AllBare t.gens) (w : W cls d σ H) : XE X W (.ref a) t := by
  have hid : ∀ {b o}, sI.heap.get? b = some o → b ∉ frs X.stack → (PySem.W.hideAll sI.heap (frs X.stack)).get? b = some o := fun {b o} e hb => PySem.W.hideAll_get _ e hb
  have noa : (PySem.W.hideAll sI.heap (frs X.stack)).get? a = none := by
    cases q : (PySem.W.hideAll sI.heap (frs X.stack)).get? a with
    | none => rfl
    | some o =>
      have z := PySem.W.of_hideAll _ q
      rw [fresh] at z
      cases z
  have ff : t.heap.FunFrames (PySem.W.hideAll sI.heap (frs X.stack)) X.stack := (funFrames_none I.stack fun b hb => PySem.W.hideAll_none _ hb).of_keeps fun b o e _ => ⟨o, kp b o e, rfl⟩
  refine ⟨a, _, sI, pins, σ, H, cls, d, l, rfl, I, fun b o e hb => hid e hb, Heap.UpToSlots.of_keeps kp, .inl ⟨fun b o e => kp b o (PySem.W.of_hideAll _ e), noa, ff, oe, us, he, hz, hd, h1⟩, ⟨hl, fun p h => ?_⟩, na, eo, ag, w⟩
  obtain ⟨g, n, _⟩ := I.pin p (List.mem_append_left _ (hp p h))
  exact ⟨hid g (pin_nofr I (hp p h)), n⟩
/-- out of the def -/
theorem air_leaves (hs : X.stack = X.env :: X.outer) (hf : X.env.frame = some X.env.locals) (hex : X.ex = []) {E₁ : Value → Shared → Prop} (hW : ∀ cls d σ H, W cls d σ H → E cls d H) {u : Value} (x : XE X W u t) :
    wpAny (model X.prog X.w) X.A (leaving X.env u) (fun _ t' => CX X.prog X.w X.outer X.H_0 X.s_0 E u t') E₁ t := by
  obtain ⟨a, B, sI, pins, σ, H, cls, d, l, rfl, I, nb, up, sky, kp, na, eo, ag, w⟩ := x
  have fr0 : X.A.frames = some (X.env :: X.outer) := I.ok.frames.trans (by rw [hs])
  have noex : ∀ b, b ∉ X.ex := fun b hb => by rw [hex] at hb; cases hb
  have old : ∀ b o, X.s_0.heap.get? b = some o → b ∉ X.fs → b ∉ frs X.stack := fun b o e hb hm => by
    rcases List.mem_cons.mp (I.stkSub b hm) with z | z
    · have lt := Heap.lt_size e
      rw [z] at lt
      exact absurd I.ok.above (Nat.not_le_of_lt lt)
    · exact hb z
  have ends : ∀ h', HandSPX.FlyingZ B X.outer a (Zx cls d l) h' → t.heap.UpToSlots h' → CX X.prog X.w X.outer X.H_0 X.s_0 E (.ref a) { t with heap := h' } := fun h' fl up2 => by
    have sl : ∀ b o, X.s_0.heap.get? b = some o → b ∈ X.fs → ∃ sl, h'.get? b = some { o with slots := sl } := fun b o e hb => by
      obtain ⟨_, o0, e0, nd⟩ := I.ok.funs.mem hb
      cases e0.symm.trans e
      obtain ⟨s1, g1⟩ := I.base.slot b o e (I.ok.frf b hb) hb (noex b)
      obtain ⟨s2, g2⟩ := up b _ g1 nd
      obtain ⟨s3, g3⟩ := up2 b _ g2 nd
      exact ⟨s3, g3⟩
    have th : ∀ b o, X.s_0.heap.get? b = some o → b ∉ X.fs → ∃ o', B.get? b = some o' := fun b o e hb => by
      obtain ⟨o1, g1⟩ := I.base.there b o e (noex b)
      exact ⟨o1, nb b o1 g1 (old b o e hb)⟩
    exact ⟨a, B, H, cls, d, l, rfl, fl, kp, I.inGround nb, ⟨fun b o e n hb => nb b o (I.base.keep b o e n hb (noex b)) (old b o e hb), sl, fun b o e n => I.base.free b o e n (noex b), th, I.base.tups, I.base.frzs, I.base.tbls⟩, na, eo.trans I.os, ag, hW _ _ _ _ w⟩
  rw [hs] at sky
  rcases sky with ⟨k1, k2, k3, oe, us, he, hz, hd, h1⟩ | fl | hd
  · exact PXN.leaving_firstZ Zx.steady fr0 k3 hf he k1 k2 hd h1 hz ends
  · exact PXN.leaves_onZ Zx.steady fr0 hf fl ends
  · exact HandSPX.leaves_heldZ hf hd ends
theorem takes_of (hs : X.stack = X.env :: X.outer) (hf : X.env.frame = some X.env.locals) (hex : X.ex = []) {E₁ : Value → Shared → Prop}
    (hx : X.xe = fun e t => wpAny (model X.prog X.w) X.A (leaving X.env e) (fun _ t' => CX X.prog X.w X.outer X.H_0 X.s_0 E e t') E₁ t) : Takes X (fun cls d _ H => E cls d H) := by
  intro u t x
  rw [hx]
  exact air_leaves (E := E) hs hf hex (fun _ _ _ _ h => h) x
theorem passes_call (tk : Takes X W) (hW : ∀ cls d σ H, E cls d H → W cls d σ H) (pins : List (Addr × Obj)) (σ : L2.St) (H : Hp) (s : Shared) (e : Value) (t : Shared) (I : Inv X pins σ H s) (c : CX X.prog X.w X.stack H s E e t) : X.xe e t :=
  tk e t (air_call I (fun cls d H' => hW cls d σ H') c)
end
theorem passAt {X : Cx} {W : WX} (tk : Takes X W) (σ : L2.St) : PassesAt (CX X.prog X.w) X σ (WE W σ) := fun _ _ _ e t I c => tk e t (air_call I (fun _ _ _ h => h) c)
theorem ps_raise {X : Cx} {W : WX} {e : Expr} {t : L2.St → Hp → XK → Prop} {pos : Pos} (hc : X.calm = true) (tk : Takes X W) (he : L2N.PMk X e t) : PS X (.Raise (some e) none pos) (fun _ σ H => t σ H fun cls d H' => W cls d σ H') := by
  constructor
  intro pins s σ H D I h
  show wpAny _ _ (do standAt pos; raiseStmt X.env (some (do let v ← eval e X.env; standAt pos; pure v)) none) _ _ _
  apply wpAny_bind
  apply wpAny_standAt
  apply raise_made (I.ok.hd hc)
  apply wpAny_bind
  refine wpAny_mono (he pins s σ H _ I h) ?_ fun _ _ z => z
  rintro u s1 ⟨a, oe, us, sI, H', cls, d, rfl, J, k, fresh, ha, hz, hd, h1, na, eo, ag, r, q⟩
  refine wpAny_bind (wpAny_standAt (wpAny_pure ?_))
  have rr := r (model X.prog X.w) s1.heap (J.kIn.keeps k)
  exact ⟨a, oe, us, cls, rfl, ha, hz.1, hd, h1, rr.1, rr.2, tk _ _ (air_new (l := []) J k fresh ha hz trivial (fun _ z => nomatch z) hd h1 na eo ag q)⟩
/-! ### while one with a chain is handled -/
structure HotL (A : Around) (p : Addr × Obj) (l : Chain) : Prop where
  hd : A.handled = some (.ref p.1)
  lk : Lnk (p :: l)
def HotC (X : Cx) : Prop := ∃ p l, HotL X.A p l ∧ ∀ q ∈ p :: l, q ∈ X.pn
/-- it stands so in a heap -/
def Stand (h : Heap) (l : Chain) : Prop := ∀ q ∈ l, h.get? q.1 = some q.2
theorem Lnk.ctx {p : Addr × Obj} {l : Chain} (h : Lnk (p :: l)) : ∃ us : Array Value, p.2.data = .fields us ∧ us[2]? = some (top l) := h.1
section
variable {prog : Program} {w : World} {A : Around} {E : Value → Shared → Prop} {s : Shared}
theorem quiet_unchain {args : Args} : (Code.builtin "proto.unchain" args).quiet = true := Code.quiet_builtin _ (by decide +kernel)
/-- the walk along the chain: nothing is cut -/
theorem along {a : Addr} {Q : Value → Shared → Prop} (hq : Q .none s) : ∀ (l : Chain) (p q : Addr × Obj) (lq : Chain) (tog : Bool), Lnk (p :: l) → Lnk (q :: lq) → (∃ pre, q :: lq = pre ++ (p :: l)) → (∀ x ∈ p :: l, x.1 ≠ a) → Stand s.heap (q :: lq) →
    codeAny (model prog w) A (.builtin "proto.unchain" ⟨[.ref a, .ref p.1, .ref q.1, .bool tog], []⟩) (fun r s' => match r with | .ok (.ret v) => Q v s' | .ok _ => False | .error e => E e s') s := by
  intro l
  induction l with
  | nil =>
    intro p q lq tog h1 h2 ⟨pre, e⟩ hne st
    obtain ⟨us, eu, cu⟩ := h1.ctx
    have gp : s.heap.get? p.1 = some p.2 := st p (by rw [e]; simp)
    apply codeAny_builtin entry_unchain
    show wpAny _ _ (field (.ref p.1) 2 >>= _) _ _ s
    refine wpAny_bind (wpAny_field gp eu cu ?_)
    show wpAny _ _ (if (Value.none == Value.none) = true then _ else _) _ _ s
    rw [if_pos (show (Value.none == Value.none) = true from rfl)]
    first
    | exact wpAny_bind (wpAny_pure (wpAny_pure hq))
    | exact wpAny_pure hq
  | cons r l ih =>
    intro p q lq tog h1 h2 ⟨pre, e⟩ hne st
    obtain ⟨us, eu, cu⟩ := h1.ctx
    have gp : s.heap.get? p.1 = some p.2 := st p (by rw [e]; simp)
    apply codeAny_builtin entry_unchain
    show wpAny _ _ (field (.ref p.1) 2 >>= _) _ _ s
    refine wpAny_bind (wpAny_field gp eu cu ?_)
    show wpAny _ _ (if (Value.ref r.1 == Value.none) = true then _ else _) _ _ s
    rw [if_neg (show ¬ (Value.ref r.1 == Value.none) = true from Bool.false_ne_true)]
    have hra : r.1 ≠ a := hne r (by simp)
    have nr : ¬ (Value.ref r.1 == Value.ref a) = true := fun z => hra (Value.ref.inj (beq_iff_eq.mp z))
    show wpAny _ _ (if (Value.ref r.1 == Value.ref a) = true then _ else _) _ _ s
    rw [if_neg nr]
    have step : ∀ (q2 : Addr × Obj) (lq2 : Chain), Lnk (q2 :: lq2) → (∃ pre, q2 :: lq2 = pre ++ (r :: l)) → Stand s.heap (q2 :: lq2) →
        codeAny (model prog w) A (.builtin "proto.unchain" ⟨[.ref a, .ref r.1, .ref q2.1, .bool !tog], []⟩) (fun r s' => match r with | .ok (.ret v) => Q v s' | .ok _ => False | .error e => E e s') s :=
      fun q2 lq2 g1 g2 g3 => ih r q2 lq2 (!tog) h1.2 g1 g2 (fun x hx => hne x (List.mem_cons_of_mem _ hx)) g3
    show wpAny _ _ (if (Value.ref r.1 == Value.ref q.1) = true then _ else _) _ _ s
    by_cases hs : (Value.ref r.1 == Value.ref q.1) = true
    · rw [if_pos hs]
      first
      | exact wpAny_bind (wpAny_rule (wpAny_bind (wpAny_pure (wpAny_pure hq))))
      | exact wpAny_bind (wpAny_rule (wpAny_pure hq))
      | exact wpAny_rule (wpAny_pure hq)
    · rw [if_neg hs]
      cases tog with
      | false =>
        show wpAny _ _ ((pure (Value.ref q.1) : Sem Value) >>= fun slow => again (Code.builtin "proto.unchain" ⟨[.ref a, .ref r.1, slow, .bool !false], []⟩)) _ _ s
        refine wpAny_bind (wpAny_pure (wpAny_pure ⟨quiet_unchain, step q lq h2 ⟨pre ++ [p], by rw [e]; simp⟩ st⟩))
      | true =>
        obtain ⟨vs, ev, cvs⟩ := h2.ctx
        obtain ⟨q2, lq2, rfl, g⟩ : ∃ q2 lq2, lq = q2 :: lq2 ∧ ∃ pre, q2 :: lq2 = pre ++ (r :: l) := by
          cases pre with
          | nil =>
            have e2 : lq = r :: l := (List.cons.inj e).2
            exact ⟨r, l, e2, [], rfl⟩
          | cons y pre =>
            have e2 : lq = pre ++ (p :: r :: l) := (List.cons.inj e).2
            cases pre with
            | nil => exact ⟨p, r :: l, e2, [p], rfl⟩
            | cons z pre => exact ⟨z, pre ++ (p :: r :: l), e2, z :: pre ++ [p], by simp⟩
        show wpAny _ _ (field (Value.ref q.1) 2 >>= fun slow => again (Code.builtin "proto.unchain" ⟨[.ref a, .ref r.1, slow, .bool !true], []⟩)) _ _ s
        refine wpAny_bind (wpAny_field (st q List.mem_cons_self) ev cvs (wpAny_pure ⟨quiet_unchain, ?_⟩))
        exact step q2 lq2 h2.2 g fun x hx => st x (List.mem_cons_of_mem _ hx)
/-- a new exception a gets the handled one as its context -/
theorem raise_hot {α : Type} {a : Addr} {p : Addr × Obj} {l : Chain} {oe : Obj} {us : Array Value} {Q : α → Shared → Prop} (hot : HotL A p l) (st : Stand s.heap (p :: l)) (hne : ∀ x ∈ p :: l, x.1 ≠ a) (ha : s.heap.get? a = some oe) (da : oe.data = .fields us) (hi : 2 < us.size)
    (hE : E (.ref a) { s with heap := s.heap.update a (Obj.mapFields (·.setIfInBounds 2 (.ref p.1))) }) : wpAny (model prog w) A (raiseNew (.ref a) : Sem α) Q E s := by
  unfold raiseNew
  apply wpAny_bind
  apply wpAny_handled
  rw [hot.hd]
  have pa : (Value.ref p.1 != Value.ref a) = true := ref_bne (hne p List.mem_cons_self)
  have cut : ∀ {Q' : Value → Shared → Prop}, Q' .none s → wpAny (model prog w) A (holding [Value.ref a] (runValue (.builtin "proto.unchain" ⟨[.ref a, .ref p.1, .ref p.1, .bool false], []⟩))) Q' E s := fun {Q'} h =>
    wpAny_holding (wpAny_runValue (along h l p p l false hot.lk hot.lk ⟨[], rfl⟩ hne st))
  have tail := chained (prog := prog) (w := w) (A := A) (E := E) (x1 := p.1) (Q := fun _ t => wpAny (model prog w) A (throw (.ref a) : Sem α) Q E t) ha da hi (wpAny_throw hE)
  first
  | (show wpAny _ _ (if (Value.ref p.1 != Value.ref a) = true then _ else _) _ _ _
     rw [if_pos pa]
     first
     | exact wpAny_bind (cut (wpAny_bind tail))
     | exact wpAny_bind (wpAny_bind (cut tail)))
  | (apply wpAny_bind
     show wpAny _ _ (if (Value.ref p.1 != Value.ref a) = true then _ else _) _ _ _
     rw [if_pos pa]
     exact wpAny_bind (cut tail))
end
end LN
end DL

namespace DL
namespace LN
open PySem PySem.Spec PyProof.Rows L2 HotX
/-- the chain is pinned too -/
theorem pinl {X : Cx} {pins : List (Addr × Obj)} {l : Chain} {σ : L2.St} {H : Hp} {s : Shared} {B : Heap} (hfrm : X.env.frame = some X.env.locals) (I : Inv X pins σ H s) (kp : Kp B H l) (st : B.StaysIn s.heap) (ff : s.heap.FunFrames B (X.env :: X.outer)) : Inv X (pins ++ l) σ H s :=
  I.pins_of fun y hy => by
    rcases List.mem_append.mp hy with hy | hy
    · exact I.pin y (List.mem_append_right _ hy)
    · obtain ⟨g, n⟩ := kp.2 y hy
      obtain ⟨ws, ew⟩ := kp.1.fields hy
      have nf : y.1 ∉ frs (X.env :: X.outer) := fun hm => by
        have := (ff.mem hm).1
        rw [g] at this
        cases this
      refine ⟨st _ _ g, n, fun z => nf (List.mem_filterMap.mpr ⟨X.env, List.mem_cons_self, by rw [hfrm, z]⟩), fun hm => ?_, fun v z => by rw [ew] at z; cases z⟩
      obtain ⟨ev, hev, q⟩ := List.mem_filterMap.mp hm
      exact nf (List.mem_filterMap.mpr ⟨ev, List.mem_cons_of_mem _ hev, q⟩)
/-! ### try .. except C: raise .. -/
/-! ### a def's context with the chain held fast -/
def cxL (CX : CXT) (P : Program) (w : World) (K : PySem.W.Frag) (mg : Str → Option Value) (base : Heap) (N : List Str) (qual : Str) (scope : Scope) (f : Addr) (cd : Value) (A : Around) (outer : List Env) (s : Shared) (H : Hp) (E : XK) (p : Addr × Obj) (l : Chain) : Cx :=
  { cxOf CX P w K mg base N qual scope f cd A outer s H E with calm := false, pn := p :: l }
theorem inv_startL {CX : CXT} {P : Program} {w : World} {K : PySem.W.Frag} {mg : Str → Option Value} {base : Heap} {N ps : List Str} {qual : Str} {scope : Scope} {f : Addr} {cd : Value} {A : Around} {outer : List Env} {s s1 : Shared} {H : Hp} {E : XK} {us : List Value} {vs : List V}
    (S : FnScope N ps scope) {p : Addr × Obj} {l : Chain} (hpin : ∀ q ∈ p :: l, L2H.PinOk outer H s q) (e0 : Env0 P w K mg base A outer s H) (hl : vs.length = ps.length) (r : Vals vs us)
    (x : InCallC s s.heap.objs.size (bindL (envOfC qual scope s.heap.objs.size f cd).kindOf (ps.zip us) fun _ => none) (cellsFrom (s.heap.objs.size + 1) scope.names []) (bindC (envOfC qual scope s.heap.objs.size f cd).kindOf (ps.zip us) fun _ => none) s1) :
    Inv (cxL CX P w K mg base N qual scope f cd A outer s H E p l) [] (L2.start N vs) H s1 := by
  have I := L2H.inv_startH (CX := CX) (E := E) S (hpin p List.mem_cons_self) e0 hl r x
  obtain ⟨h1, tk, rfl, hk⟩ := x.done
  have pins : ∀ q ∈ (p :: l) ++ [], h1.get? q.1 = some q.2 ∧ H q.1 = none ∧ q.1 ≠ s.heap.objs.size ∧ q.1 ∉ frs outer ∧ ∀ v, q.2.data ≠ .cell v := fun q hq => by
    rw [List.append_nil] at hq
    have g := hpin q hq
    exact ⟨hk q.1 q.2 g.get, g.free, Nat.ne_of_lt (Heap.lt_size g.get), g.nofs, g.nocell⟩
  have o := I.ok
  exact ⟨⟨o.mod, o.kind, o.glob, o.blt, o.above, o.inj, o.has, o.cab, o.hd, o.frames, o.stk, o.exf, o.bs, o.bsz, o.noex, o.exfs, o.funs, o.frf⟩, I.os, I.bare, I.base, I.loc, I.cell, I.free, I.freeC, pins, I.hok, I.len⟩
end LN
end DL

namespace DL
open PySem PySem.Spec PyProof.Rows L2
variable {T : LT}
/-! ### expressions -/
def dVar (i : Nat) : DTE := fun _ env G Q => ∃ d, env[i]? = some (some d) ∧ Q d G
def dC (d : D) : DTE := fun _ _ G Q => Q d G
def dOp (f : DG → D → D → Option D) (ta tb : DTE) : DTE := fun E env G Q => ta E env G fun x G1 => tb E env G1 fun y G2 => ∃ z, f G2 x y = some z ∧ Q z G2
def dUn (f : DG → D → Option D) (ta : DTE) : DTE := fun E env G Q => ta E env G fun x G1 => ∃ z, f G1 x = some z ∧ Q z G1
def dChain (f g : DG → D → D → Option D) (ta tb tc : DTE) : DTE := fun E env G Q => ta E env G fun x G1 => tb E env G1 fun y G2 => ∃ b, f G2 x y = some (.bl b) ∧
  if b = true then tc E env G2 fun z G3 => ∃ r, g G3 y z = some r ∧ Q r G3 else Q (.bl false) G2
def dTest (t : DTE) : DTT := fun E env G Q => t E env G fun x G1 => ∃ b, x = .bl b ∧ Q b G1
def dAnd (t u : DTT) : DTT := fun E env G Q => t E env G fun c G1 => if c = true then u E env G1 Q else Q false G1
def dOr (t u : DTT) : DTT := fun E env G Q => t E env G fun c G1 => if c = true then Q true G1 else u E env G1 Q
def dNot (t : DTT) : DTT := fun E env G Q => t E env G fun c G1 => Q (!c) G1
def dAndV (t u : DTE) : DTE := fun E env G Q => t E env G fun x G1 => ∃ c, x = .bl c ∧ if c = true then u E env G1 Q else Q (.bl false) G1
def dNotV (t : DTE) : DTE := fun E env G Q => t E env G fun x G1 => ∃ c, x = .bl c ∧ Q (.bl (!c)) G1
def dIf (c : DTT) (t u : DTE) : DTE := fun E env G Q => c E env G fun b G1 => if b = true then t E env G1 Q else u E env G1 Q
def dNil : DTA := fun _ _ G Q => Q [] G
def dCons (t : DTE) (u : DTA) : DTA := fun E env G Q => t E env G fun x G1 => u E env G1 fun xs G2 => Q (x :: xs) G2
def dTup (t : DTA) : DTE := fun E env G Q => t E env G fun xs G1 => xs.length ≤ 16000000 ∧ Q (.tup xs) G1
def dLst (t : DTA) : DTE := fun E env G Q => t E env G fun xs G1 => xs.length ≤ 16000000 ∧ Q (.lst xs) G1
/-- a list that will be written: tracked -/
def dLstB (t : DTA) : DTE := fun E env G Q => t E env G fun xs G1 => xs.length ≤ 16000000 ∧ ∀ p, G1 p = none → Q (.ref p) (gset G1 p (some (.lst xs)))
/-- a call of a built-in by its values -/
def dB (f : DG → List D → Option D) (t : DTA) : DTE := fun E env G Q => t E env G fun xs G1 => ∃ z, f G1 xs = some z ∧ Q z G1
abbrev DSp := List D → DG → DK → (DX → DG → Prop) → Prop
def dCall (sp : DSp) (t : DTA) : DTE := fun E env G Q => t E env G fun xs G1 => sp xs G1 Q fun x G' => E x env G'

/-! ### by values -/
def rD (K : PySem.W.Frag) (T : LT) (f : DG → D → D → Option D) : R2 := fun x y H Q => ∃ F G dx dy z, RelG K T F G H ∧ RelD K F H dx x ∧ RelD K F H dy y ∧ f G dx dy = some z ∧ ∀ F' v H', Step F G H F' G H' → RelG K T F' G H' → RelD K F' H' z v → Q v H'
def rD1 (K : PySem.W.Frag) (T : LT) (f : DG → D → Option D) : V → Hp → VK → Prop := fun x H Q => ∃ F G dx z, RelG K T F G H ∧ RelD K F H dx x ∧ f G dx = some z ∧ ∀ F' v H', Step F G H F' G H' → RelG K T F' G H' → RelD K F' H' z v → Q v H'
def rDB (K : PySem.W.Frag) (T : LT) (f : DG → List D → Option D) : List V → Hp → VK → Prop := fun xs H Q => ∃ F G ds z, RelG K T F G H ∧ RelDs K F H ds xs ∧ f G ds = some z ∧ ∀ F' v H', Step F G H F' G H' → RelG K T F' G H' → RelD K F' H' z v → Q v H'

section
variable {X : Cx} {W : WX} {a b c : Expr} {ta tb tc : DTE} {pos : Pos}
theorem q_var {i : Nat} {x : Str} (hN : X.N[i]? = some x) (hv : Vis X.env.scope x) (hd : (x == ("__debug__" : Str)) = false := by decide) (hcd : (x == ("__classdict__" : Str)) = false := by decide) : QE X T W (.Name x pos) (dVar i) :=
  PE.imp (pe_var hN hv hd hcd) fun σ H Q ⟨env, F, G, E, P, hg, hs, hx, ⟨d, e, p⟩, hq⟩ => by
    obtain ⟨v, ev, r⟩ := hs.get e
    exact ⟨v, ev, hq d _ G v H p Step.refl hg r⟩
theorem qv (i : Nat) {x : Str} (hN : X.N[i]? = some x := by rfl) (hv : Vis X.env.scope x := by first | exact Or.inl rfl | exact Or.inr (Or.inl rfl) | exact Or.inr (Or.inr rfl)) (hd : (x == ("__debug__" : Str)) = false := by decide)
    (hcd : (x == ("__classdict__" : Str)) = false := by decide) : QE X T W (.Name x pos) (dVar i) := q_var hN hv hd hcd
theorem q_con {e : Expr} {v : V} {d : D} (h : PE X e (tC v)) (r : ∀ F H, RelD X.K F H d v) : QE X T W e (dC d) :=
  PE.imp h fun σ H Q ⟨env, F, G, E, P, hg, hs, hx, p, hq⟩ => hq d _ G v H p Step.refl hg (r F H)
theorem q_int {i : Int} {j : Nat} : QE X T W (.Constant (.int i) j pos) (dC (.int i)) := q_con pe_int fun _ _ => rfl
theorem q_bl {i : Bool} {j : Nat} : QE X T W (.Constant (.bool i) j pos) (dC (.bl i)) := q_con pe_bl fun _ _ => rfl
theorem q_non {j : Nat} : QE X T W (.Constant .none j pos) (dC .non) := q_con pe_non fun _ _ => rfl
theorem q_str {s : String} {j : Nat} : QE X T W (.Constant (.str (Str.ofString s)) j pos) (dC (.str s)) := q_con pe_str fun _ _ => rfl
theorem q_op {op : Operator} {f : DG → D → D → Option D} (ho : OpR X (binaryOp op) (rD X.K T f)) (ha : QE X T W a ta) (hb : QE X T W b tb) : QE X T W (.BinOp a op b pos) (dOp f ta tb) :=
  PE.imp (pe_op ho ha hb) fun σ H Q ⟨env, F, G, E, P, hg, hs, hx, ht, hq⟩ =>
    ⟨env, F, G, E, _, hg, hs, hx, ht, fun x F1 G1 v1 H1 h1 s1 g1 r1 => ⟨env, F1, G1, E, _, g1, hs.step s1, hx.step s1, h1, fun y F2 G2 v2 H2 ⟨z, e, p⟩ s2 g2 r2 =>
      ⟨F2, G2, x, y, z, g2, RelD.step s2 x r1, r2, e, fun F' v H' s3 g3 r3 => hq z _ G2 v H' p (s1.trans (s2.trans s3)) g3 r3⟩⟩⟩
theorem q_un {op : UnaryOp} {f : DG → D → Option D} (ho : UnR X (unaryOp op) (rD1 X.K T f)) (ha : QE X T W a ta) : QE X T W (.UnaryOp op a pos) (dUn f ta) :=
  PE.imp (pe_un ho ha) fun σ H Q ⟨env, F, G, E, P, hg, hs, hx, ht, hq⟩ =>
    ⟨env, F, G, E, _, hg, hs, hx, ht, fun x F1 G1 v1 H1 ⟨z, e, p⟩ s1 g1 r1 => ⟨F1, G1, x, z, g1, r1, e, fun F' v H' s3 g3 r3 => hq z _ G1 v H' p (s1.trans s3) g3 r3⟩⟩
theorem q_cmp {op : CmpOp} {f : DG → D → D → Option D} (ho : OpR X (compareOp op) (rD X.K T f)) (ha : QE X T W a ta) (hb : QE X T W b tb) (hm : behindInMarks op b = false) : QE X T W (.Compare a [op] [b] pos) (dOp f ta tb) :=
  PE.imp (pe_cmpR ho ha hb hm) fun σ H Q ⟨env, F, G, E, P, hg, hs, hx, ht, hq⟩ =>
    ⟨env, F, G, E, _, hg, hs, hx, ht, fun x F1 G1 v1 H1 h1 s1 g1 r1 => ⟨env, F1, G1, E, _, g1, hs.step s1, hx.step s1, h1, fun y F2 G2 v2 H2 ⟨z, e, p⟩ s2 g2 r2 =>
      ⟨F2, G2, x, y, z, g2, RelD.step s2 x r1, r2, e, fun F' v H' s3 g3 r3 => hq z _ G2 v H' p (s1.trans (s2.trans s3)) g3 r3⟩⟩⟩
theorem q_cmpT {op : CmpOp} {f : DG → D → D → Option D} (ho : OpR X (compareOp op) (rD X.K T f)) (ha : QE X T W a ta) (hb : QE X T W b tb) (hm : behindInMarks op b = false) : QT X T W (.Compare a [op] [b] pos) (dTest (dOp f ta tb)) :=
  PT.imp (pt_cmpR ho ha hb hm) fun σ H Q ⟨env, F, G, E, P, hg, hs, hx, ht, hq⟩ =>
    ⟨env, F, G, E, _, hg, hs, hx, ht, fun x F1 G1 v1 H1 h1 s1 g1 r1 => ⟨env, F1, G1, E, _, g1, hs.step s1, hx.step s1, h1, fun y F2 G2 v2 H2 ⟨z, e, k, ek, p⟩ s2 g2 r2 =>
      ⟨F2, G2, x, y, z, g2, RelD.step s2 x r1, r2, e, fun F' v H' s3 g3 r3 => by
        subst ek
        exact ⟨k, r3, hq k _ G2 H' p (s1.trans (s2.trans s3)) g3⟩⟩⟩⟩
theorem q_chain {op op' : CmpOp} {f g : DG → D → D → Option D} (ho : OpR X (compareOp op) (rD X.K T f)) (ho' : OpR X (compareOp op') (rD X.K T g)) (ha : QE X T W a ta) (hb : QE X T W b tb) (hc : QE X T W c tc)
    (hm : lastMarks [op, op'] [b, c] = false := by with_unfolding_all rfl) : QE X T W (.Compare a [op, op'] [b, c] pos) (dChain f g ta tb tc) :=
  PE.imp (pe_chain ho ho' ha hb hc hm) fun σ H Q ⟨env, F, G, E, P, hg, hs, hx, ht, hq⟩ =>
    ⟨env, F, G, E, _, hg, hs, hx, ht, fun x F1 G1 v1 H1 h1 s1 g1 r1 => ⟨env, F1, G1, E, _, g1, hs.step s1, hx.step s1, h1, fun y F2 G2 v2 H2 ⟨k, e, p⟩ s2 g2 r2 =>
      ⟨F2, G2, x, y, .bl k, g2, RelD.step s2 x r1, r2, e, fun F' v H' s3 g3 r3 => by
        refine ⟨k, r3, ?_⟩
        cases k with
        | true =>
          rw [if_pos rfl] at p ⊢
          refine ⟨env, F', G2, E, _, g3, (hs.step s1).step (s2.trans s3), hx.step (s1.trans (s2.trans s3)), p, fun z F3 G3 v4 H4 ⟨r, er, pr⟩ s4 g4 r4 => ?_⟩
          exact ⟨F3, G3, y, z, r, g4, RelD.step (s3.trans s4) y r2, r4, er, fun F5 v5 H5 s5 g5 r5 => hq r _ G3 v5 H5 pr (s1.trans (s2.trans (s3.trans (s4.trans s5)))) g5 r5⟩
        | false =>
          rw [if_neg Bool.false_ne_true] at p ⊢
          exact hq (.bl false) _ G2 _ H' p (s1.trans (s2.trans s3)) g3 rfl⟩⟩⟩
/-! tests -/
variable {tA tB' tC' : DTT} {rest : List Expr}
abbrev QW (X : Cx) (T : LT) (W : WX) (e : Expr) (t : DTT) : Prop := PW X e (liftT X.K T W t)
theorem PW.imp {X : Cx} {e : Expr} {t t' : TT} (h : PW X e t) (k : ∀ σ H Q, t' σ H Q → t σ H Q) : PW X e t' := ⟨fun wh pins s σ H Q I w => h.run wh pins s σ H Q I (k σ H Q w)⟩
theorem qw_and1 (ha : QT X T W a tA) : QW X T W (.BoolOp .And [a] pos) tA := pw_and1 ha
theorem qw_or1 (ha : QT X T W a tA) : QW X T W (.BoolOp .Or [a] pos) tA := pw_or1 ha
theorem qw_and (ha : QT X T W a tA) (hb : QW X T W (.BoolOp .And (b :: rest) pos) tB') : QW X T W (.BoolOp .And (a :: b :: rest) pos) (dAnd tA tB') :=
  PW.imp (pw_and ha hb) fun σ H Q ⟨env, F, G, E, P, hg, hs, hx, ht, hq⟩ => ⟨env, F, G, E, _, hg, hs, hx, ht, fun k F1 G1 H1 p s1 g1 => by
    cases k with
    | true => exact ⟨env, F1, G1, E, _, g1, hs.step s1, hx.step s1, p, fun b F2 G2 H2 p2 s2 g2 => hq b _ G2 H2 p2 (s1.trans s2) g2⟩
    | false => exact hq false _ G1 H1 p s1 g1⟩
theorem qw_or (ha : QT X T W a tA) (hb : QW X T W (.BoolOp .Or (b :: rest) pos) tB') : QW X T W (.BoolOp .Or (a :: b :: rest) pos) (dOr tA tB') :=
  PW.imp (pw_or ha hb) fun σ H Q ⟨env, F, G, E, P, hg, hs, hx, ht, hq⟩ => ⟨env, F, G, E, _, hg, hs, hx, ht, fun k F1 G1 H1 p s1 g1 => by
    cases k with
    | false => exact ⟨env, F1, G1, E, _, g1, hs.step s1, hx.step s1, p, fun b F2 G2 H2 p2 s2 g2 => hq b _ G2 H2 p2 (s1.trans s2) g2⟩
    | true => exact hq true _ G1 H1 p s1 g1⟩
theorem qt_w {e : Expr} (h : QW X T W e tA) : QT X T W e tA := PW.pt h
theorem qt_not (ha : QT X T W a tA) : QT X T W (.UnaryOp .Not a pos) (dNot tA) :=
  PT.imp (pt_not ha) fun σ H Q ⟨env, F, G, E, P, hg, hs, hx, ht, hq⟩ => ⟨env, F, G, E, _, hg, hs, hx, ht, fun k F1 G1 H1 p s1 g1 => hq (!k) _ G1 H1 p s1 g1⟩
theorem qt_val {e : Expr} {t : DTE} (h : QE X T W e t) (he : ∀ whole, isTrue e X.env whole = (do let v ← whole; standAt e.pos; holding [v] (truthy v)) := by intro _; rfl) : QT X T W e (dTest t) :=
  PT.imp (pt_val h he) fun σ H Q ⟨env, F, G, E, P, hg, hs, hx, ht, hq⟩ => ⟨env, F, G, E, _, hg, hs, hx, ht, fun x F1 G1 v1 H1 ⟨k, e, p⟩ s1 g1 r1 => by
    subst e
    exact ⟨k, r1, hq k _ G1 H1 p s1 g1⟩⟩
theorem q_one {op} {t : DTE} (h : QE X T W a t) : QE X T W (.BoolOp op [a] pos) t := pe_one h
theorem q_and (ha : QE X T W a ta) (hb : QE X T W (.BoolOp .And (b :: rest) pos) tb) : QE X T W (.BoolOp .And (a :: b :: rest) pos) (dAndV ta tb) :=
  PE.imp (pe_and ha hb) fun σ H Q ⟨env, F, G, E, P, hg, hs, hx, ht, hq⟩ => ⟨env, F, G, E, _, hg, hs, hx, ht, fun x F1 G1 v1 H1 ⟨k, e, p⟩ s1 g1 r1 => by
    subst e
    refine ⟨k, r1, ?_⟩
    cases k with
    | true => exact ⟨env, F1, G1, E, _, g1, hs.step s1, hx.step s1, p, fun b F2 G2 v2 H2 p2 s2 g2 r2 => hq b _ G2 v2 H2 p2 (s1.trans s2) g2 r2⟩
    | false => exact hq (.bl false) _ G1 _ H1 p s1 g1 rfl⟩
theorem q_not (ha : QE X T W a ta) : QE X T W (.UnaryOp .Not a pos) (dNotV ta) :=
  PE.imp (pe_not ha) fun σ H Q ⟨env, F, G, E, P, hg, hs, hx, ht, hq⟩ => ⟨env, F, G, E, _, hg, hs, hx, ht, fun x F1 G1 v1 H1 ⟨k, e, p⟩ s1 g1 r1 => by
    subst e
    exact ⟨k, r1, hq (.bl (!k)) _ G1 _ H1 p s1 g1 rfl⟩⟩
theorem q_if (hc : QT X T W c tA) (ha : QE X T W a ta) (hb : QE X T W b tb) : QE X T W (.IfExp c a b pos) (dIf tA ta tb) :=
  PE.imp (pe_ifExp hc ha hb) fun σ H Q ⟨env, F, G, E, P, hg, hs, hx, ht, hq⟩ => ⟨env, F, G, E, _, hg, hs, hx, ht, fun k F1 G1 H1 p s1 g1 => by
    cases k with
    | true => exact ⟨env, F1, G1, E, _, g1, hs.step s1, hx.step s1, p, fun b F2 G2 v2 H2 p2 s2 g2 r2 => hq b _ G2 v2 H2 p2 (s1.trans s2) g2 r2⟩
    | false => exact ⟨env, F1, G1, E, _, g1, hs.step s1, hx.step s1, p, fun b F2 G2 v2 H2 p2 s2 g2 r2 => hq b _ G2 v2 H2 p2 (s1.trans s2) g2 r2⟩⟩
/-! arguments, displays -/
variable {es : List Expr} {tr : DTA}
theorem qa_nil : QA X T W [] dNil := PA.imp pa_nil fun σ H Q ⟨env, F, G, E, P, hg, hs, hx, p, hq⟩ => hq [] _ G [] H p Step.refl hg rfl
theorem qa_cons (ha : QE X T W a ta) (hr : QA X T W es tr) (hst : starEach (a :: es) X.env = (false, eval a X.env) :: starEach es X.env := by rfl) : QA X T W (a :: es) (dCons ta tr) :=
  PA.imp (pa_cons ha hr hst) fun σ H Q ⟨env, F, G, E, P, hg, hs, hx, ht, hq⟩ => ⟨env, F, G, E, _, hg, hs, hx, ht, fun x F1 G1 v1 H1 p s1 g1 r1 =>
    ⟨env, F1, G1, E, _, g1, hs.step s1, hx.step s1, p, fun xs F2 G2 vs H2 p2 s2 g2 r2 => hq (x :: xs) _ G2 (v1 :: vs) H2 p2 (s1.trans s2) g2 ⟨v1, vs, rfl, RelD.step s2 x r1, r2⟩⟩⟩
theorem RelDs.length {K : PySem.W.Frag} {F : FS} {H : Hp} : ∀ {ds : List D} {vs : List V}, RelDs K F H ds vs → ds.length = vs.length
  | [], vs, h => by
    have e : vs = [] := h
    rw [e]
    rfl
  | x :: xs, _, ⟨v, r, e, _, t⟩ => by rw [e, List.length_cons, List.length_cons, RelDs.length t]
theorem small_line {n : Nat} (h : n ≤ 16000000) : n ≤ sizeLine := Nat.le_trans h (by decide)
/-- the new tuple at p -/
theorem relD_newTup {K : PySem.W.Frag} {F : FS} {G : DG} {H : Hp} {p : Addr} {ds : List D} {vs : List V} (hg : RelG K T F G H) (hp : H p = none) (r : RelDs K F H ds vs) : RelD K (fadd F p) (upd H p (.tup vs)) (.tup ds) (.ref p) :=
  ⟨p, vs, rfl, .inl ⟨.of upd_same, .inl rfl⟩, RelDs.step (G := G) (G' := G) (Step.new hp) ds r⟩
theorem relD_newLst {K : PySem.W.Frag} {F : FS} {G : DG} {H : Hp} {p : Addr} {ds : List D} {vs : List V} (hg : RelG K T F G H) (hp : H p = none) (r : RelDs K F H ds vs) : RelD K (fadd F p) (upd H p (.lst vs)) (.lst ds) (.ref p) :=
  ⟨p, vs, rfl, ⟨.of upd_same, .inl rfl⟩, RelDs.step (G := G) (G' := G) (Step.new hp) ds r⟩
theorem q_tup {x1} (h : QA X T W es tr) : QE X T W (.Tuple es x1 pos) (dTup tr) :=
  PE.imp (pe_tup h) fun σ H Q ⟨env, F, G, E, P, hg, hs, hx, ht, hq⟩ => ⟨env, F, G, E, _, hg, hs, hx, ht, fun xs F1 G1 vs H1 ⟨hl, p⟩ s1 g1 r1 =>
    ⟨by rw [← r1.length]; exact small_line hl, fun a ha => hq (.tup xs) _ G1 _ _ p (s1.trans (Step.new ha)) (g1.new ha) (relD_newTup g1 ha r1)⟩⟩
theorem q_lst (h : QA X T W es tr) : QE X T W (.List es pos) (dLst tr) :=
  PE.imp (pe_lst h) fun σ H Q ⟨env, F, G, E, P, hg, hs, hx, ht, hq⟩ => ⟨env, F, G, E, _, hg, hs, hx, ht, fun xs F1 G1 vs H1 ⟨hl, p⟩ s1 g1 r1 =>
    ⟨by rw [← r1.length]; exact small_line hl, fun a ha => hq (.lst xs) _ G1 _ _ p (s1.trans (Step.new ha)) (g1.new ha) (relD_newLst g1 ha r1)⟩⟩
theorem q_lstB (h : QA X T W es tr) : QE X T W (.List es pos) (dLstB tr) :=
  PE.imp (pe_lst h) fun σ H Q ⟨env, F, G, E, P, hg, hs, hx, ht, hq⟩ => ⟨env, F, G, E, _, hg, hs, hx, ht, fun xs F1 G1 vs H1 ⟨hl, p⟩ s1 g1 r1 =>
    ⟨by rw [← r1.length]; exact small_line hl, fun a ha => hq (.ref a) _ _ _ _ (p a (g1.free ha)) (s1.trans (Step.set g1 (.inl ha))) (g1.set (.inl ha) ⟨vs, rfl, RelDs.step (Step.set (o := none) g1 (.inl ha)) xs r1⟩) rfl⟩⟩
/-! built-ins, defs -/
theorem q_callB {x : Str} {id : String} {f : DG → List D → Option D} {e : Expr} {p : Pos} (hc : CallR X (.builtin id) (rDB X.K T f)) (hg : Gl X x) (hm : X.mg x = none) (hv : bootBuiltins x = some (.builtin id)) (ha : QA X T W (e :: es) tr) (hn : x ≠ "__name__" := by decide) (hdb : (x == ("__debug__" : Str)) = false := by decide)
    (he : starEach (e :: es) X.env = (false, eval e X.env) :: starEach es X.env := by rfl) (hpl : (backTo pos (starEach es X.env)).any (·.1) = false := by rfl) : QE X T W (.Call (.Name x p) (e :: es) [] pos) (dB f tr) :=
  PE.imp (pe_callB hc hg hm hv ha hn hdb he hpl) fun σ H Q ⟨env, F, G, E, P, hg, hs, hx, ht, hq⟩ => ⟨env, F, G, E, _, hg, hs, hx, ht, fun xs F1 G1 vs H1 ⟨z, e, p⟩ s1 g1 r1 =>
    ⟨F1, G1, xs, z, g1, r1, e, fun F' v H' s2 g2 r2 => hq z _ G1 v H' p (s1.trans s2) g2 r2⟩⟩
theorem q_callTy {x : Str} {ty : String} {f : DG → List D → Option D} {e : Expr} {p : Pos} (hc : CallR X (.type ty) (rDB X.K T f)) (hg : Gl X x) (hm : X.mg x = none) (hv : bootBuiltins x = some (.type ty)) (ha : QA X T W (e :: es) tr) (hn : x ≠ "__name__" := by decide) (hdb : (x == ("__debug__" : Str)) = false := by decide)
    (he : starEach (e :: es) X.env = (false, eval e X.env) :: starEach es X.env := by rfl) (hpl : (backTo pos (starEach es X.env)).any (·.1) = false := by rfl) : QE X T W (.Call (.Name x p) (e :: es) [] pos) (dB f tr) :=
  PE.imp (pe_callTy hc hg hm hv ha hn hdb he hpl) fun σ H Q ⟨env, F, G, E, P, hg, hs, hx, ht, hq⟩ => ⟨env, F, G, E, _, hg, hs, hx, ht, fun xs F1 G1 vs H1 ⟨z, e, p⟩ s1 g1 r1 =>
    ⟨F1, G1, xs, z, g1, r1, e, fun F' v H' s2 g2 r2 => hq z _ G1 v H' p (s1.trans s2) g2 r2⟩⟩
def liftSp (K : PySem.W.Frag) (T : LT) (sp : DSp) : Sp := fun vs H Q E => ∃ ds F G P Ed, RelG K T F G H ∧ RelDs K F H ds vs ∧ sp ds G P Ed ∧
  (∀ d F' G' v H', P d G' → Step F G H F' G' H' → RelG K T F' G' H' → RelD K F' H' d v → Q v H') ∧ (∀ x F' G' cls d H', Ed x G' → Step F G H F' G' H' → RelG K T F' G' H' → RelX K F' G' H' x cls d → E cls d H')
/-- a def of the text that keeps a promise -/
structure DFn (P : Program) (w : World) (K : PySem.W.Frag) (T : LT) (mg : Str → Option Value) (base : Heap) (k : Nat) (x : Str) (ps : List Str) (sp : DSp) : Prop where
  ok : ∃ fd, FnOk P w K mg base (LN.CX P w) k (He.ga K x) fd ps (liftSp K T sp) ∧ Binds K fd ps []
  mg : mg x = some (.ref (He.ga K x))
  kp : PySem.W.keepIn K (.ref (He.ga K x)) = true
theorem q_call {x : Str} {sp : DSp} {k j : Nat} {ps : List Str} {e : Expr} {p : Pos} (F : DFn X.prog X.w X.K T X.mg X.base k x ps sp) (hr : Room j X.A) (hj : k ≤ j) (tk : LN.Takes X W) (hg : Gl X x) (ha : QA X T W (e :: es) tr) (hdb : (x == ("__debug__" : Str)) = false := by decide)
    (he : starEach (e :: es) X.env = (false, eval e X.env) :: starEach es X.env := by rfl) (hpl : (backTo pos (starEach es X.env)).any (·.1) = false := by rfl) : QE X T W (.Call (.Name x p) (e :: es) [] pos) (dCall sp tr) := by
  obtain ⟨fd, F1, B⟩ := F.ok
  refine PE.imp (pe_callS (E := WE W) F1 (hr.mono hj) hg F.mg F.kp B (fun σ => LN.passAt tk σ) ha hdb he hpl) fun σ H Q ⟨env, F, G, E, P, hg, hs, hx, ht, hq⟩ => ⟨env, F, G, E, _, hg, hs, hx, ht, fun xs F1 G1 vs H1 p s1 g1 r1 => ?_⟩
  exact ⟨xs, F1, G1, _, _, g1, r1, p, fun d F' G' v H' p2 s2 g2 r2 => hq d _ G' v H' p2 (s1.trans s2) g2 r2, fun x F' G' cls d H' p2 s2 g2 r2 => hx x env _ G' cls d σ H' p2 (s1.trans s2) g2 (hs.step (s1.trans s2)) r2⟩
theorem q_call0 {x : Str} {sp : DSp} {k j : Nat} {ps : List Str} {p : Pos} (Fn : DFn X.prog X.w X.K T X.mg X.base k x ps sp) (hr : Room j X.A) (hj : k ≤ j) (tk : LN.Takes X W) (hg : Gl X x) (hdb : (x == ("__debug__" : Str)) = false := by decide) : QE X T W (.Call (.Name x p) [] [] pos) (dCall sp dNil) := by
  obtain ⟨fd, F1, B⟩ := Fn.ok
  refine ⟨fun pins s σ H Q I hw => ?_⟩
  obtain ⟨env, F, G, E, P, hg', hs, hx, ht, hq⟩ := hw
  refine wpAny_Call_Name_kw (ld_glob I hg Fn.mg ?_ hdb)
  refine PySem.W.callWith_K0 I.kIn Fn.kp (run_fnS (us := []) (vs := []) (E := WE W) F1 (hr.mono hj) B (LN.passAt tk σ) I .nil ?_)
  exact ⟨[], F, G, _, _, hg', rfl, ht, hq, fun x F' G' cls d H' p2 s2 g2 r2 => hx x env _ G' cls d σ H' p2 s2 g2 (hs.step s2) r2⟩
end

/-! ### statements -/
def sNext : DTS := fun _ DE env G => DE.nx env G
def sSeq (t u : DTS) : DTS := fun E DE env G => t E { DE with nx := fun env' G' => u E DE env' G' } env G
def sDrop (t : DTE) : DTS := fun E DE env G => t E env G fun _ G1 => DE.nx env G1
def sRet (t : DTE) : DTS := fun E DE env G => t E env G DE.rt
def sIf (c : DTT) (t u : DTS) : DTS := fun E DE env G => c E env G fun b G1 => if b = true then t E DE env G1 else u E DE env G1
def sSet (i : Nat) (t : DTE) : DTS := fun E DE env G => t E env G fun x G1 => DE.nx (env.set i (some x)) G1
def sRaise (c : String) : DTS := fun E _ env G => E (c, none) env G
section
variable {X : Cx} {W : WX} {st : Stmt} {rest : List Stmt} {t u : DTS} {e : Expr} {te : DTE} {pos : Pos}
theorem qs_nil : QSs X T W [] sNext := PSs.imp pss_nil fun D σ H ⟨env, F, G, E, DE, hg, hs, hx, ht, hn, hr⟩ => hn env _ G σ H ht Step.refl hg hs
theorem qs_cons (h1 : QS X T W st t) (h2 : QSs X T W rest u) : QSs X T W (st :: rest) (sSeq t u) :=
  PSs.imp (pss_cons h1 h2) fun D σ H ⟨env, F, G, E, DE, hg, hs, hx, ht, hn, hr⟩ => ⟨env, F, G, E, _, hg, hs, hx, ht, fun env' F' G' σ' H' p s1 g1 r1 =>
    ⟨env', F', G', E, DE, g1, r1, hx.step s1, p, fun env2 F2 G2 σ2 H2 p2 s2 g2 r2 => hn env2 _ G2 σ2 H2 p2 (s1.trans s2) g2 r2, fun d F2 G2 v H2 p2 s2 g2 r2 => hr d _ G2 v H2 p2 (s1.trans s2) g2 r2⟩, hr⟩
theorem qs_one (h1 : QS X T W st t) : QSs X T W [st] t := pss_one h1
theorem qs_expr (he : QE X T W e te) (hs : swapsWith e none pos.line X.env = pure false := by rfl) : QS X T W (.Expr e pos) (sDrop te) :=
  PS.imp (ps_expr he hs) fun D σ H ⟨env, F, G, E, DE, hg, hs, hx, ht, hn, hr⟩ => ⟨env, F, G, E, _, hg, hs, hx, ht, fun d F1 G1 v1 H1 p s1 g1 r1 => hn env _ G1 σ H1 p s1 g1 (hs.step s1)⟩
theorem qs_ret (he : QE X T W e te) : QS X T W (.Return (some e) pos) (sRet te) :=
  PS.imp (ps_ret he) fun D σ H ⟨env, F, G, E, DE, hg, hs, hx, ht, hn, hr⟩ => ⟨env, F, G, E, _, hg, hs, hx, ht, hr⟩
theorem qs_if {c : Expr} {a b : List Stmt} {tc : DTT} (hc : QT X T W c tc) (ha : QSs X T W a t) (hb : QSs X T W b u) : QS X T W (.If c a b pos) (sIf tc t u) :=
  PS.imp (ps_if hc ha hb) fun D σ H ⟨env, F, G, E, DE, hg, hs, hx, ht, hn, hr⟩ => ⟨env, F, G, E, _, hg, hs, hx, ht, fun b F1 G1 H1 p s1 g1 => by
    cases b with
    | true => exact ⟨env, F1, G1, E, DE, g1, hs.step s1, hx.step s1, p, fun env2 F2 G2 σ2 H2 p2 s2 g2 r2 => hn env2 _ G2 σ2 H2 p2 (s1.trans s2) g2 r2, fun d F2 G2 v H2 p2 s2 g2 r2 => hr d _ G2 v H2 p2 (s1.trans s2) g2 r2⟩
    | false => exact ⟨env, F1, G1, E, DE, g1, hs.step s1, hx.step s1, p, fun env2 F2 G2 σ2 H2 p2 s2 g2 r2 => hn env2 _ G2 σ2 H2 p2 (s1.trans s2) g2 r2, fun d F2 G2 v H2 p2 s2 g2 r2 => hr d _ G2 v H2 p2 (s1.trans s2) g2 r2⟩⟩
theorem qs_set {i : Nat} {x : Str} {pos' : Pos} (hN : X.N.Nodup) (hi : X.N[i]? = some x) (hx : Loc X.env.scope x) (he : QE X T W e te) (hs : swapsWith e (some (.Name x pos')) pos.line X.env = pure false := by rfl) (hf : X.fn x = true ∨ X.env.scope.names.lookup x = some .local := by first | exact .inl rfl | exact .inr rfl | assumption) :
    QS X T W (.Assign [.Name x pos'] e pos) (sSet i te) :=
  PS.imp (ps_set hN hi hx he hs hf) fun D σ H ⟨env, F, G, E, DE, hg, hs, hx, ht, hn, hr⟩ => ⟨env, F, G, E, _, hg, hs, hx, ht, fun d F1 G1 v1 H1 p s1 g1 r1 => hn _ _ G1 _ H1 p s1 g1 ((hs.step s1).set r1)⟩
/-- an own error class as the top has left it -/
structure DXc (X : Cx) (c : String) : Prop where
  ex : PySem.W.excIn X.K (He.ga X.K (S c)) He.veBase "ValueError.__new__" = true
  mg : X.mg (S c) = some (.ref (He.ga X.K (S c)))
  kp : PySem.W.keepIn X.K (.ref (He.ga X.K (S c))) = true
  ra : Raises X (.ref (He.ga X.K (S c)))
theorem qs_raise {c m : String} {j : Nat} {p p2 p3 : Pos} (C : DXc X c) (hc : X.calm = true) (tk : LN.Takes X W) (hg : Gl X (S c)) (hdb : (S c == ("__debug__" : Str)) = false := by decide) :
    QS X T W (.Raise (some (.Call (.Name (Str.ofString c) p) [.Constant (.str (Str.ofString m)) j p2] [] pos)) none p3) (sRaise c) :=
  PS.imp (LN.ps_raise hc tk (L2N.pmk_own PySem.F.excBase_ValueError C.ex C.mg C.kp C.ra hg hdb)) fun D σ H ⟨env, F, G, E, DE, hg, hs, hx, ht, hn, hr⟩ => hx (c, none) env _ G _ _ σ H ht Step.refl hg hs ⟨rfl, rfl⟩
end

/-! ### a def -/
theorem RelDs.start {K : PySem.W.Frag} {F : FS} {H : Hp} : ∀ {ds : List D} {vs : List V}, RelDs K F H ds vs → ∀ (i : Nat) (d : D), ds[i]? = some d → ∃ v, vs[i]? = some v ∧ RelD K F H d v
  | [], _, _, i, d, e => by simp at e
  | x :: xs, _, ⟨v, r, rfl, h, t⟩, 0, d, e => by
    simp only [List.getElem?_cons_zero, Option.some.injEq] at e
    subst e
    exact ⟨v, rfl, h⟩
  | x :: xs, _, ⟨v, r, rfl, h, t⟩, i + 1, d, e => by
    simp only [List.getElem?_cons_succ] at e ⊢
    exact RelDs.start t i d e
def dstart (N : List Str) (ds : List D) : DSt := ds.map some ++ List.replicate (N.length - ds.length) none
theorem relSt_start {K : PySem.W.Frag} {F : FS} {H : Hp} {N : List Str} {ds : List D} {vs : List V} (r : RelDs K F H ds vs) : RelSt K F H (dstart N ds) (L2.start N vs) := by
  have hl := r.length
  refine ⟨by simp [dstart, L2.start, hl], fun i d e => ?_⟩
  unfold dstart at e
  by_cases hi : i < ds.length
  · rw [List.getElem?_append_left (by simpa using hi), List.getElem?_map] at e
    cases q : ds[i]? with
    | none => rw [q] at e; cases e
    | some x =>
      rw [q] at e
      simp only [Option.map_some, Option.some.injEq] at e
      subst e
      obtain ⟨v, ev, rv⟩ := r.start i _ q
      refine ⟨v, ?_, rv⟩
      unfold L2.start
      rw [List.getElem?_append_left (by simpa [← hl] using hi), List.getElem?_map, ev]
      rfl
  · rw [List.getElem?_append_right (by simpa using hi), List.getElem?_replicate] at e
    split at e <;> cases e
end DL

namespace DL
open PySem PySem.Spec PyProof.Rows L2
variable {T : LT}
/-! ### reading -/
section
variable {K : PySem.W.Frag} {F : FS} {G : DG} {H : Hp}
theorem TupAt.sq {a : Addr} {vs : List V} (h : TupAt K F H a vs) : SqT K H a vs := by
  rcases h with ⟨h, _⟩ | h
  · exact .inl h.rd
  · exact .inr h
/-- a value read as a list: frozen or tracked -/
def lstO : Option DO → Option (List D)
  | some (.lst xs) => some xs
  | _ => none
theorem lstO_eq {o : Option DO} {xs : List D} (h : lstO o = some xs) : o = some (.lst xs) := by
  unfold lstO at h
  split at h
  · cases h; rfl
  · cases h
def asL (G : DG) : D → Option (List D)
  | .lst xs => some xs
  | .ref a => lstO (G a)
  | _ => none
theorem asL_ok {d : D} {v : V} {xs : List D} (hg : RelG K T F G H) (r : RelD K F H d v) (e : asL G d = some xs) : ∃ a vs, v = .ref a ∧ Rd H a (.lst vs) ∧ RelDs K F H xs vs := by
  cases d with
  | lst ys =>
    cases e
    obtain ⟨a, vs, ev, h, rs⟩ := r
    exact ⟨a, vs, ev, h.1.rd, rs⟩
  | ref a =>
    have ev : v = .ref a := r
    obtain ⟨vs, h, rs⟩ := hg.ob a _ (lstO_eq e)
    exact ⟨a, vs, ev, .inl h, rs⟩
  | _ => cases e
/-- .. as a list or a tuple -/
def asQ (G : DG) : D → Option (List D)
  | .tup xs => some xs
  | .scr ns => some (ns.map .int)
  | d => asL G d
theorem RelDs.append : ∀ {xs ys : List D} {vs ws : List V}, RelDs K F H xs vs → RelDs K F H ys ws → RelDs K F H (xs ++ ys) (vs ++ ws)
  | [], ys, vs, ws, h, h' => by
    have e : vs = [] := h
    subst e
    exact h'
  | x :: xs, ys, _, ws, ⟨v, r, rfl, h, t⟩, h' => ⟨v, r ++ ws, rfl, h, RelDs.append t h'⟩
theorem RelDs.take : ∀ (n : Nat) {xs : List D} {vs : List V}, RelDs K F H xs vs → RelDs K F H (xs.take n) (vs.take n)
  | 0, xs, vs, _ => by simp [RelDs]
  | n + 1, [], vs, h => by
    have e : vs = [] := h
    subst e
    exact h
  | n + 1, x :: xs, _, ⟨v, r, rfl, h, t⟩ => ⟨v, r.take n, rfl, h, RelDs.take n t⟩
theorem RelDs.drop : ∀ (n : Nat) {xs : List D} {vs : List V}, RelDs K F H xs vs → RelDs K F H (xs.drop n) (vs.drop n)
  | 0, xs, vs, h => h
  | n + 1, [], vs, h => by
    have e : vs = [] := h
    subst e
    exact h
  | n + 1, x :: xs, _, ⟨v, r, rfl, h, t⟩ => RelDs.drop n t
theorem RelDs.get {xs : List D} {vs : List V} {i : Nat} {d : D} (h : RelDs K F H xs vs) (e : xs[i]? = some d) : ∃ v, vs[i]? = some v ∧ RelD K F H d v := h.start i d e
theorem RelDs.ints : ∀ {ns : List Int} {vs : List V}, RelDs K F H (ns.map .int) vs → vs = ns.map V.int
  | [], _, h => h
  | n :: ns, _, ⟨v, r, rfl, h, t⟩ => by
    have e : v = .int n := h
    rw [List.map_cons, e, RelDs.ints t]
theorem RelDs.bls : ∀ {ns : List Bool} {vs : List V}, RelDs K F H (ns.map .bl) vs → vs = ns.map V.bl
  | [], _, h => h
  | n :: ns, _, ⟨v, r, rfl, h, t⟩ => by
    have e : v = .bl n := h
    rw [List.map_cons, e, RelDs.bls t]
theorem RelDs.strs : ∀ {ns : List String} {vs : List V}, RelDs K F H (ns.map .str) vs → vs = ns.map fun s => V.str (S s)
  | [], _, h => h
  | n :: ns, _, ⟨v, r, rfl, h, t⟩ => by
    have e : v = .str (S n) := h
    rw [List.map_cons, e, RelDs.strs t]
theorem relDs_ints : ∀ (ns : List Int), RelDs K F H (ns.map .int) (ns.map V.int)
  | [] => rfl
  | n :: ns => ⟨_, _, rfl, rfl, relDs_ints ns⟩
theorem asQ_ok {d : D} {v : V} {xs : List D} (hg : RelG K T F G H) (r : RelD K F H d v) (e : asQ G d = some xs) : ∃ a vs, v = .ref a ∧ (SqL K H a vs ∨ SqT K H a vs) ∧ RelDs K F H xs vs := by
  cases d with
  | tup ys =>
    cases e
    obtain ⟨a, vs, ev, h, rs⟩ := r
    exact ⟨a, vs, ev, .inr h.sq, rs⟩
  | scr ns =>
    cases e
    obtain ⟨a, ev, h⟩ := r
    exact ⟨a, _, ev, .inl (h.imp (fun h => h.1.rd) id), relDs_ints ns⟩
  | lst ys =>
    obtain ⟨a, vs, ev, h, rs⟩ := asL_ok hg r e
    exact ⟨a, vs, ev, .inl (.inl h), rs⟩
  | ref b =>
    obtain ⟨a, vs, ev, h, rs⟩ := asL_ok hg r e
    exact ⟨a, vs, ev, .inl (.inl h), rs⟩
  | _ => cases e
end
theorem S_len (s : String) : (S s).length = s.length := by
  unfold S Str.length
  rw [Str.ofString_eq_toList]
  simp [String.length_toList]
theorem S_cps (s : String) : (S s).cps.toList = s.toList.map Char.toNat := by
  unfold S
  rw [Str.ofString_eq_toList]
theorem S_app (s t : String) : S (s ++ t) = S s ++ S t := by
  show Str.ofString (s ++ t) = ⟨(Str.ofString s).cps ++ (Str.ofString t).cps⟩
  rw [Str.ofString_eq_toList, Str.ofString_eq_toList, Str.ofString_eq_toList]
  simp
theorem S_inj {s t : String} (h : S s = S t) : s = t := by
  have e := congrArg (fun z : Str => z.cps.toList) h
  simp only [S_cps] at e
  have e2 : s.toList = t.toList := by
    have := List.map_inj_right (f := Char.toNat) (fun a b q => Char.ext (UInt32.toNat_inj.mp q)) |>.mp e
    exact this
  exact String.toList_inj.mp e2
theorem S_beq (s t : String) : (S s == S t) = (s == t) := by
  by_cases h : s = t
  · subst h; simp
  · have h' : S s ≠ S t := fun e => h (S_inj e)
    rw [beq_eq_false_iff_ne.mpr h, beq_eq_false_iff_ne.mpr h']
theorem S_dec (s t : String) : decide (S s = S t) = decide (s = t) := by
  by_cases h : s = t
  · subst h; simp
  · have h' : S s ≠ S t := fun e => h (S_inj e)
    rw [decide_eq_false h, decide_eq_false h']
end DL

namespace DL
open PySem PySem.Spec PyProof.Rows L2
variable {T : LT}
/-! ### operators by values -/
def pyAdd (G : DG) (x y : D) : Option D := match x, y with
  | .int i, .int j => some (.int (i + j))
  | .str s, .str t => if s.length + t.length ≤ 16000000 then some (.str (s ++ t)) else none
  | .tup xs, .tup ys => if xs.length + ys.length ≤ 16000000 then some (.tup (xs ++ ys)) else none
  | x, y => match asL G x, asL G y with
    | some xs, some ys => if xs.length + ys.length ≤ 16000000 then some (.lst (xs ++ ys)) else none
    | _, _ => none
def mulOk (i j : Int) : Bool := decide (i.natAbs < 2 ^ 64) || decide (j.natAbs < 2 ^ 64) || (decide (i.natAbs < 2 ^ 600) && decide (j.natAbs < 2 ^ 600))
def pyMul (G : DG) (x y : D) : Option D := match x, y with
  | .int i, .int j => if mulOk i j = true then some (.int (i * j)) else none
  | .tup xs, .int k => if -10000 ≤ k ∧ k ≤ 1000 ∧ xs.length ≤ 1000 ∧ xs ≠ [] then some (.tup (List.replicate k.toNat xs).flatten) else none
  | x, .int k => match asL G x with
    | some xs => if k ≤ 10000 ∧ xs.length ≤ 1000 ∧ -10000 ≤ k then some (.lst (List.replicate k.toNat xs).flatten) else none
    | _ => none
  | _, _ => none
def pyMod (_ : DG) (x y : D) : Option D := match x, y with
  | .int i, .int j => if 0 < j then some (.int (i % j)) else none
  | _, _ => none
def pyDiv (_ : DG) (x y : D) : Option D := match x, y with
  | .int i, .int j => if 0 < j ∧ j < 2 ^ 600 then some (.int (i / j)) else none
  | _, _ => none
def pyPow (_ : DG) (x y : D) : Option D := match x, y with
  | .int i, .int j => if 0 ≤ j ∧ j ≤ 1000 ∧ i.natAbs < 2 ^ 60 then some (.int (i ^ j.toNat)) else none
  | _, _ => none
def pyNeg (_ : DG) (x : D) : Option D := match x with
  | .int i => some (.int (-i))
  | _ => none
section
variable {X : Cx}
theorem Inv.lstR {pins : List (Addr × Obj)} {σ : L2.St} {H : Hp} {s : Shared} {l : Addr} {xs : List V} (I : Inv X pins σ H s) (h : Rd H l (.lst xs)) :
    xs.length ≤ sizeLine ∧ ∃ (its : List Value) (n : Nat), Vals xs its ∧ xs.length = its.length ∧ s.heap.get? l = some { cls := .type "list", data := .seq its.toArray n } := by
  obtain ⟨z, its, n, r, e⟩ := h.ok I.hok
  exact ⟨z, its, n, r, r.length, e⟩
theorem op_catR : OpR X (binaryOp .Add) (fun x y H Q => ∃ l b xs zs, x = .ref l ∧ y = .ref b ∧ Rd H l (.lst xs) ∧ Rd H b (.lst zs) ∧ xs.length + zs.length ≤ sizeLine ∧ ∀ p, H p = none → Q (.ref p) (upd H p (.lst (xs ++ zs)))) := by
  intro pins s σ H x y v u Q I rx ry h
  obtain ⟨l, b, xs, zs, rfl, rfl, hH, hB, hz, q⟩ := h
  cases rx
  cases ry
  obtain ⟨z, its, n, r, hl, e⟩ := Inv.lstR I hH
  obtain ⟨z2, its2, n2, r2, hl2, e2⟩ := Inv.lstR I hB
  refine PySem.P.add_list e e2 ?_ (by rw [List.size_toArray, List.size_toArray]; omega)
  have ea : its.toArray ++ its2.toArray = (its ++ its2).toArray := by simp
  rw [ea]
  exact ⟨.ref _, _, I.lnew (t' := s.toks) (r.append r2) (by rw [List.length_append]; omega), rfl, q _ I.fresh⟩
theorem op_pyAdd : OpR X (binaryOp .Add) (rD X.K T pyAdd) := by
  intro pins s σ H x y v u Q I rx ry ⟨F, G, dx, dy, z, hg, r1, r2, e, q⟩
  unfold pyAdd at e
  split at e
  · cases e
    exact op_add pins s σ H x y v u Q I rx ry ⟨_, _, r1, r2, q _ _ H Step.refl hg rfl⟩
  · rename_i a b
    split at e
    · rename_i hl
      cases e
      exact op_add_str pins s σ H x y v u Q I rx ry ⟨_, _, r1, r2, by rw [S_len, S_len]; exact small_line hl, q _ _ H Step.refl hg (show _ = V.str (S (a ++ b)) by rw [S_app])⟩
    · cases e
  · rename_i xs ys
    split at e
    · rename_i hl
      cases e
      obtain ⟨a, vs, e1, t1, k1⟩ := r1
      obtain ⟨b, ws, e2, t2, k2⟩ := r2
      have hl' : vs.length + ws.length ≤ sizeLine := by rw [← k1.length, ← k2.length]; exact small_line hl
      refine op_catA pins s σ H x y v u Q I rx ry ⟨a, b, vs, ws, e1, e2, t1.sq, t2.sq, hl', fun h0 => ?_, fun _ h0 => ?_, fun _ _ p hp => ?_⟩
      · refine q _ _ H Step.refl hg ⟨b, ws, rfl, t2, ?_⟩
        have := k1.append k2
        rw [h0] at this
        exact this
      · refine q _ _ H Step.refl hg ⟨a, vs, rfl, t1, ?_⟩
        have := k1.append k2
        rw [h0, List.append_nil] at this
        exact this
      · exact q _ _ _ (Step.new hp) (hg.new hp) (relD_newTup hg hp (k1.append k2))
    · cases e
  · split at e
    · rename_i xs ys ex ey
      split at e
      · rename_i hl
        cases e
        obtain ⟨a, vs, e1, t1, k1⟩ := asL_ok hg r1 ex
        obtain ⟨b, ws, e2, t2, k2⟩ := asL_ok hg r2 ey
        have hl' : vs.length + ws.length ≤ sizeLine := by rw [← k1.length, ← k2.length]; exact small_line hl
        exact op_catR pins s σ H x y v u Q I rx ry ⟨a, b, vs, ws, e1, e2, t1, t2, hl', fun p hp => q _ _ _ (Step.new hp) (hg.new hp) (relD_newLst hg hp (k1.append k2))⟩
      · cases e
    · cases e
theorem op_pyMod : OpR X (binaryOp .Mod) (rD X.K T pyMod) := by
  intro pins s σ H x y v u Q I rx ry ⟨F, G, dx, dy, z, hg, r1, r2, e, q⟩
  unfold pyMod at e
  split at e
  · split at e
    · rename_i hj
      cases e
      exact op_mod pins s σ H x y v u Q I rx ry ⟨_, _, r1, r2, hj, q _ _ H Step.refl hg rfl⟩
    · cases e
  · cases e
theorem op_pyPow : OpR X (binaryOp .Pow) (rD X.K T pyPow) := by
  intro pins s σ H x y v u Q I rx ry ⟨F, G, dx, dy, z, hg, r1, r2, e, q⟩
  unfold pyPow at e
  split at e
  · split at e
    · rename_i hj
      cases e
      exact op_pow pins s σ H x y v u Q I rx ry ⟨_, _, r1, r2, ⟨hj.1, by omega, by omega⟩, q _ _ H Step.refl hg rfl⟩
    · cases e
  · cases e
theorem un_pyNeg : UnR X (unaryOp .USub) (rD1 X.K T pyNeg) := by
  intro pins s σ H x v Q I rx ⟨F, G, dx, z, hg, r1, e, q⟩
  unfold pyNeg at e
  split at e
  · cases e
    exact un_neg pins s σ H x v Q I rx ⟨_, r1, q _ _ H Step.refl hg rfl⟩
  · cases e
end
end DL

namespace DL
open PySem PySem.Spec PyProof.Rows L2
variable {T : LT}
theorem tmul_one (l : Addr) (items : Array Value) (n : Nat) (dd : Option Addr) (sl : Array (Option Value)) (x : Int) (u : Tok) (c0 : (decide (x < -(2 ^ 63)) || decide (x ≥ 2 ^ 63)) = false) (c1 : (items.isEmpty || x == 1) = true) :
    Meets (Builtin.«tuple.__mul__» ⟨[.ref l, .int x u], []⟩) (fun _ R s => s.heap.get? l = some { cls := .type "tuple", dict := dd, data := .seq items n, slots := sl } ∧ R (.ok (.ret (Value.ref l))) s) :=
  .of_wp fun prog w A R s h => by
    obtain ⟨hp, g, d, tk, os⟩ := s
    obtain ⟨hl, h⟩ := h
    have f1 := AutoSeq1.idx_int
    wp_walk using wpAny_loadPart' hl
    repeat (first
      | (refine wpAny_ite_false (decide_eq_false (by rw [c0]; exact Bool.false_ne_true)) ?_; wp_walk using wpAny_loadPart' hl)
      | (refine wpAny_ite_true (decide_eq_true c1) ?_; wp_walk using wpAny_loadPart' hl))
    exact ⟨_, rfl, h⟩
theorem tmul_no (l : Addr) (items : Array Value) (n : Nat) (dd : Option Addr) (sl : Array (Option Value)) (x : Int) (u : Tok) (c0 : (decide (x < -(2 ^ 63)) || decide (x ≥ 2 ^ 63)) = false) (c1 : (items.isEmpty || x == 1) = false) (c2 : (decide (x ≤ 0) || items.isEmpty) = true) :
    Meets (Builtin.«tuple.__mul__» ⟨[.ref l, .int x u], []⟩) (fun _ R s => s.heap.get? l = some { cls := .type "tuple", dict := dd, data := .seq items n, slots := sl } ∧
      R (.ok (.ret (Value.ref s.heap.objs.size))) { s with heap := s.heap.push { cls := Value.type "tuple", data := Data.seq #[] }, toks := s.toks }) :=
  .of_wp fun prog w A R s h => by
    obtain ⟨hp, g, d, tk, os⟩ := s
    obtain ⟨hl, h⟩ := h
    have f1 := AutoSeq1.idx_int
    have hz : (#[] : Array Value).size ≤ sizeLine := Nat.zero_le _
    wp_walk using wpAny_loadPart' hl
    repeat (first
      | (refine wpAny_ite_false (decide_eq_false (by rw [c0]; exact Bool.false_ne_true)) ?_; wp_walk using wpAny_loadPart' hl)
      | (refine wpAny_ite_false (decide_eq_false (by rw [c1]; exact Bool.false_ne_true)) ?_; wp_walk using wpAny_loadPart' hl)
      | (refine wpAny_ite_true (decide_eq_true c2) ?_; wp_walk using wpAny_loadPart' hl)
      | (refine wpAny_ite_false (decide_eq_false (Nat.not_lt.mpr hz)) ?_; wp_walk using wpAny_loadPart' hl))
    exact ⟨_, rfl, h⟩
section
variable {X : Cx}
theorem op_repR : OpR X (binaryOp .Mult) (fun x y H Q => ∃ l k xs, x = .ref l ∧ y = .int k ∧ Rd H l (.lst xs) ∧ -(2 ^ 63) ≤ k ∧ k < 2 ^ 63 ∧ xs.length * k.toNat ≤ sizeLine ∧
  ∀ p, H p = none → Q (.ref p) (upd H p (.lst (List.replicate k.toNat xs).flatten))) := by
  intro pins s σ H x y v u Q I rx ry ⟨l, k, xs, ex, ey, hR, lo, hi, small, q⟩
  subst ex ey
  obtain ⟨t, rfl⟩ := ry
  cases rx
  obtain ⟨_, its, n, rv, len, obj⟩ := Inv.lstR I hR
  have sz : its.toArray.size * k.toNat ≤ sizeLine := by simpa [← len] using small
  have top : (sizeLine : Nat) ≤ (2 ^ 63 - 1) / 8 := by decide
  have all : List.foldl (· ++ ·) #[] (List.replicate (if its.toArray.isEmpty = true then 0 else k.toNat) its.toArray) = (List.replicate k.toNat its).flatten.toArray := by
    have f0 := fun m => foldl_rep its m []
    simp only [List.nil_append] at f0
    rw [f0]
    cases its <;> simp
  have go := AutoListH.list___mul___list_int_3 l its.toArray n k t (by rw [fitsIndex_both lo hi]; decide) (by omega) (by rw [notLongL sz]; decide)
  refine wpAny_binaryOp_repeat_ref (T := "list") (U := "int") (by decide) ⟨_, obj, rfl⟩ (fun s' => typeIs_int s' k t) noFill_list_mul F.fills_int_mul F.slot_int_rmul repeat_list F.slot_int_index.lookup ?_
  refine call_meets F.slot_int_rmul (typeIs_int s k t) F.entry_int_rmul (F.args_int_rmul_2 _ _) (int___rmul___int_list k t l its.toArray n) ⟨obj, rfl, ⟨_, obj, rfl⟩, ?_⟩
  refine call_meets F.slot_list_mul ⟨_, obj, rfl⟩ F.entry_list_mul (F.args_list_mul_2 _ _) go ⟨obj, ?_⟩
  rw [all]
  exact ⟨.ref _, _, I.lnew (t' := s.toks) (rv.rep k.toNat) (by rw [PyProof.Rows.lm_len_rep_flat, Nat.mul_comm]; exact small), rfl, q _ I.fresh⟩
theorem relDs_flat {K : PySem.W.Frag} {F : FS} {H : Hp} {xs : List D} {vs : List V} (r : RelDs K F H xs vs) : ∀ n : Nat, RelDs K F H (List.replicate n xs).flatten (List.replicate n vs).flatten
  | 0 => rfl
  | n + 1 => by
    simp only [List.replicate_succ, List.flatten_cons]
    exact r.append (relDs_flat r n)
theorem bits64 {i : Int} (h : i.natAbs < 2 ^ 64) : Builtin.Int.intBits i ≤ 64 := by
  unfold Builtin.Int.intBits
  split
  · omega
  · rename_i hne
    have hz : i.natAbs ≠ 0 := by simpa using hne
    have := (Nat.log2_lt hz).mpr h
    omega
theorem op_mulA : OpR X (binaryOp .Mult) (rI IntMulOk fun i j => .int (i * j)) := opI fun _ _ _ _ _ _ _ hc q => mul_int q hc
theorem op_mulT : OpR X (binaryOp .Mult) (fun x y H Q => ∃ l k xs, x = .ref l ∧ y = .int k ∧ SqT X.K H l xs ∧ xs ≠ [] ∧ -10000 ≤ k ∧ k ≤ 1 ∧ (k = 1 → Q (.ref l) H) ∧ (k ≤ 0 → ∀ p, H p = none → Q (.ref p) (upd H p (.tup [])))) := by
  intro pins s σ H x y v u Q I rx ry h
  obtain ⟨l, k, xs, rfl, rfl, hT, hne, h1, h2, q1, q0⟩ := h
  cases rx
  obtain ⟨t, rfl⟩ := ry
  obtain ⟨its, r, ⟨⟨cls, dd, data, sl⟩, ho, hc, n, hd⟩, hs⟩ := I.tuple hT
  simp only at hc hd
  subst hc hd
  have hi : its.toArray.isEmpty = false := by
    cases its with
    | nil => exact absurd (List.eq_nil_of_length_eq_zero r.length) hne
    | cons a b => rfl
  have c0 : (decide (k < -(2 ^ 63)) || decide (k ≥ 2 ^ 63)) = false := by
    rw [decide_eq_false (by omega), decide_eq_false (by omega)]
    rfl
  by_cases hk : k = 1
  · have c1 : (its.toArray.isEmpty || k == 1) = true := by rw [hi, hk]; rfl
    exact wpAny_binaryOp_repeat_ref (T := "tuple") (U := "int") (by decide) ⟨_, ho, rfl⟩ (fun s' => typeIs_int s' k t) noFill_tuple_mul F.fills_int_mul F.slot_int_rmul repeat_tuple F.slot_int_index.lookup
      (call_meets F.slot_int_rmul (typeIs_int s k t) F.entry_int_rmul (F.args_int_rmul_2 _ _) (int_rmul_tuple k t l its.toArray n dd sl) ⟨ho, rfl, ⟨_, ho, rfl⟩, call_meets F.slot_tuple_mul ⟨_, ho, rfl⟩ F.entry_tuple_mul (F.args_tuple_mul_2 _ _) (tmul_one l its.toArray n dd sl k t c0 c1) ⟨ho, .ref l, H, I, rfl, q1 hk⟩⟩)
  · have c1 : (its.toArray.isEmpty || k == 1) = false := by
      rw [hi, Bool.false_or]
      exact beq_eq_false_iff_ne.mpr hk
    have c2 : (decide (k ≤ 0) || its.toArray.isEmpty) = true := by rw [decide_eq_true (by omega)]; rfl
    exact wpAny_binaryOp_repeat_ref (T := "tuple") (U := "int") (by decide) ⟨_, ho, rfl⟩ (fun s' => typeIs_int s' k t) noFill_tuple_mul F.fills_int_mul F.slot_int_rmul repeat_tuple F.slot_int_index.lookup
      (call_meets F.slot_int_rmul (typeIs_int s k t) F.entry_int_rmul (F.args_int_rmul_2 _ _) (int_rmul_tuple k t l its.toArray n dd sl) ⟨ho, rfl, ⟨_, ho, rfl⟩, call_meets F.slot_tuple_mul ⟨_, ho, rfl⟩ F.entry_tuple_mul (F.args_tuple_mul_2 _ _) (tmul_no l its.toArray n dd sl k t c0 c1 c2)
        ⟨ho, .ref s.heap.objs.size, _, I.laid (t' := s.toks) (o := .tup []) (fun b ob q => Heap.get?_push_of_some _ q) (Nat.le_refl _) ⟨Nat.zero_le _, [], .nil, IsTup.new _ _⟩, rfl, q0 (by omega) _ (I.hok.fresh (Nat.le_refl _))⟩⟩)
theorem op_pyMul : OpR X (binaryOp .Mult) (rD X.K T pyMul) := by
  intro pins s σ H x y v u Q I rx ry ⟨F, G, dx, dy, z, hg, r1, r2, e, q⟩
  unfold pyMul at e
  split at e
  · rename_i i j
    split at e
    · rename_i hj
      cases e
      unfold mulOk at hj
      simp only [Bool.or_eq_true, Bool.and_eq_true, decide_eq_true_eq] at hj
      rcases hj with (hj | hj) | hj
      · exact op_mulA pins s σ H x y v u Q I rx ry ⟨_, _, r1, r2, .of_left (bits64 hj), q _ _ H Step.refl hg rfl⟩
      · exact op_mulA pins s σ H x y v u Q I rx ry ⟨_, _, r1, r2, .of_right (bits64 hj), q _ _ H Step.refl hg rfl⟩
      · exact op_mulW pins s σ H x y v u Q I rx ry ⟨_, _, r1, r2, wide_mul hj.1 hj.2 (by decide) (by decide) (by decide), q _ _ H Step.refl hg rfl⟩
    · cases e
  · rename_i xs k
    split at e
    · rename_i hj
      cases e
      obtain ⟨a, vs, e1, t1, k1⟩ := r1
      have hv : vs ≠ [] := by
        intro z
        rw [z] at k1
        exact hj.2.2.2 (List.eq_nil_of_length_eq_zero k1.length)
      by_cases h2 : 2 ≤ k
      · exact op_repT pins s σ H x y v u Q I rx ry ⟨a, k, vs, e1, r2, t1.sq, hv, h2, hj.2.1, by rw [← k1.length]; exact hj.2.2.1, fun p hp => q _ _ _ (Step.new hp) (hg.new hp) (relD_newTup hg hp (relDs_flat k1 _))⟩
      · refine op_mulT pins s σ H x y v u Q I rx ry ⟨a, k, vs, e1, r2, t1.sq, hv, hj.1, by omega, fun h1 => ?_, fun h0 p hp => ?_⟩
        · refine q _ _ H Step.refl hg ⟨a, vs, rfl, t1, ?_⟩
          rw [h1]
          simpa using k1
        · refine q _ _ _ (Step.new hp) (hg.new hp) ?_
          rw [show k.toNat = 0 by omega]
          exact relD_newTup hg hp (ds := []) rfl
    · cases e
  · rename_i x k _ _
    split at e
    · rename_i xs ex
      split at e
      · rename_i hj
        cases e
        obtain ⟨a, vs, e1, t1, k1⟩ := asL_ok hg r1 ex
        refine op_repR pins s σ H _ y v u Q I rx ry ⟨a, k, vs, e1, r2, t1, by omega, by omega, ?_, fun p hp => q _ _ _ (Step.new hp) (hg.new hp) (relD_newLst hg hp (relDs_flat k1 _))⟩
        rw [← k1.length]
        have h1 : k.toNat ≤ 10000 := by omega
        exact Nat.le_trans (Nat.mul_le_mul hj.2.1 h1) (by decide)
      · cases e
    · cases e
  · cases e
theorem op_pyDiv : OpR X (binaryOp .FloorDiv) (rD X.K T pyDiv) := by
  intro pins s σ H x y v u Q I rx ry ⟨F, G, dx, dy, z, hg, r1, r2, e, q⟩
  unfold pyDiv at e
  split at e
  · rename_i i j
    split at e
    · rename_i hj
      cases e
      have hb : j.natAbs < 2 ^ 600 := by omega
      exact op_fdivW pins s σ H x y v u Q I rx ry ⟨_, _, r1, r2, wide_div hj.1 hb (by decide) (by decide), q _ _ H Step.refl hg rfl⟩
    · cases e
  · cases e
end
/-! ### comparisons -/
def strLt (s t : String) : Bool := decide (s.toList.map Char.toNat < t.toList.map Char.toNat)
def pyLt (_ : DG) (x y : D) : Option D := match x, y with
  | .int i, .int j => some (.bl (decide (i < j)))
  | .str s, .str t => some (.bl (strLt s t))
  | _, _ => none
def pyGt (_ : DG) (x y : D) : Option D := match x, y with
  | .int i, .int j => some (.bl (decide (j < i)))
  | .str s, .str t => some (.bl (strLt t s))
  | _, _ => none
def pyLe (_ : DG) (x y : D) : Option D := match x, y with
  | .int i, .int j => some (.bl (decide (i ≤ j)))
  | .str s, .str t => some (.bl (!strLt t s))
  | _, _ => none
def pyGe (_ : DG) (x y : D) : Option D := match x, y with
  | .int i, .int j => some (.bl (decide (j ≤ i)))
  | .str s, .str t => some (.bl (!strLt s t))
  | _, _ => none
def isNon : D → Bool
  | .non => true
  | _ => false
def pyIsNot (_ : DG) (x y : D) : Option D := match x, y with
  | x, .non => some (.bl (!isNon x))
  | .bl a, .bl b => some (.bl (!(a == b)))
  | _, _ => none
section
variable {X : Cx}
theorem op_pyLt : OpR X (compareOp .Lt) (rD X.K T pyLt) := by
  intro pins s σ H x y v u Q I rx ry ⟨F, G, dx, dy, z, hg, r1, r2, e, q⟩
  unfold pyLt at e
  split at e
  · cases e
    exact op_lt pins s σ H x y v u Q I rx ry ⟨_, _, r1, r2, q _ _ H Step.refl hg rfl⟩
  · cases e
    exact op_lt_str pins s σ H x y v u Q I rx ry ⟨_, _, r1, r2, by rw [S_cps, S_cps]; exact q _ _ H Step.refl hg rfl⟩
  · cases e
theorem op_pyGt : OpR X (compareOp .Gt) (rD X.K T pyGt) := by
  intro pins s σ H x y v u Q I rx ry ⟨F, G, dx, dy, z, hg, r1, r2, e, q⟩
  unfold pyGt at e
  split at e
  · cases e
    exact op_gt pins s σ H x y v u Q I rx ry ⟨_, _, r1, r2, q _ _ H Step.refl hg rfl⟩
  · cases e
    exact op_gt_str pins s σ H x y v u Q I rx ry ⟨_, _, r1, r2, by rw [S_cps, S_cps]; exact q _ _ H Step.refl hg rfl⟩
  · cases e
theorem op_pyLe : OpR X (compareOp .LtE) (rD X.K T pyLe) := by
  intro pins s σ H x y v u Q I rx ry ⟨F, G, dx, dy, z, hg, r1, r2, e, q⟩
  unfold pyLe at e
  split at e
  · cases e
    exact op_le pins s σ H x y v u Q I rx ry ⟨_, _, r1, r2, q _ _ H Step.refl hg rfl⟩
  · cases e
    exact op_le_str pins s σ H x y v u Q I rx ry ⟨_, _, r1, r2, by rw [S_cps, S_cps]; exact q _ _ H Step.refl hg rfl⟩
  · cases e
theorem op_pyGe : OpR X (compareOp .GtE) (rD X.K T pyGe) := by
  intro pins s σ H x y v u Q I rx ry ⟨F, G, dx, dy, z, hg, r1, r2, e, q⟩
  unfold pyGe at e
  split at e
  · cases e
    exact op_ge pins s σ H x y v u Q I rx ry ⟨_, _, r1, r2, q _ _ H Step.refl hg rfl⟩
  · cases e
    exact op_ge_str pins s σ H x y v u Q I rx ry ⟨_, _, r1, r2, by rw [S_cps, S_cps]; exact q _ _ H Step.refl hg rfl⟩
  · cases e
theorem relD_non {K : PySem.W.Frag} {F : FS} {H : Hp} {d : D} {v : V} (r : RelD K F H d v) : decide (v = V.non) = isNon d := by
  cases d with
  | non => rw [show v = V.non from r]; rfl
  | bl b => rw [show v = V.bl b from r]; rfl
  | int b => rw [show v = V.int b from r]; rfl
  | str b => rw [show v = V.str (S b) from r]; rfl
  | tup b => obtain ⟨a, vs, e, _⟩ := r; rw [e]; rfl
  | lst b => obtain ⟨a, vs, e, _⟩ := r; rw [e]; rfl
  | dct b => obtain ⟨a, vs, e, _⟩ := r; rw [e]; rfl
  | ref b => rw [show v = V.ref b from r]; rfl
  | scr b => obtain ⟨a, e, _⟩ := r; rw [e]; rfl
theorem op_pyIsNot : OpR X (compareOp .IsNot) (rD X.K T pyIsNot) := by
  intro pins s σ H x y v u Q I rx ry ⟨F, G, dx, dy, z, hg, r1, r2, e, q⟩
  unfold pyIsNot at e
  split at e
  · cases e
    exact op_notN pins s σ H x y v u Q I rx ry ⟨r2, by rw [relD_non r1]; exact q _ _ H Step.refl hg rfl⟩
  · rename_i a b
    cases e
    exact op_isnot_bl pins s σ H x y v u Q I rx ry ⟨_, _, r1, r2, q _ _ H Step.refl hg (by rw [Bool.beq_eq_decide_eq]; rfl)⟩
  · cases e
end
end DL

namespace DL
open PySem PySem.Spec PyProof.Rows L2
variable {T : LT}
/-! ### == -/
def mapO {α β : Type} (f : α → Option β) : List α → Option (List β)
  | [] => some []
  | x :: xs => match f x, mapO f xs with
    | some y, some ys => some (y :: ys)
    | _, _ => none
def toPy (G : DG) : Nat → D → Option PyData
  | _, .non => some .none
  | _, .bl b => some (.bool b)
  | _, .int i => some (.int i)
  | _, .str s => some (.str (S s))
  | n + 1, .tup xs => (mapO (toPy G n) xs).map .tuple
  | n + 1, .lst xs => (mapO (toPy G n) xs).map .list
  | n + 1, .scr ns => (mapO (toPy G n) (ns.map .int)).map .list
  | n + 1, .ref a => match lstO (G a) with
    | some xs => (mapO (toPy G n) xs).map .list
    | none => none
  | _, _ => none
theorem strOk_S (s : String) : PyData.strOk (S s) = true := by
  unfold PyData.strOk
  rw [← Array.all_toList, S_cps, List.all_map, List.all_eq_true]
  intro c _
  have h := c.valid
  simp only [UInt32.isValidChar, Nat.isValidChar] at h
  simp only [Function.comp_apply, decide_eq_true_eq]
  show c.val.toNat < 0x110000
  omega
section
variable {K : PySem.W.Frag} {F : FS} {G : DG} {H : Hp}
theorem toPys_ok {n : Nat} (ih : ∀ d v y, RelD K F H d v → toPy G n d = some y → Dp K H v y ∧ y.canLay0 = true ∧ y.depth ≤ n) : ∀ (xs : List D) (vs : List V) (ys : List PyData), RelDs K F H xs vs → mapO (toPy G n) xs = some ys →
    DpAll K H vs ys ∧ PyData.canLayAll0 ys = true ∧ PyData.depthAll ys ≤ n
  | [], vs, ys, h, e => by
    have e1 : vs = [] := h
    cases e
    subst e1
    exact ⟨.nil, by simp [PyData.canLayAll0], by simp [PyData.depthAll]⟩
  | x :: xs, _, ys, ⟨v, r, rfl, h, t⟩, e => by
    unfold mapO at e
    split at e
    · rename_i y ys' e1 e2
      cases e
      obtain ⟨a1, a2, a3⟩ := ih x v y h e1
      obtain ⟨b1, b2, b3⟩ := toPys_ok ih xs r ys' t e2
      exact ⟨.cons a1 b1, by simp [PyData.canLayAll0, a2, b2], by simp only [PyData.depthAll]; omega⟩
    · cases e
theorem toPy_ok (hg : RelG K T F G H) : ∀ (n : Nat) (d : D) (v : V) (y : PyData), RelD K F H d v → toPy G n d = some y → Dp K H v y ∧ y.canLay0 = true ∧ y.depth ≤ n := by
  intro n
  induction n with
  | zero =>
    intro d v y r e
    cases d with
    | non => cases e; rw [show v = V.non from r]; exact ⟨.non, by simp [PyData.canLay0], by simp [PyData.depth]⟩
    | bl b => cases e; rw [show v = V.bl b from r]; exact ⟨.bl b, by simp [PyData.canLay0], by simp [PyData.depth]⟩
    | int b => cases e; rw [show v = V.int b from r]; exact ⟨.int b, by simp [PyData.canLay0], by simp [PyData.depth]⟩
    | str b => cases e; rw [show v = V.str (S b) from r]; exact ⟨.str _, by simp [PyData.canLay0, strOk_S], by simp [PyData.depth]⟩
    | _ => cases e
  | succ n ih =>
    intro d v y r e
    cases d with
    | non => cases e; rw [show v = V.non from r]; exact ⟨.non, by simp [PyData.canLay0], by simp [PyData.depth]⟩
    | bl b => cases e; rw [show v = V.bl b from r]; exact ⟨.bl b, by simp [PyData.canLay0], by simp [PyData.depth]⟩
    | int b => cases e; rw [show v = V.int b from r]; exact ⟨.int b, by simp [PyData.canLay0], by simp [PyData.depth]⟩
    | str b => cases e; rw [show v = V.str (S b) from r]; exact ⟨.str _, by simp [PyData.canLay0, strOk_S], by simp [PyData.depth]⟩
    | tup xs =>
      obtain ⟨ys, e1, rfl⟩ := Option.map_eq_some_iff.mp e
      obtain ⟨a, vs, rfl, t, k⟩ := r
      obtain ⟨b1, b2, b3⟩ := toPys_ok ih xs vs ys k e1
      exact ⟨.tup t.sq b1, by simpa [PyData.canLay0] using b2, by simp only [PyData.depth]; omega⟩
    | lst xs =>
      obtain ⟨ys, e1, rfl⟩ := Option.map_eq_some_iff.mp e
      obtain ⟨a, vs, rfl, t, k⟩ := r
      obtain ⟨b1, b2, b3⟩ := toPys_ok ih xs vs ys k e1
      exact ⟨.lst (.inl t.1.rd) b1, by simpa [PyData.canLay0] using b2, by simp only [PyData.depth]; omega⟩
    | scr ns =>
      obtain ⟨ys, e1, rfl⟩ := Option.map_eq_some_iff.mp e
      obtain ⟨a, rfl, h⟩ := r
      obtain ⟨b1, b2, b3⟩ := toPys_ok ih (ns.map .int) (ns.map V.int) ys (relDs_ints ns) e1
      exact ⟨.lst (h.imp (fun h => h.1.rd) id) b1, by simpa [PyData.canLay0] using b2, by simp only [PyData.depth]; omega⟩
    | ref a =>
      have ev : v = V.ref a := r
      subst ev
      unfold toPy at e
      split at e
      · rename_i xs q
        obtain ⟨ys, e1, rfl⟩ := Option.map_eq_some_iff.mp e
        obtain ⟨vs, h, k⟩ := hg.ob a _ (lstO_eq q)
        obtain ⟨b1, b2, b3⟩ := toPys_ok ih xs vs ys k e1
        exact ⟨.lst (.inl (.inl h)) b1, by simpa [PyData.canLay0] using b2, by simp only [PyData.depth]; omega⟩
      · cases e
    | _ => cases e
end
def pyEqB (G : DG) (x y : D) : Option Bool := match x, y with
  | .int i, .int j => some (decide (i = j))
  | .str s, .str t => some (decide (s = t))
  | x, y => match toPy G 40 x, toPy G 40 y with
    | some d, some e => some (PyData.eqv d e)
    | _, _ => none
def pyEq (G : DG) (x y : D) : Option D := (pyEqB G x y).map .bl
def pyNe (G : DG) (x y : D) : Option D := (pyEqB G x y).map fun b => .bl (!b)
section
variable {X : Cx}
theorem shaped_of {d : PyData} (h1 : d.canLay0 = true) (h2 : d.depth ≤ 40) : SeqAt.shaped d = true := by
  unfold SeqAt.shaped
  rw [h1, decide_eq_true (by omega)]
  rfl
theorem op_pyEq (hu : X.A.units + 64 < cLine) : OpR X (compareOp .Eq) (rD X.K T pyEq) := by
  intro pins s σ H x y v u Q I rx ry ⟨F, G, dx, dy, z, hg, r1, r2, e, q⟩
  obtain ⟨b, e', rfl⟩ := Option.map_eq_some_iff.mp e
  clear e
  have e := e'
  clear e'
  unfold pyEqB at e
  split at e
  · cases e
    have r1 : x = _ := r1
    have r2 : y = _ := r2
    subst r1 r2
    exact op_eq pins s σ H _ _ v u Q I rx ry ⟨rfl, q _ _ H Step.refl hg (by show _ = V.bl _; congr 1; simp)⟩
  · cases e
    have r1 : x = _ := r1
    have r2 : y = _ := r2
    subst r1 r2
    exact op_eq pins s σ H _ _ v u Q I rx ry ⟨rfl, q _ _ H Step.refl hg (by show _ = V.bl _; congr 1; rw [← S_dec]; simp)⟩
  · split at e
    · rename_i d e' h1 h2
      cases e
      obtain ⟨a1, a2, a3⟩ := toPy_ok hg 40 _ _ _ r1 h1
      obtain ⟨b1, b2, b3⟩ := toPy_ok hg 40 _ _ _ r2 h2
      exact op_eqD hu pins s σ H _ _ v u Q I rx ry ⟨d, e', a1, b1, shaped_of a2 a3, shaped_of b2 b3, q _ _ H Step.refl hg rfl⟩
    · cases e
theorem op_pyNe (hu : X.A.units + 64 < cLine) : OpR X (compareOp .NotEq) (rD X.K T pyNe) := by
  intro pins s σ H x y v u Q I rx ry ⟨F, G, dx, dy, z, hg, r1, r2, e, q⟩
  obtain ⟨b, e', rfl⟩ := Option.map_eq_some_iff.mp e
  clear e
  have e := e'
  clear e'
  unfold pyEqB at e
  split at e
  · cases e
    have r1 : x = _ := r1
    have r2 : y = _ := r2
    subst r1 r2
    exact op_ne pins s σ H _ _ v u Q I rx ry ⟨rfl, q _ _ H Step.refl hg (by show _ = V.bl _; congr 1; simp)⟩
  · cases e
    have r1 : x = _ := r1
    have r2 : y = _ := r2
    subst r1 r2
    exact op_ne pins s σ H _ _ v u Q I rx ry ⟨rfl, q _ _ H Step.refl hg (by show _ = V.bl _; congr 1; rw [← S_dec]; simp)⟩
  · split at e
    · rename_i d e' h1 h2
      cases e
      obtain ⟨a1, a2, a3⟩ := toPy_ok hg 40 _ _ _ r1 h1
      obtain ⟨b1, b2, b3⟩ := toPy_ok hg 40 _ _ _ r2 h2
      exact op_neD hu pins s σ H _ _ v u Q I rx ry ⟨d, e', a1, b1, shaped_of a2 a3, shaped_of b2 b3, q _ _ H Step.refl hg rfl⟩
    · cases e
end
end DL

namespace DL
open PySem PySem.Spec PyProof.Rows L2
variable {T : LT}
/-! ### dicts by keys -/
def dkEq : D → D → Bool
  | .int i, .int j => decide (i = j)
  | .str s, .str t => decide (s = t)
  | _, _ => false
def dget (kvs : List (D × D)) (k : D) : Option D := (kvs.find? fun p => dkEq p.1 k).map (·.2)
def dput (kvs : List (D × D)) (k v : D) : List (D × D) :=
  if (kvs.any fun p => dkEq p.1 k) = true then kvs.map (fun p => if dkEq p.1 k = true then (p.1, v) else p) else kvs ++ [(k, v)]
def ddrop (kvs : List (D × D)) (k : D) : List (D × D) := kvs.filter fun p => !dkEq p.1 k
def dctO : Option DO → Option (List (D × D))
  | some (.dct xs) => some xs
  | some (.lck xs _) => some xs
  | _ => none
theorem dctO_eq {o : Option DO} {xs : List (D × D)} (h : dctO o = some xs) : o = some (.dct xs) ∨ ∃ u, o = some (.lck xs u) := by
  unfold dctO at h
  split at h
  · cases h; exact .inl rfl
  · cases h; exact .inr ⟨_, rfl⟩
  · cases h
def asD (G : DG) : D → Option (List (D × D))
  | .dct xs => some xs
  | .ref a => dctO (G a)
  | _ => none
section
variable {K : PySem.W.Frag} {F : FS} {G : DG} {H : Hp}
theorem asD_ok {d : D} {v : V} {xs : List (D × D)} (hg : RelG K T F G H) (r : RelD K F H d v) (e : asD G d = some xs) : ∃ a ws, v = .ref a ∧ Rd H a (.dK ws) ∧ RelKs K F H xs ws := by
  cases d with
  | dct ys =>
    cases e
    obtain ⟨a, vs, ev, h, rs⟩ := r
    exact ⟨a, vs, ev, h.1.rd, rs⟩
  | ref a =>
    have ev : v = .ref a := r
    rcases dctO_eq e with q | ⟨u, q⟩
    · obtain ⟨vs, h, rs⟩ := hg.ob a _ q
      exact ⟨a, vs, ev, .inl h, rs⟩
    · obtain ⟨o, vs, e1, h, rs⟩ := hg.ob a _ q
      exact ⟨a, vs, ev, .inr ⟨o, by rw [h, e1]⟩, rs⟩
  | _ => cases e
theorem dkEq_key {a b : D} {ka kb : Key} (ha : keyOf a = some ka) (hb : keyOf b = some kb) : dkEq a b = decide (ka = kb) := by
  cases a <;> simp only [keyOf, reduceCtorEq] at ha <;> cases ha <;> cases b <;> simp only [keyOf, reduceCtorEq] at hb <;> cases hb
  · rw [key_ll, Bool.beq_eq_decide_eq]; rfl
  · rw [key_lr]; rfl
  · rw [key_rl]; rfl
  · rw [key_rr, S_dec]; rfl
theorem keyOf_rel {k : D} {key : Key} {v : V} (h : keyOf k = some key) (r : RelD K F H k v) : v = kV key := by
  cases k <;> simp only [keyOf, reduceCtorEq] at h <;> cases h
  · exact r
  · exact r
theorem relKs_val {k : D} {key : Key} (hk : keyOf k = some key) : ∀ {kvs : List (D × D)} {ws : List (Key × V)}, RelKs K F H kvs ws →
    (∀ d, dget kvs k = some d → ∃ v, valV ws key = some v ∧ RelD K F H d v) ∧ (dget kvs k = none → valV ws key = none)
  | [], ws, h => by
    have e : ws = [] := h
    subst e
    exact ⟨(fun d z => by simp [dget] at z), (fun _ => rfl)⟩
  | (k', x) :: r, _, ⟨key', v, ws', rfl, hk', rx, t⟩ => by
    have ih := relKs_val hk t
    have e := dkEq_key hk' hk
    unfold dget
    rw [List.find?_cons]
    by_cases q : key' = key
    · rw [e, decide_eq_true q]
      refine ⟨fun d z => ?_, fun z => by simp at z⟩
      simp only [Option.map_some, Option.some.injEq] at z
      subst z
      exact ⟨v, valV_pos q, rx⟩
    · rw [e, decide_eq_false q]
      rw [valV_neg q]
      exact ih
theorem relKs_any {k : D} {key : Key} (hk : keyOf k = some key) : ∀ {kvs : List (D × D)} {ws : List (Key × V)}, RelKs K F H kvs ws → (kvs.any fun p => dkEq p.1 k) = ws.any fun p => decide (p.1 = key)
  | [], ws, h => by
    have e : ws = [] := h
    subst e
    rfl
  | (k', x) :: r, _, ⟨key', v, ws', rfl, hk', rx, t⟩ => by
    rw [List.any_cons, List.any_cons, relKs_any hk t, dkEq_key hk' hk]
theorem RelKs.snoc {k x : D} {key : Key} {v : V} (hk : keyOf k = some key) (rx : RelD K F H x v) : ∀ {kvs : List (D × D)} {ws : List (Key × V)}, RelKs K F H kvs ws → RelKs K F H (kvs ++ [(k, x)]) (ws ++ [(key, v)])
  | [], ws, h => by
    have e : ws = [] := h
    subst e
    exact ⟨key, v, [], rfl, hk, rx, rfl⟩
  | (k', x') :: r, _, ⟨key', v', ws', rfl, hk', rx', t⟩ => ⟨key', v', _, rfl, hk', rx', RelKs.snoc hk rx t⟩
theorem RelKs.repl {k x : D} {key : Key} {v : V} (hk : keyOf k = some key) (rx : RelD K F H x v) : ∀ {kvs : List (D × D)} {ws : List (Key × V)}, RelKs K F H kvs ws →
    RelKs K F H (kvs.map fun p => if dkEq p.1 k = true then (p.1, x) else p) (ws.map fun p => if p.1 = key then (p.1, v) else p)
  | [], ws, h => by
    have e : ws = [] := h
    subst e
    rfl
  | (k', x') :: r, _, ⟨key', v', ws', rfl, hk', rx', t⟩ => by
    rw [List.map_cons, List.map_cons]
    have e := dkEq_key hk' hk
    by_cases q : key' = key
    · rw [if_pos (by rw [e]; exact decide_eq_true q), if_pos q]
      exact ⟨key', v, _, rfl, hk', rx, RelKs.repl hk rx t⟩
    · rw [if_neg (by rw [e]; simpa using q), if_neg q]
      exact ⟨key', v', _, rfl, hk', rx', RelKs.repl hk rx t⟩
theorem RelKs.put {k x : D} {key : Key} {v : V} (hk : keyOf k = some key) (rx : RelD K F H x v) {kvs : List (D × D)} {ws : List (Key × V)} (h : RelKs K F H kvs ws) : RelKs K F H (dput kvs k x) (putK ws key v) := by
  unfold dput putK
  rw [relKs_any hk h]
  split
  · exact h.repl hk rx
  · exact h.snoc hk rx
theorem RelKs.drop {k : D} {key : Key} (hk : keyOf k = some key) : ∀ {kvs : List (D × D)} {ws : List (Key × V)}, RelKs K F H kvs ws → RelKs K F H (ddrop kvs k) (dropK ws key)
  | [], ws, h => by
    have e : ws = [] := h
    subst e
    rfl
  | (k', x') :: r, _, ⟨key', v', ws', rfl, hk', rx', t⟩ => by
    have e := dkEq_key hk' hk
    unfold ddrop dropK
    by_cases q : key' = key
    · rw [List.filter_cons_of_neg (by simp [e, q]), List.filter_cons_of_neg (by simp [q])]
      exact RelKs.drop hk t
    · rw [List.filter_cons_of_pos (by simp [e, q]), List.filter_cons_of_pos (by simp [q])]
      exact ⟨key', v', _, rfl, hk', rx', RelKs.drop hk t⟩
theorem RelKs.length : ∀ {kvs : List (D × D)} {ws : List (Key × V)}, RelKs K F H kvs ws → kvs.length = ws.length
  | [], ws, h => by
    have e : ws = [] := h
    subst e
    rfl
  | (k', x') :: r, _, ⟨key', v', ws', rfl, hk', rx', t⟩ => by rw [List.length_cons, List.length_cons, RelKs.length t]
end
/-! ### in -/
def flatD : D → Bool
  | .non => true
  | .bl _ => true
  | .int _ => true
  | .str _ => true
  | _ => false
def eqF : D → D → Bool
  | .non, .non => true
  | .bl a, .bl b => a == b
  | .bl a, .int b => (if a then 1 else 0) == b
  | .int a, .bl b => a == (if b then 1 else 0)
  | .int a, .int b => a == b
  | .str a, .str b => a == b
  | _, _ => false
section
variable {K : PySem.W.Frag} {F : FS} {G : DG} {H : Hp}
theorem flat_rel {d : D} {v : V} (h : flatD d = true) (r : RelD K F H d v) : flatV v = true := by
  cases d <;> simp only [flatD, reduceCtorEq, Bool.false_eq_true] at h
  · rw [show v = _ from r]; rfl
  · rw [show v = _ from r]; rfl
  · rw [show v = _ from r]; rfl
  · rw [show v = _ from r]; rfl
theorem eqF_rel {d e : D} {v u : V} (h : flatD d = true) (h' : flatD e = true) (r : RelD K F H d v) (r' : RelD K F H e u) : eqV v u = eqF d e := by
  cases d <;> simp only [flatD, reduceCtorEq, Bool.false_eq_true] at h <;> cases e <;> simp only [flatD, reduceCtorEq, Bool.false_eq_true] at h' <;>
    rw [show v = _ from r, show u = _ from r'] <;> first | rfl | exact S_beq _ _
theorem flats_rel : ∀ {ds : List D} {vs : List V}, RelDs K F H ds vs → ds.all flatD = true → vs.all flatV = true
  | [], vs, h, _ => by
    have e : vs = [] := h
    subst e
    rfl
  | x :: xs, _, ⟨v, r, rfl, h, t⟩, e => by
    rw [List.all_cons, Bool.and_eq_true] at e ⊢
    exact ⟨flat_rel e.1 h, flats_rel t e.2⟩
theorem inF_rel {x : D} {u : V} (hx : flatD x = true) (rx : RelD K F H x u) : ∀ {ds : List D} {vs : List V}, RelDs K F H ds vs → ds.all flatD = true → inV u vs = ds.any fun y => eqF y x
  | [], vs, h, _ => by
    have e : vs = [] := h
    subst e
    rfl
  | y :: ys, _, ⟨v, r, rfl, h, t⟩, e => by
    rw [List.all_cons, Bool.and_eq_true] at e
    have ih := inF_rel hx rx t e.2
    unfold inV at ih ⊢
    rw [List.any_cons, List.any_cons, ih, eqF_rel e.1 hx h rx]
end
def signOf (s : String) : Option Char := match s.toList with
  | [c] => some c
  | _ => none
def pyInB (G : DG) (x y : D) : Option Bool := match x, y with
  | .str s, .str t => (signOf s).map fun c => t.toList.contains c
  | x, y => match asQ G y with
    | some ys => if flatD x && ys.all flatD then some (ys.any fun z => eqF z x) else none
    | none => match asD G y, keyOf x with
      | some kvs, some _ => some (dget kvs x).isSome
      | _, _ => none
def pyIn (G : DG) (x y : D) : Option D := (pyInB G x y).map .bl
def pyNotIn (G : DG) (x y : D) : Option D := (pyInB G x y).map fun b => .bl (!b)
theorem mem_toNat (c : Char) (l : List Char) : decide (c.toNat ∈ l.map Char.toNat) = l.contains c := by
  have h : c.toNat ∈ l.map Char.toNat ↔ c ∈ l := by
    constructor
    · intro h
      obtain ⟨d, hd, e⟩ := List.mem_map.mp h
      have : d = c := Char.ext (UInt32.toNat_inj.mp e)
      rw [← this]
      exact hd
    · exact fun h => List.mem_map.mpr ⟨c, h, rfl⟩
  rw [List.contains_eq_mem]
  exact decide_eq_decide.mpr h
theorem sign_cps {s : String} {c : Char} (h : signOf s = some c) : S s = ⟨#[c.toNat]⟩ := by
  unfold signOf at h
  split at h
  · rename_i d e
    cases h
    unfold S
    rw [Str.ofString_eq_toList, e]
    rfl
  · cases h
section
variable {X : Cx}
theorem op_pyIn (hu : X.A.units + 1 < cLine) : OpR X (compareOp .In) (rD X.K T pyIn) := by
  intro pins s σ H x y v u Q I rx ry ⟨F, G, dx, dy, z, hg, r1, r2, e, q⟩
  obtain ⟨b, e', rfl⟩ := Option.map_eq_some_iff.mp e
  clear e
  unfold pyInB at e'
  split at e'
  · obtain ⟨c, e1, rfl⟩ := Option.map_eq_some_iff.mp e'
    exact op_in_sign pins s σ H x y v u Q I rx ry ⟨c.toNat, _, by rw [← sign_cps e1]; exact r1, r2, by rw [S_cps, mem_toNat]; exact q _ _ H Step.refl hg rfl⟩
  · split at e'
    · rename_i ys ey
      split at e'
      · rename_i hf
        cases e'
        rw [Bool.and_eq_true] at hf
        obtain ⟨a, vs, e1, t1, k1⟩ := asQ_ok hg r2 ey
        exact op_in_seq pins s σ H x y v u Q I rx ry ⟨a, vs, e1, t1, flat_rel hf.1 r1, flats_rel k1 hf.2, by rw [inF_rel hf.1 r1 k1 hf.2]; exact q _ _ H Step.refl hg rfl⟩
      · cases e'
    · split at e'
      · rename_i kvs key ed ek
        cases e'
        obtain ⟨a, ws, e1, t1, k1⟩ := asD_ok hg r2 ed
        have hv := relKs_val ek k1
        have eo : (valV ws key).isSome = (dget kvs dx).isSome := by
          cases q : dget kvs dx with
          | none => rw [hv.2 q]; rfl
          | some d => obtain ⟨v, h1, _⟩ := hv.1 d q; rw [h1]; rfl
        subst e1
        cases ry
        refine d_in hu I (.inl ⟨ws, key, t1, keyOf_rel ek r1, rfl⟩) rx fun s' I' => ?_
        rw [eo]
        exact ⟨.bl _, H, I', rfl, q _ _ H Step.refl hg rfl⟩
      · cases e'
theorem op_pyNotIn (hu : X.A.units + 1 < cLine) : OpR X (compareOp .NotIn) (rD X.K T pyNotIn) := by
  intro pins s σ H x y v u Q I rx ry ⟨F, G, dx, dy, z, hg, r1, r2, e, q⟩
  obtain ⟨b, e', rfl⟩ := Option.map_eq_some_iff.mp e
  clear e
  unfold pyInB at e'
  split at e'
  · obtain ⟨c, e1, rfl⟩ := Option.map_eq_some_iff.mp e'
    exact op_notIn_sign pins s σ H x y v u Q I rx ry ⟨c.toNat, _, by rw [← sign_cps e1]; exact r1, r2, by rw [S_cps, mem_toNat]; exact q _ _ H Step.refl hg rfl⟩
  · split at e'
    · rename_i ys ey
      split at e'
      · rename_i hf
        cases e'
        rw [Bool.and_eq_true] at hf
        obtain ⟨a, vs, e1, t1, k1⟩ := asQ_ok hg r2 ey
        exact op_notIn_seq pins s σ H x y v u Q I rx ry ⟨a, vs, e1, t1, flat_rel hf.1 r1, flats_rel k1 hf.2, by rw [inF_rel hf.1 r1 k1 hf.2]; exact q _ _ H Step.refl hg rfl⟩
      · cases e'
    · split at e'
      · rename_i kvs key ed ek
        cases e'
        obtain ⟨a, ws, e1, t1, k1⟩ := asD_ok hg r2 ed
        have hv := relKs_val ek k1
        have eo : (valV ws key).isSome = (dget kvs dx).isSome := by
          cases q : dget kvs dx with
          | none => rw [hv.2 q]; rfl
          | some d => obtain ⟨v, h1, _⟩ := hv.1 d q; rw [h1]; rfl
        subst e1
        cases ry
        refine d_notIn hu I (.inl ⟨ws, key, t1, keyOf_rel ek r1, rfl⟩) rx fun s' I' => ?_
        rw [eo]
        exact ⟨.bl _, H, I', rfl, q _ _ H Step.refl hg rfl⟩
      · cases e'
end
end DL

namespace DL
open PySem PySem.Spec PyProof.Rows L2
variable {T : LT}
/-! ### subscripts, slices -/
def pyItem (G : DG) (x y : D) : Option D := match y with
  | .int i => match x with
    | .str s => if s.length ≤ 16000000 then (atI s.toList i).map fun c => .str (String.ofList [c]) else none
    | x => match asQ G x with
      | some xs => atI xs i
      | none => match asD G x with
        | some kvs => dget kvs y
        | none => none
  | y => match asD G x, keyOf y with
    | some kvs, some _ => dget kvs y
    | _, _ => none
theorem atI_map {α β : Type} (f : α → β) (xs : List α) (i : Int) : atI (xs.map f) i = (atI xs i).map f := by
  unfold atI
  rw [List.length_map]
  cases ixN xs.length i with
  | none => rfl
  | some j => simp
theorem atI_rel {K : PySem.W.Frag} {F : FS} {H : Hp} {xs : List D} {vs : List V} {i : Int} {d : D} (r : RelDs K F H xs vs) (h : atI xs i = some d) : ∃ v, atI vs i = some v ∧ RelD K F H d v := by
  unfold atI at h ⊢
  rw [← r.length]
  cases q : ixN xs.length i with
  | none => rw [q] at h; cases h
  | some j =>
    rw [q] at h
    exact r.get h
section
variable {X : Cx} {W : WX} {a b : Expr} {ta tb : DTE} {pos : Pos}
theorem ix_pyItem (hu : X.A.units + 1 < cLine) : IxR X (fun x y H Q => rD X.K T pyItem x y H Q) := by
  intro value slice pins s σ H x y v u Q I rx ry ⟨F, G, dx, dy, z, hg, r1, r2, e, q⟩ hs
  have dct : ∀ kvs key, asD G dx = some kvs → keyOf dy = some key → dget kvs dy = some z → wpAny (model X.prog X.w) X.A (subscriptTail value slice v u) (EP X pins σ Q) X.xe s := fun kvs key ed ek ez => by
    obtain ⟨a, ws, e1, t1, k1⟩ := asD_ok hg r1 ed
    obtain ⟨w1, h1, h2⟩ := (relKs_val ek k1).1 z ez
    subst e1
    cases rx
    have g : DGet H a y (some w1) := .inl ⟨ws, key, t1, keyOf_rel ek r2, h1.symm⟩
    exact tail_any (dict_typeIs I g) PySem.F.slot_dict_getitem.lookup (d_getItem hu I g ry fun w' s3 I3 rw' => ⟨w1, H, I3, rw', q _ _ H Step.refl hg h2⟩) hs
  unfold pyItem at e
  split at e
  · rename_i i
    split at e
    · rename_i st
      split at e
      · rename_i hl
        obtain ⟨c, e1, rfl⟩ := Option.map_eq_some_iff.mp e
        exact ix_str value slice pins s σ H x y v u Q I rx ry ⟨_, i, c.toNat, r1, r2, by rw [S_len]; exact small_line hl, by rw [S_cps, atI_map, e1]; rfl, q _ _ H Step.refl hg (by show _ = V.str (S (String.ofList [c])); unfold S; rw [Str.ofString_eq_toList]; simp)⟩ hs
      · cases e
    · split at e
      · rename_i xs ex
        obtain ⟨a, vs, e1, t1, k1⟩ := asQ_ok hg r1 ex
        obtain ⟨w1, h1, h2⟩ := atI_rel k1 e
        rcases t1 with t1 | t1
        · exact ix_list value slice pins s σ H x y v u Q I rx ry ⟨a, vs, i, w1, e1, r2, t1, h1, q _ _ H Step.refl hg h2⟩ hs
        · exact ix_tup value slice pins s σ H x y v u Q I rx ry ⟨a, vs, i, w1, e1, r2, t1, h1, q _ _ H Step.refl hg h2⟩ hs
      · split at e
        · rename_i kvs ed
          exact dct kvs _ ed rfl e
        · cases e
  · split at e
    · rename_i kvs key ed ek
      exact dct kvs key ed ek e
    · cases e
theorem q_item (hu : X.A.units + 1 < cLine) (ha : QE X T W a ta) (hb : QE X T W b tb) (hs : PlainIx b := by exact fun _ _ => rfl) : QE X T W (.Subscript a b pos) (dOp pyItem ta tb) :=
  PE.imp (pe_ix (ix_pyItem hu) ha hb hs) fun σ H Q ⟨env, F, G, E, P, hg, hs, hx, ht, hq⟩ =>
    ⟨env, F, G, E, _, hg, hs, hx, ht, fun x F1 G1 v1 H1 h1 s1 g1 r1 => ⟨env, F1, G1, E, _, g1, hs.step s1, hx.step s1, h1, fun y F2 G2 v2 H2 ⟨z, e, p⟩ s2 g2 r2 =>
      ⟨F2, G2, x, y, z, g2, RelD.step s2 x r1, r2, e, fun F' v H' s3 g3 r3 => hq z _ G2 v H' p (s1.trans (s2.trans s3)) g3 r3⟩⟩⟩
end
/-! slices -/
abbrev DTO := DXK → DSt → DG → (Option Int → DG → Prop) → Prop
def dNoPart : DTO := fun _ _ G Q => Q none G
def dPart (t : DTE) : DTO := fun E env G Q => t E env G fun x G1 => ∃ i, x = .int i ∧ Q (some i) G1
def cutD (xs : List D) (lo hi : Option Int) : List D := (xs.drop (HT.sIx xs.length 0 lo)).take (HT.sIx xs.length xs.length hi - HT.sIx xs.length 0 lo)
def cutC (xs : List Char) (lo hi : Option Int) : List Char := (xs.drop (HT.sIx xs.length 0 lo)).take (HT.sIx xs.length xs.length hi - HT.sIx xs.length 0 lo)
def pySlice (G : DG) (x : D) (lo hi : Option Int) : Option D := match x with
  | .tup xs => some (.tup (cutD xs lo hi))
  | .str s => if s.length ≤ 16000000 then some (.str (String.ofList (cutC s.toList lo hi))) else none
  | x => (asL G x).map fun xs => .lst (cutD xs lo hi)
def dSlice (t : DTE) (l h : DTO) : DTE := fun E env G Q => t E env G fun x G1 => l E env G1 fun lo G2 => h E env G2 fun hi G3 => ∃ z, pySlice G3 x lo hi = some z ∧ Q z G3
def liftO (K : PySem.W.Frag) (T : LT) (W : WX) (t : DTO) : TO := fun σ H Q => ∃ env F G E P, RelG K T F G H ∧ RelSt K F H env σ ∧ XOk K T W E F G H ∧ t E env G P ∧
  ∀ o F' G' H', P o G' → Step F G H F' G' H' → RelG K T F' G' H' → Q o H'
abbrev QO (X : Cx) (T : LT) (W : WX) (e : Option Expr) (t : DTO) : Prop := PO X e (liftO X.K T W t)
theorem PO.imp {X : Cx} {e : Option Expr} {t t' : TO} (h : PO X e t) (k : ∀ σ H Q, t' σ H Q → t σ H Q) : PO X e t' := ⟨fun pins s σ H Q I w => h.run pins s σ H Q I (k σ H Q w)⟩
theorem cut_rel {K : PySem.W.Frag} {F : FS} {H : Hp} {xs : List D} {vs : List V} (lo hi : Option Int) (r : RelDs K F H xs vs) : RelDs K F H (cutD xs lo hi) (cutV vs lo hi) := by
  unfold cutD cutV
  rw [← r.length]
  exact (r.drop _).take _
section
variable {X : Cx} {W : WX} {a b : Expr} {ta tb : DTE} {pos p2 : Pos} {lo hi : Option Expr} {tl th : DTO}
theorem qo_none : QO X T W none dNoPart := PO.imp po_none fun σ H Q ⟨env, F, G, E, P, hg, hs, hx, ht, hq⟩ => hq none _ G H ht Step.refl hg
theorem qo_some (h : QE X T W a ta) : QO X T W (some a) (dPart ta) := PO.imp (po_some h) fun σ H Q ⟨env, F, G, E, P, hg, hs, hx, ht, hq⟩ =>
  ⟨env, F, G, E, _, hg, hs, hx, ht, fun x F1 G1 v1 H1 ⟨i, e, p⟩ s1 g1 r1 => by
    subst e
    exact ⟨i, r1, hq (some i) _ G1 H1 p s1 g1⟩⟩
theorem sl_pySlice : SlR X (fun x lo hi H Q => ∃ F G dx z, RelG X.K T F G H ∧ RelD X.K F H dx x ∧ pySlice G dx lo hi = some z ∧ ∀ F' v H', Step F G H F' G H' → RelG X.K T F' G H' → RelD X.K F' H' z v → Q v H') := by
  intro pins s σ H x v vl vu lo hi sl Q I rx hs pl pu ⟨F, G, dx, z, hg, r1, e, q⟩
  have lst : ∀ xs, asL G dx = some xs → z = .lst (cutD xs lo hi) → ∃ T id, typeLookup (.type T) "__getitem__" = pure (some (.builtin id)) ∧ s.TypeIs v T ∧ wpAny (model X.prog X.w) X.A (getItem v (.ref sl)) (EP X pins σ Q) X.xe s := fun xs ex ez => by
    subst ez
    obtain ⟨a, vs, e1, t1, k1⟩ := asL_ok hg r1 ex
    exact sl_list pins s σ H x v vl vu lo hi sl Q I rx hs pl pu ⟨a, vs, e1, .inl t1, fun p hp => q _ _ _ (Step.new hp) (hg.new hp) (relD_newLst hg hp (cut_rel lo hi k1))⟩
  unfold pySlice at e
  split at e
  · rename_i xs
    cases e
    obtain ⟨a, vs, e1, t1, k1⟩ := r1
    refine sl_tupA pins s σ H x v vl vu lo hi sl Q I rx hs pl pu ⟨a, vs, e1, t1.sq, fun hw => ?_, fun _ p hp => q _ _ _ (Step.new hp) (hg.new hp) (relD_newTup hg hp (cut_rel lo hi k1))⟩
    refine q _ _ H Step.refl hg ⟨a, vs, rfl, t1, ?_⟩
    have := cut_rel lo hi k1
    unfold cutV at this
    rw [hw.1, hw.2] at this
    simpa using this
  · rename_i st
    split at e
    · rename_i hl
      cases e
      refine sl_str pins s σ H x v vl vu lo hi sl Q I rx hs pl pu ⟨_, r1, by rw [S_len]; exact small_line hl, q _ _ H Step.refl hg ?_⟩
      show _ = V.str (S (String.ofList (cutC st.toList lo hi)))
      congr 1
      unfold cutS cutC
      rw [S_cps, S_len]
      unfold S
      rw [Str.ofString_eq_toList, String.toList_ofList, String.length_toList]
      simp
    · cases e
  · obtain ⟨xs, ex, ez⟩ := Option.map_eq_some_iff.mp e
    exact lst xs ex ez.symm
theorem q_slice (ha : QE X T W a ta) (hl : QO X T W lo tl) (hh : QO X T W hi th) : QE X T W (.Subscript a (.Slice lo hi none p2) pos) (dSlice ta tl th) :=
  PE.imp (pe_slice sl_pySlice ha hl hh) fun σ H Q ⟨env, F, G, E, P, hg, hs, hx, ht, hq⟩ =>
    ⟨env, F, G, E, _, hg, hs, hx, ht, fun x F1 G1 v1 H1 h1 s1 g1 r1 => ⟨env, F1, G1, E, _, g1, hs.step s1, hx.step s1, h1, fun l F2 G2 H2 h2 s2 g2 => ⟨env, F2, G2, E, _, g2, hs.step (s1.trans s2), hx.step (s1.trans s2), h2, fun h F3 G3 H3 ⟨z, e, p⟩ s3 g3 =>
      ⟨F3, G3, x, z, g3, RelD.step (s2.trans s3) x r1, e, fun F' v H' s4 g4 r4 => hq z _ G3 v H' p (s1.trans (s2.trans (s3.trans s4))) g4 r4⟩⟩⟩⟩
end
end DL

namespace DL
open PySem PySem.Spec PyProof.Rows L2
variable {T : LT}
/-! ### what is walked -/
def IterOk (K : PySem.W.Frag) (T : LT) (F0 : FS) (G0 : DG) (H0 : Hp) (J : It) (items : List D) (guard : DG → Prop) : Prop :=
  ∀ i F G H, Step F0 G0 H0 F G H → RelG K T F G H → guard G →
    (∀ d, items[i]? = some d → J.go i H ∧ ∀ x H1, J.yld i H x H1 → ∃ F1, Step F G H F1 G H1 ∧ RelG K T F1 G H1 ∧ RelD K F1 H1 d x) ∧ (i = items.length → J.stop i H)
abbrev DTI := DXK → DSt → DG → (List D → (DG → Prop) → DG → Prop) → Prop
def liftI (K : PySem.W.Frag) (T : LT) (W : WX) (t : DTI) : TI := fun σ H R => ∃ env F G E P, RelG K T F G H ∧ RelSt K F H env σ ∧ XOk K T W E F G H ∧ t E env G P ∧
  ∀ items guard F' G' H' J, P items guard G' → Step F G H F' G' H' → RelG K T F' G' H' → IterOk K T F' G' H' J items guard → R J H'
abbrev QI (X : Cx) (T : LT) (W : WX) (tg e : Expr) (t : DTI) : Prop := PI X tg e (liftI X.K T W t)
theorem PI.imp {X : Cx} {tg e : Expr} {t t' : TI} (h : PI X tg e t) (k : ∀ σ H Q, t' σ H Q → t σ H Q) : PI X tg e t' := ⟨fun pins s σ H Q I w => h.run pins s σ H Q I (k σ H Q w)⟩
/-! targets: a name, several names -/
inductive Tg where
  | n (i : Nat) | t (is : List Nat)
def setAll {α : Type} (σ : List (Option α)) : List Nat → List α → List (Option α)
  | i :: is, x :: xs => setAll (σ.set i (some x)) is xs
  | _, _ => σ
def gsN : List Nat → TGs
  | [] => gNil
  | i :: is => gCons (gName i) (gsN is)
def vTg (K : PySem.W.Frag) : Tg → TG
  | .n i => gName i
  | .t is => gTup K is.length (gsN is)
def dTg : Tg → D → DSt → (DSt → Prop) → Prop
  | .n i, d, env, Q => Q (env.set i (some d))
  | .t is, d, env, Q => ∃ xs, d = .tup xs ∧ xs.length = is.length ∧ Q (setAll env is xs)
theorem gsN_run {Q : L2.St → Hp → Prop} {H : Hp} : ∀ (is : List Nat) (vs : List V) (σ : L2.St), vs.length = is.length → Q (setAll σ is vs) H → gsN is vs σ H Q
  | [], vs, σ, hl, q => by
    have e : vs = [] := List.eq_nil_of_length_eq_zero hl
    subst e
    exact ⟨rfl, q⟩
  | i :: is, [], σ, hl, q => by simp at hl
  | i :: is, v :: vs, σ, hl, q => ⟨v, vs, rfl, gsN_run is vs _ (by simpa using hl) q⟩
theorem relSt_setAll {K : PySem.W.Frag} {F : FS} {H : Hp} : ∀ (is : List Nat) (ds : List D) (vs : List V) (env : DSt) (σ : L2.St), RelDs K F H ds vs → RelSt K F H env σ → RelSt K F H (setAll env is ds) (setAll σ is vs)
  | [], ds, vs, env, σ, _, r => by cases ds <;> cases vs <;> exact r
  | i :: is, [], vs, env, σ, h, r => by
    have e : vs = [] := h
    subst e
    exact r
  | i :: is, d :: ds, _, env, σ, ⟨v, vs, rfl, h, t⟩, r => relSt_setAll is ds vs _ _ t (r.set h)
/-- the store of a value, seen from both sides -/
theorem tg_run {K : PySem.W.Frag} {F : FS} {H : Hp} {tg : Tg} {d : D} {v : V} {env : DSt} {σ : L2.St} {P : DSt → Prop} {Q : L2.St → Hp → Prop} (rs : RelSt K F H env σ) (r : RelD K F H d v) (h : dTg tg d env P)
    (q : ∀ env' σ', P env' → RelSt K F H env' σ' → (∃ vs, (σ' = match tg with | .n i => σ.set i (some v) | .t is => setAll σ is vs)) → Q σ' H) : vTg K tg v σ H Q := by
  cases tg with
  | n i => exact q _ _ h (rs.set r) ⟨[], rfl⟩
  | t is =>
    obtain ⟨xs, rfl, hl, p⟩ := h
    obtain ⟨a, vs, rfl, t, k⟩ := r
    exact ⟨a, vs, rfl, t.sq, by rw [← k.length]; exact hl, gsN_run is vs σ (by rw [← k.length]; exact hl) (q _ _ p (relSt_setAll is xs vs env σ k rs) ⟨vs, rfl⟩)⟩
/-! ### for -/
def dLoop (E : DXK) (tg : Tg) (tb : DTS) (DE : DEnds) (guard : DG → Prop) : List D → DSt → DG → Prop
  | [], env, G => guard G ∧ DE.nx env G
  | d :: ds, env, G => guard G ∧ dTg tg d env fun env1 => tb E { DE with nx := fun env2 G2 => dLoop E tg tb DE guard ds env2 G2 } env1 G
def sFor (wi : DTI) (tg : Tg) (tb : DTS) : DTS := fun E DE env G => wi E env G fun items guard G1 => dLoop E tg tb DE guard items env G1
section
variable {X : Cx} {W : WX} {pos : Pos}
theorem qs_for {tgE iter : Expr} {body : List Stmt} {wi : DTI} {tg : Tg} {tb : DTS} (hp : PassesOwn (model X.prog X.w) X.A X.env X.xe) (hc : X.calm = true) (hi : QI X T W tgE iter wi) (hg : PG X tgE (vTg X.K tg)) (hb : QSs X T W body tb)
    (hs : ∀ x, foldedSetIterable iter X.env x = pure x := by intro _; rfl) : QS X T W (.For tgE iter body [] pos) (sFor wi tg tb) :=
  PS.imp (ps_for hp hc hi hg hb hs) fun D σ H ⟨env, F, G, E, DE, hg, hs, hx, ht, hn, hr⟩ => ⟨env, F, G, E, _, hg, hs, hx, ht, fun items guard F1 G1 H1 J p s1 g1 ok => by
    refine ⟨fun i m σ H2 => m = items.length - i ∧ i ≤ items.length ∧ ∃ env' F' G', Step F1 G1 H1 F' G' H2 ∧ RelG X.K T F' G' H2 ∧ RelSt X.K F' H2 env' σ ∧ dLoop E tg tb DE guard (items.drop i) env' G',
      ⟨_, rfl, Nat.zero_le _, env, F1, G1, Step.refl, g1, hs.step s1, by rw [List.drop_zero]; exact p⟩, ?_⟩
    rintro i m σ H2 ⟨rfl, hi, env', F', G', s2, g2, r2, l⟩
    by_cases hlt : i < items.length
    · right
      have ed : items.drop i = items[i] :: items.drop (i + 1) := List.drop_eq_getElem_cons hlt
      rw [ed] at l
      obtain ⟨gd, l⟩ := l
      obtain ⟨hgo, hy⟩ := (ok i F' G' H2 s2 g2 gd).1 items[i] (List.getElem?_eq_getElem hlt)
      refine ⟨hgo, fun σ' H' => ∃ env'' F'' G'', Step F1 G1 H1 F'' G'' H' ∧ RelG X.K T F'' G'' H' ∧ RelSt X.K F'' H' env'' σ' ∧ dLoop E tg tb DE guard (items.drop (i + 1)) env'' G'', fun σ' H' w => ⟨items.length - (i + 1), by omega, rfl, hlt, w⟩, fun x H3 y => ?_⟩
      obtain ⟨F3, s3, g3, r3⟩ := hy x H3 y
      refine tg_run (r2.step s3) r3 l fun env4 σ4 p4 r4 _ => ?_
      have s13 := s2.trans s3
      refine ⟨env4, F3, G', E, _, g3, r4, hx.step (s1.trans s13), p4, fun env5 F5 G5 σ5 H5 p5 s5 g5 r5 => ⟨env5, F5, G5, s13.trans s5, g5, r5, p5⟩, fun d F5 G5 v H5 p5 s5 g5 r5 => hr d _ G5 v H5 p5 (s1.trans (s13.trans s5)) g5 r5⟩
    · left
      have e : i = items.length := by omega
      subst e
      rw [List.drop_length] at l
      obtain ⟨gd, l⟩ := l
      exact ⟨(ok _ F' G' H2 s2 g2 gd).2 rfl, hn env' _ G' σ H2 l (s1.trans s2) g2 r2⟩⟩
end
/-! ### list comprehensions -/
def wipeD (env : DSt) : List Nat → DSt
  | [] => env
  | v :: vs => (wipeD env vs).set v none
def EF : DXK := fun _ _ _ => False
abbrev WF : WX := fun _ _ _ _ => False
def dLcL (tg : Tg) (tt : DTT) (te : DTE) (guard : DG → Prop) (env : DSt) : List D → DG → (List D → DG → Prop) → Prop
  | [], G, Q => guard G ∧ Q [] G
  | d :: ds, G, Q => guard G ∧ dTg tg d env fun env1 => tt EF env1 G fun b G1 => if b = true then te EF env1 G1 fun y G2 => dLcL tg tt te guard env ds G2 fun ys G3 => Q (y :: ys) G3 else dLcL tg tt te guard env ds G1 Q
def dYes : DTT := fun _ _ G Q => Q true G
def dLc (wi : DTI) (tg : Tg) (tt : DTT) (te : DTE) (vs : List Nat) : DTE := fun E env G Q => wi E env G fun items guard G1 => items.length ≤ 16000000 ∧ dLcL tg tt te guard (wipeD env vs) items G1 fun ys G2 => Q (.lst ys) G2
theorem relSt_wipe {K : PySem.W.Frag} {F : FS} {H : Hp} {env : DSt} {σ : L2.St} (r : RelSt K F H env σ) : ∀ vs : List Nat, RelSt K F H (wipeD env vs) (wipe σ vs)
  | [] => r
  | v :: vs => by
    have ih := relSt_wipe r vs
    unfold wipeD wipe
    refine ⟨by simp [ih.1], fun j d e => ?_⟩
    by_cases hj : v = j
    · subst hj
      by_cases hv : v < (wipeD env vs).length
      · rw [List.getElem?_set_self hv] at e; cases e
      · rw [List.getElem?_eq_none (by simpa using hv)] at e; cases e
    · rw [List.getElem?_set_ne hj] at e ⊢
      exact ih.2 j d e
def tgIn : Tg → List Nat → Bool
  | .n i, vs => vs.contains i
  | .t is, vs => is.all fun i => vs.contains i
theorem wipe_set {σ : L2.St} {i : Nat} {o : Option V} : ∀ {vs : List Nat}, i ∈ vs → wipe (σ.set i o) vs = wipe σ vs
  | [], h => by cases h
  | v :: vs, h => by
    unfold wipe
    by_cases hv : i ∈ vs
    · rw [wipe_set hv]
    · have e : i = v := by
        rcases List.mem_cons.mp h with e | e
        · exact e
        · exact absurd e hv
      subst e
      have key : ∀ (ws : List Nat) (σ : L2.St), i ∉ ws → wipe (σ.set i o) ws = (wipe σ ws).set i o := fun ws => by
        induction ws with
        | nil => intro σ _; rfl
        | cons w ws ih =>
          intro σ hw
          unfold wipe
          rw [ih σ fun z => hw (List.mem_cons_of_mem _ z), List.set_comm _ _ (fun z => hw (by rw [z]; exact List.mem_cons_self))]
      rw [key vs σ hv, List.set_set]
theorem wipe_setAll {vs : List Nat} : ∀ (is : List Nat) (xs : List V) (σ : L2.St), (∀ i ∈ is, i ∈ vs) → wipe (setAll σ is xs) vs = wipe σ vs
  | [], xs, σ, _ => by cases xs <;> rfl
  | i :: is, [], σ, _ => rfl
  | i :: is, x :: xs, σ, h => by
    unfold setAll
    rw [wipe_setAll is xs _ fun j hj => h j (List.mem_cons_of_mem _ hj), wipe_set (h i List.mem_cons_self)]
theorem wipe_wipe {σ : L2.St} (vs : List Nat) : wipe (wipe σ vs) vs = wipe σ vs := by
  have key : ∀ (ws us : List Nat) (σ : L2.St), (∀ w ∈ ws, w ∈ us) → wipe (wipe σ ws) us = wipe σ us := fun ws => by
    induction ws with
    | nil => intro us σ _; rfl
    | cons w ws ih =>
      intro us σ h
      rw [show wipe σ (w :: ws) = (wipe σ ws).set w none from rfl, wipe_set (h w List.mem_cons_self)]
      exact ih us σ fun x hx => h x (List.mem_cons_of_mem _ hx)
  exact key vs vs σ fun _ h => h
section
variable {X : Cx} {W : WX} {pos : Pos}
/-- the loop of a comprehension, by HandS's word -/
theorem lc_word {K : PySem.W.Frag} {J : It} {items : List D} {guard : DG → Prop} {tg : Tg} {tt : DTT} {te : DTE} {vs : List Nat} {env : DSt} {σ : L2.St} {F1 : FS} {G1 : DG} {H1 : Hp} {D1 : Addr} {P : List D → DG → Prop} {Q : VK} (hv : tgIn tg vs = true) (hlen : items.length ≤ 16000000)
    (g1 : RelG K T F1 G1 H1) (r1 : RelSt K F1 H1 env σ) (ok : IterOk K T F1 G1 H1 J items guard) (hD : H1 D1 = none) (l : dLcL tg tt te guard (wipeD env vs) items G1 P)
    (fin : ∀ ys F2 G2 H2 ws, P ys G2 → Step F1 G1 H1 F2 G2 H2 → RelG K T F2 G2 H2 → H2 D1 = some (.lst ws) → ¬ F2 D1 → G2 D1 = none → RelDs K F2 H2 ys ws → Q (.ref D1) H2) :
    ∃ Wd : Nat → Nat → Hp → Prop, (∃ m, Wd 0 m (upd H1 D1 (.lst []))) ∧ ∀ i m H, Wd i m H →
      (J.stop i H ∧ Q (.ref D1) H) ∨ (J.go i H ∧ ∃ Nx : Hp → Prop, (∀ H', Nx H' → ∃ m', m' < m ∧ Wd (i + 1) m' H') ∧ ∀ x H', J.yld i H x H' → vTg K tg x (wipe σ vs) H' fun σ2 H2 => wipe σ2 vs = wipe σ vs ∧ liftT K T WF tt σ2 H2 fun b H3 =>
        if b = true then liftE K T WF te σ2 H3 fun y H4 => ∃ acc, H4 D1 = some (.lst acc) ∧ acc.length < sizeLine ∧ Nx (upd H4 D1 (.lst (acc ++ [y]))) else Nx H3) := by
  refine ⟨fun i m H => m = items.length - i ∧ i ≤ items.length ∧ ∃ F G ys ws, Step F1 G1 H1 F G H ∧ RelG K T F G H ∧ H D1 = some (.lst ws) ∧ ¬ F D1 ∧ G D1 = none ∧ RelDs K F H ys ws ∧ ys.length ≤ i ∧ dLcL tg tt te guard (wipeD env vs) (items.drop i) G fun zs G2 => P (ys ++ zs) G2,
    ⟨_, rfl, Nat.zero_le _, F1, G1, [], [], Step.priv hD, g1.priv hD, upd_same, g1.nof hD, g1.free hD, rfl, Nat.le_refl _, by rw [List.drop_zero]; exact l⟩, ?_⟩
  rintro i m H ⟨rfl, hi, F, G, ys, ws, s2, g2, eD, fD, gD, rel, hyl, l⟩
  by_cases hlt : i < items.length
  · right
    rw [List.drop_eq_getElem_cons hlt] at l
    obtain ⟨gd, l⟩ := l
    obtain ⟨hgo, hy⟩ := (ok i F G H s2 g2 gd).1 items[i] (List.getElem?_eq_getElem hlt)
    refine ⟨hgo, fun H' => ∃ F G ys ws, Step F1 G1 H1 F G H' ∧ RelG K T F G H' ∧ H' D1 = some (.lst ws) ∧ ¬ F D1 ∧ G D1 = none ∧ RelDs K F H' ys ws ∧ ys.length ≤ i + 1 ∧ dLcL tg tt te guard (wipeD env vs) (items.drop (i + 1)) G fun zs G2 => P (ys ++ zs) G2,
      fun H' w => ⟨items.length - (i + 1), by omega, rfl, hlt, w⟩, fun x H3 y => ?_⟩
    obtain ⟨F3, s3, g3, r3⟩ := hy x H3 y
    have s13 := s2.trans s3
    refine tg_run (relSt_wipe (r1.step s13) vs) r3 l fun env4 σ4 p4 r4 e4 => ⟨?_, ?_⟩
    · obtain ⟨us, e4⟩ := e4
      rw [e4]
      cases tg with
      | n j => exact (wipe_set (by simpa [tgIn] using hv)).trans (wipe_wipe vs)
      | t js => exact (wipe_setAll js us _ (by simpa [tgIn] using hv)).trans (wipe_wipe vs)
    · refine ⟨env4, F3, G, EF, _, g3, r4, (fun _ _ _ _ _ _ _ _ z => z.elim), p4, fun b F5 G5 H5 p5 s5 g5 => ?_⟩
      obtain ⟨fd3, gd3, e3⟩ := s3.pv D1 _ fD gD eD rfl
      obtain ⟨fd5, gd5, e5⟩ := s5.pv D1 _ fd3 gd3 e3 rfl
      cases b with
      | false =>
        rw [if_neg Bool.false_ne_true] at p5 ⊢
        exact ⟨F5, G5, ys, ws, s13.trans s5, g5, e5, fd5, gd5, RelDs.step (s3.trans s5) ys rel, by omega, p5⟩
      | true =>
        rw [if_pos rfl] at p5 ⊢
        refine ⟨env4, F5, G5, EF, _, g5, r4.step s5, (fun _ _ _ _ _ _ _ _ z => z.elim), p5, fun y F6 G6 v6 H6 p6 s6 g6 r6 => ?_⟩
        obtain ⟨fd6, gd6, e6⟩ := s6.pv D1 _ fd5 gd5 e5 rfl
        have rel6 := RelDs.step (s3.trans (s5.trans s6)) ys rel
        refine ⟨ws, e6, by rw [← rel6.length]; exact Nat.lt_of_lt_of_le (Nat.lt_of_le_of_lt hyl (Nat.lt_of_lt_of_le hlt hlen)) (by decide), ?_⟩
        refine ⟨F6, G6, ys ++ [y], ws ++ [v6], ((s13.trans s5).trans s6).wr hD, g6.wr fd6 gd6 e6 rfl, upd_same, fd6, gd6, RelDs.kept (kept_wr fd6) _ (rel6.append ⟨v6, [], rfl, r6, rfl⟩), by rw [List.length_append]; simp; omega, ?_⟩
        have : (fun zs G2 => P (ys ++ [y] ++ zs) G2) = fun zs G2 => P (ys ++ y :: zs) G2 := by funext zs G2; simp
        rw [this]
        exact p6
  · left
    have e : i = items.length := by omega
    subst e
    rw [List.drop_length] at l
    obtain ⟨gd, l⟩ := l
    rw [List.append_nil] at l
    exact ⟨(ok _ F G H s2 g2 gd).2 rfl, fin ys F G H ws l s2 g2 eD fD gD rel⟩
end
end DL

namespace DL
open PySem PySem.Spec PyProof.Rows L2
variable {T : LT}
/-! ### what an iterator of our own draws from: a list, a tuple, a text -/
inductive SK where
  | l (a : Addr) | t (a : Addr) | s (x : Str)
def SK.at : SK → List Addr
  | .l a => [a]
  | .t a => [a]
  | .s _ => []
def tnS : SK → Addr → Nat → Heap → Prop
  | .l a, it, i, h => h.IsListIter it a i
  | .t a, it, i, h => h.IsTupleIter it a i
  | .s x, it, i, h => ∃ tk, h.IsStrIter it (strIterType x) x tk i
def signV (x : Str) : List V := x.cps.toList.map fun c => V.str ⟨#[c]⟩
def rdS (K : PySem.W.Frag) (H : Hp) : SK → List V → Prop
  | .l a, xs => SqL K H a xs
  | .t a, xs => SqT K H a xs
  | .s x, xs => xs = signV x
def kvS : SK → V
  | .l a => .ref a
  | .t a => .ref a
  | .s x => .str x
theorem tnS_at {k : SK} {it : Addr} {i : Nat} {h h' : Heap} (st : tnS k it i h) (e : ∀ o, h.get? it = some o → h'.get? it = some o) : tnS k it i h' := by
  cases k with
  | l a => exact Heap.IsListIter.at st e
  | t a => exact Heap.IsTupleIter.at st e
  | s x =>
    obtain ⟨tk, o, ho, r⟩ := st
    exact ⟨tk, o, e o ho, r⟩
theorem tnS_obj {k : SK} {it : Addr} {i : Nat} {h : Heap} (st : tnS k it i h) : ∃ o, h.get? it = some o ∧ ∀ v, o.data ≠ .cell v := by
  cases k with
  | l a => obtain ⟨o, ho, _, d⟩ := st; exact ⟨o, ho, fun v q => by rw [d] at q; cases q⟩
  | t a => obtain ⟨o, ho, _, d⟩ := st; exact ⟨o, ho, fun v q => by rw [d] at q; cases q⟩
  | s x => obtain ⟨tk, o, ho, _, d⟩ := st; exact ⟨o, ho, fun v q => by rw [d] at q; cases q⟩
section
variable {X : Cx} {pins : List (Addr × Obj)} {σ : L2.St} {H : Hp} {s : Shared}
theorem rdS_inj {k : SK} {xs ys : List V} (I : Inv X pins σ H s) (h : rdS X.K H k xs) (h' : rdS X.K H k ys) : xs = ys := by
  cases k with
  | l a => exact I.list_inj h h'
  | t a => exact I.tuple_inj h h'
  | s x => rw [show xs = _ from h, show ys = _ from h']
/-- the source draws, seen at one state -/
theorem rdS_draws {k : SK} {xs : List V} {it : Addr} {i : Nat} (I : Inv X pins σ H s) (hh : X.A.handled = none) (r : rdS X.K H k xs) (st : tnS k it i s.heap) (hne : it ∉ k.at) :
    ∃ (P : Nat → Value → Prop) (St : Nat → Heap → Prop), Draws X.prog X.w X.A.in1 it (it :: k.at) xs.length P St ∧ St i s.heap ∧ (∀ j v, j < xs.length → P j v → ∃ x, xs[j]? = some x ∧ RelV x v) ∧ ∀ j h, St j h → tnS k it j h := by
  cases k with
  | l a =>
    obtain ⟨its, rv, p, _⟩ := I.list r
    have hl := rv.length
    have D := Draws.list (prog := X.prog) (w := X.w) (A := X.A.in1) hh it a (fun z => hne (by simp [SK.at, z])) its.toArray
    rw [show its.toArray.size = xs.length by simp [hl]] at D
    refine ⟨_, _, D, ⟨st, p.isList⟩, fun j v hj e => ?_, fun j h st => st.1⟩
    have hx : xs[j]? = some xs[j] := List.getElem?_eq_getElem hj
    obtain ⟨u, hu, ru⟩ := rv.get hx
    refine ⟨_, hx, ?_⟩
    simp only [List.getElem?_toArray] at e
    rw [hu] at e
    cases e
    exact ru
  | t a =>
    obtain ⟨its, rv, p, _⟩ := I.tuple r
    have hl := rv.length
    have D := Draws.tuple (prog := X.prog) (w := X.w) (A := X.A.in1) hh it a (fun z => hne (by simp [SK.at, z])) its.toArray
    rw [show its.toArray.size = xs.length by simp [hl]] at D
    refine ⟨_, _, D, ⟨st, p⟩, fun j v hj e => ?_, fun j h st => st.1⟩
    have hx : xs[j]? = some xs[j] := List.getElem?_eq_getElem hj
    obtain ⟨u, hu, ru⟩ := rv.get hx
    refine ⟨_, hx, ?_⟩
    simp only [List.getElem?_toArray] at e
    rw [hu] at e
    cases e
    exact ru
  | s x =>
    obtain ⟨tk, st⟩ := st
    have hl : x.cps.size = xs.length := by rw [show xs = _ from r]; simp [signV]
    refine ⟨_, _, hl ▸ Draws.text (A := X.A.in1) hh it x tk, st, fun j v hj e => ?_, fun j h st => ⟨tk, st⟩⟩
    obtain ⟨c, u, hc, rfl⟩ := e
    refine ⟨.str ⟨#[c]⟩, ?_, ⟨u, rfl⟩⟩
    rw [show xs = _ from r]
    simp [signV, hc]
def obS : SK → Value → Obj
  | .l a, _ => { cls := .type "list_iterator", data := .fields #[.ref a, .int 0 0] }
  | .t a, _ => { cls := .type "tuple_iterator", data := .fields #[.ref a, .int 0 0] }
  | .s x, v => { cls := .type (strIterType x), data := .fields #[v, .int 0 0] }
theorem rdS_begins {k : SK} {xs : List V} {v : Value} (I : Inv X pins σ H s) (r : rdS X.K H k xs) (rv : RelV (kvS k) v) : ∃ Hp, Begins v (obS k v) Hp ∧ Hp s.heap ∧ (∀ a ∈ k.at, a < s.heap.objs.size) ∧ ∀ it h, h.get? it = some (obS k v) → tnS k it 0 h := by
  cases k with
  | l a =>
    obtain ⟨its, rv', p, _⟩ := I.list r
    obtain rfl : v = Value.ref a := rv
    exact ⟨_, begins_list a its.toArray, p.isList, fun b hb => by rw [List.mem_singleton.mp hb]; exact p.lt, fun it h e => ⟨_, e, rfl, rfl⟩⟩
  | t a =>
    obtain ⟨its, rv', p, _⟩ := I.tuple r
    obtain rfl : v = Value.ref a := rv
    exact ⟨_, begins_tuple a its.toArray, p, fun b hb => by rw [List.mem_singleton.mp hb]; obtain ⟨o, ho, _⟩ := p; exact Heap.lt_size ho, fun it h e => ⟨_, e, rfl, rfl⟩⟩
  | s x =>
    obtain ⟨tk, rfl⟩ : ∃ tk, v = Value.str x tk := rv
    exact ⟨fun _ => True, begins_text x tk, trivial, fun b hb => (by cases hb), fun it h e => ⟨tk, _, e, rfl, rfl⟩⟩
end
/-- pairs drawn from two -/
def ItZ (K : PySem.W.Frag) (k1 k2 : SK) : It :=
  ⟨fun i H => ∃ (xs ys : List V), rdS K H k1 xs ∧ rdS K H k2 ys ∧ i < min xs.length ys.length,
    fun i H v H' => ∃ T x y, v = .ref T ∧ H T = none ∧ H' = upd H T (.tup [x, y]) ∧ (∀ xs, rdS K H k1 xs → xs[i]? = some x) ∧ ∀ ys, rdS K H k2 ys → ys[i]? = some y,
    fun i H => ∃ xs ys : List V, rdS K H k1 xs ∧ rdS K H k2 ys ∧ i = min xs.length ys.length⟩
theorem turn_Z {P : Program} {w : World} {K : PySem.W.Frag} {elts : List Expr} {kk : Nat} {tpos : Pos} {k1 k2 : SK} {z TI TO i1 i2 : Addr} (D : ZipSep2 z TI TO i1 i2 (i1 :: k1.at) (i2 :: k2.at)) (n1 : i1 ∉ k1.at) (n2 : i2 ∉ k2.at) :
    Turn P w K (.Tuple elts kk tpos) (ItZ K k1 k2) [z, TI, TO, i1, i2] z (fun i h => IsZip h z TI TO .none ∧ IsTupOf2 h TI (.ref i1) (.ref i2) ∧ (∃ x y, IsTupOf2 h TO x y) ∧ tnS k1 i1 i h ∧ tnS k2 i2 i h) where
  mem := by simp
  obj := fun i h st c hc => by
    obtain ⟨hz, hTI, ⟨x, y, hTO⟩, s1, s2⟩ := st
    have e' : c = z ∨ c = TI ∨ c = TO ∨ c = i1 ∨ c = i2 := by simpa using hc
    rcases e' with q | q | q | q | q
    · rw [q]; exact ⟨_, hz, fun v q => nomatch q⟩
    · rw [q]; exact ⟨_, hTI, fun v q => nomatch q⟩
    · rw [q]; exact ⟨_, hTO, fun v q => nomatch q⟩
    · rw [q]; exact tnS_obj s1
    · rw [q]; exact tnS_obj s2
  keep := fun i h h' st k => by
    obtain ⟨hz, hTI, ⟨x, y, hTO⟩, h1, h2⟩ := st
    exact ⟨k z (by simp) _ hz, k TI (by simp) _ hTI, ⟨x, y, k TO (by simp) _ hTO⟩, tnS_at h1 fun o q => k i1 (by simp) o q, tnS_at h2 fun o q => k i2 (by simp) o q⟩
  item := by
    intro X hP hw hK hc i pins s σ H E I hf st hg
    subst hP hw hK
    obtain ⟨hz, hTI, hTO, h1, h2⟩ := st
    obtain ⟨xs, ys, r1, r2, hlt⟩ := hg
    obtain ⟨P1, St1, D1, st1, p1, b1⟩ := rdS_draws I (I.ok.hd hc) r1 h1 n1
    obtain ⟨P2, St2, D2, st2, p2, b2⟩ := rdS_draws I (I.ok.hd hc) r2 h2 n2
    have fl : ∀ c ∈ [z, TI, TO, i1, i2], c < s.heap.objs.size := fun c hcm => by
      have e' : c = z ∨ c = TI ∨ c = TO ∨ c = i1 ∨ c = i2 := by simpa using hcm
      obtain ⟨x, y, hTO⟩ := hTO
      rcases e' with q | q | q | q | q
      · rw [q]; exact Heap.lt_size hz
      · rw [q]; exact Heap.lt_size hTI
      · rw [q]; exact Heap.lt_size hTO
      · rw [q]; obtain ⟨o, ho, _⟩ := tnS_obj h1; exact Heap.lt_size ho
      · rw [q]; obtain ⟨o, ho, _⟩ := tnS_obj h2; exact Heap.lt_size ho
    refine (GoesN.zip2 (elts := elts) (x1 := kk) (pos := tpos) D D1 D2).goes i s (fun u s2 => ∃ x H', Inv X pins σ H' s2 ∧ RelV x u ∧ (ItZ X.K k1 k2).yld i H x H' ∧ (IsZip s2.heap z TI TO .none ∧ IsTupOf2 s2.heap TI (.ref i1) (.ref i2) ∧ (∃ x y, IsTupOf2 s2.heap TO x y) ∧ tnS k1 i1 (i + 1) s2.heap ∧ tnS k2 i2 (i + 1) s2.heap) ∧ ∀ b ∈ [z, TI, TO, i1, i2], H' b = none) E hlt ⟨hz, hTI, hTO, st1, st2⟩ ?_
    intro v h' tk hy hst hk ht
    obtain ⟨T, x, y, rfl, hT, px, py, hTup⟩ := hy
    obtain ⟨vx, ex, rx⟩ := p1 i x (by omega) px
    obtain ⟨vy, ey, ry⟩ := p2 i y (by omega) py
    have hfr : H T = none := I.hok.fresh hT
    have new : ObjOk X.prog X.w (upd H T (.tup [vx, vy])) h' T (.tup [vx, vy]) := ⟨by show 2 ≤ sizeLine; decide, [x, y], .cons rx (.cons ry .nil), hTup⟩
    refine ⟨.ref T, _, I.turnedNew (t' := tk) (ch := [z, TI, TO, i1, i2]) (fun c o hb q => hk c o (fun hm => hb ?_) q) hf hT new, rfl, ⟨T, vx, vy, rfl, hfr, rfl, fun l hl => by rw [rdS_inj I hl r1]; exact ex, fun l hl => by rw [rdS_inj I hl r2]; exact ey⟩, ⟨hst.1, hst.2.1, hst.2.2.1, b1 _ _ hst.2.2.2.1, b2 _ _ hst.2.2.2.2⟩, fun b hb => ?_⟩
    · have e' : c = z ∨ c = TO ∨ c = i1 ∨ c = i2 := by simpa using hm
      rcases e' with q | q | q | q <;> simp [q]
    · rw [upd_ne (Nat.ne_of_lt (Nat.lt_of_lt_of_le (fl b hb) hT))]
      exact (hf b hb).1
  done := by
    intro X hP hw hK hc i pins s σ H E I hf st hg
    subst hP hw hK
    obtain ⟨hz, hTI, hTO, h1, h2⟩ := st
    obtain ⟨xs, ys, r1, r2, rfl⟩ := hg
    obtain ⟨P1, St1, D1, st1, p1, b1⟩ := rdS_draws I (I.ok.hd hc) r1 h1 n1
    obtain ⟨P2, St2, D2, st2, p2, b2⟩ := rdS_draws I (I.ok.hd hc) r2 h2 n2
    refine (GoesN.zip2 (elts := elts) (x1 := kk) (pos := tpos) D D1 D2).stops s (fun s1 => Inv X pins σ H s1) E ⟨hz, hTI, hTO, st1, st2⟩ fun h' tk hk ht => ?_
    exact I.turnedL (t' := tk) (ch := [z, TI, TO, i1, i2]) (fun c o hb q => hk c o (fun hm => hb (by
      have e' : c = z ∨ c = TO ∨ c = i1 ∨ c = i2 := by simpa using hm
      rcases e' with q | q | q | q <;> simp [q])) q) hf
  self := fun A i s Q E st h => wpAny_pyIter_zip st.1 h
def iZ (K : PySem.W.Frag) (ta : TA) : TI := fun σ H R => ta σ H fun vs H1 => ∃ k1 k2 xs ys, vs = [kvS k1, kvS k2] ∧ rdS K H1 k1 xs ∧ rdS K H1 k2 ys ∧ R (ItZ K k1 k2) H1
theorem pi_Z {X : Cx} {e e2 : Expr} {ta : TA} {p pos tpos : Pos} {elts : List Expr} {kk : Nat} (hg : Gl X "zip") (hm : X.mg "zip" = none) (ha : PA X [e, e2] ta)
    (hs : starEach [e, e2] X.env = (false, eval e X.env) :: starEach [e2] X.env := by rfl) (hpl : (backTo pos (starEach [e2] X.env)).any (·.1) = false := by rfl) :
    PI X (.Tuple elts kk tpos) (.Call (.Name "zip" p) [e, e2] [] pos) (iZ X.K ta) := by
  refine ⟨fun pins s σ H R I h => ?_⟩
  refine Call_ (ld_blt I hg hm PyProof.Rows.boot_zip (PyProof.Rows.callWith_type1 (thn (ha.run pos pins s σ H _ I h) fun us s1 ⟨vs, H1, I1, r1, q1⟩ => ?_) hs hpl))
  obtain ⟨k1, k2, xs, ys, rfl, d1, d2, q⟩ := q1
  cases r1 with
  | cons r rr =>
    cases rr with
    | cons r' rr =>
      cases rr
      rename_i u1 u2
      obtain ⟨Hp1, B1, hp1, l1, t1⟩ := rdS_begins I1 d1 r
      obtain ⟨Hp2, B2, hp2, l2, t2⟩ := rdS_begins I1 d2 r'
      refine zip_begins2 B1 B2 hp1 hp2 fun h' hz hTI hTO h1 h2 hsz hk => wpAny_pyIter_zip hz ?_
      have I2 : Inv X pins σ H1 { s1 with heap := h' } := I1.kept (t' := s1.toks) hk
      have fresh5 : ∀ c, c ∈ [s1.heap.objs.size + 4, s1.heap.objs.size + 2, s1.heap.objs.size + 3, s1.heap.objs.size, s1.heap.objs.size + 1] → FpOk X pins H1 c := fun c hcm => by
        have hle : s1.heap.objs.size ≤ c := by
          simp only [List.mem_cons, List.not_mem_nil, or_false] at hcm
          rcases hcm with z | z | z | z | z
          · exact z ▸ Nat.le_add_right _ _
          · exact z ▸ Nat.le_add_right _ _
          · exact z ▸ Nat.le_add_right _ _
          · exact z ▸ Nat.le_refl _
          · exact z ▸ Nat.le_add_right _ _
        exact I1.fpOk hle (I1.hok.fresh hle)
      exact ⟨s1.heap.objs.size + 4, [s1.heap.objs.size + 4, s1.heap.objs.size + 2, s1.heap.objs.size + 3, s1.heap.objs.size, s1.heap.objs.size + 1], _, _, H1, rfl, I2, turn_Z (zip_sep2 l1 l2) (fun hm => Nat.lt_irrefl _ (l1 _ hm)) (fun hm => Nat.not_succ_lt_self (l2 _ hm)), ⟨hz, hTI, ⟨_, _, hTO⟩, t1 _ _ h1, t2 _ _ h2⟩, fresh5, q⟩

theorem enum_new1 {v : Value} {o : Obj} {H : Heap → Prop} (B : Begins v o H) :
    Meets (Builtin.«enumerate.__new__» ⟨[.type "enumerate", v], []⟩) (fun _ R s => H s.heap ∧
      R (.ok (.ret (.ref (s.heap.push o).objs.size))) { s with heap := (s.heap.push o).push { cls := .type "enumerate", data := .fields #[.none, .bool false, .ref s.heap.objs.size, rawInt 0, .none, .none] } }) :=
  .of_wp fun prog w A R s h => by
    obtain ⟨hp, g, d, tk, os⟩ := s
    obtain ⟨h1, h⟩ := h
    have hsub := sub_enumerate
    have q1 : ∀ {A' : Around} {E : Value → Shared → Prop} {Q : Value → Shared → Prop}, Q (.ref hp.objs.size) ⟨hp.push o, g, d, tk, os⟩ → wpAny (model prog w) A' (pyIter v) Q E ⟨hp, g, d, tk, os⟩ := fun q => B.iter prog w _ _ ⟨hp, g, d, tk, os⟩ _ h1 q
    wp_walk using q1
    refine wpAny_stack_any fun st => wpAny_pure ?_
    split
    · rename_i c _ _ _ _ _
      cases (c == Value.type "enumerate") <;> (wp_walk using q1; exact ⟨_, rfl, h⟩)
    · wp_walk using q1
      exact ⟨_, rfl, h⟩
theorem enum_begins1 {prog : Program} {w : World} {A : Around} {E : Value → Shared → Prop} {s : Shared} {v : Value} {o : Obj} {H : Heap → Prop} {Q : Value → Shared → Prop} (B : Begins v o H) (h1 : H s.heap)
    (h : ∀ h', IsEnum h' (s.heap.objs.size + 1) s.heap.objs.size 0 .none → h'.get? s.heap.objs.size = some o → (∀ b o, s.heap.get? b = some o → h'.get? b = some o) → Q (.ref (s.heap.objs.size + 1)) { s with heap := h' }) :
    wpAny (model prog w) A (call (.type "enumerate") [v]) Q E s := by
  refine callType_new F.called_enumerate (by decide) (F.typeCall_enumerate_1 _) (F.newCall_enumerate_1 _) (fun obj => F.args_object_init_2 obj _) F.entry_enumerate_new (enum_new1 B) ⟨h1, ?_⟩
  have hz : (s.heap.push o).objs.size = s.heap.objs.size + 1 := Heap.size_push ..
  have he : IsEnum ((s.heap.push o).push { cls := .type "enumerate", data := .fields #[.none, .bool false, .ref s.heap.objs.size, rawInt 0, .none, .none] }) (s.heap.objs.size + 1) s.heap.objs.size 0 .none := by
    have e := Heap.get?_push_size (s.heap.push o) (o := { cls := .type "enumerate", data := .fields #[.none, .bool false, .ref s.heap.objs.size, rawInt 0, .none, .none] }) rfl
    rw [hz] at e
    exact e
  show _ ∧ _
  rw [hz]
  exact ⟨⟨_, he, rfl⟩, h _ he (Heap.get?_push_of_some _ (Heap.get?_push_size _ B.free)) fun b o x => Heap.get?_push_of_some _ (Heap.get?_push_of_some _ x)⟩
def ItE (K : PySem.W.Frag) (k : SK) : It :=
  ⟨fun i H => ∃ xs : List V, rdS K H k xs ∧ i < xs.length,
    fun i H v H' => ∃ T x, v = .ref T ∧ H T = none ∧ H' = upd H T (.tup [.int (i : Nat), x]) ∧ ∀ xs, rdS K H k xs → xs[i]? = some x,
    fun i H => ∃ xs : List V, rdS K H k xs ∧ i = xs.length⟩
theorem turn_E {P : Program} {w : World} {K : PySem.W.Frag} {elts : List Expr} {kk : Nat} {tpos : Pos} {k : SK} {e it : Addr} (hne : e ≠ it) (he : e ∉ k.at) (hi : it ∉ k.at) :
    Turn P w K (.Tuple elts kk tpos) (ItE K k) [e, it] e (fun i h => (∃ old, IsEnum h e it (0 + (i : Nat)) old) ∧ tnS k it i h) where
  mem := by simp
  obj := fun i h st b hb => by
    obtain ⟨⟨old, he⟩, h1⟩ := st
    have e' : b = e ∨ b = it := by simpa using hb
    rcases e' with z | z
    · rw [z]; exact ⟨_, he, fun v q => nomatch q⟩
    · rw [z]; exact tnS_obj h1
  keep := fun i h h' st k => let ⟨⟨old, he⟩, hi⟩ := st; ⟨⟨old, k e (by simp) _ he⟩, tnS_at hi fun o q => k it (by simp) o q⟩
  item := by
    intro X hP hw hK hc i pins s σ H E I hf st hg
    subst hP hw hK
    obtain ⟨hen, h1⟩ := st
    obtain ⟨xs, r1, hlt⟩ := hg
    obtain ⟨P1, St1, D1, st1, p1, b1⟩ := rdS_draws I (I.ok.hd hc) r1 h1 hi
    have fl : ∀ c ∈ [e, it], c < s.heap.objs.size := fun c hcm => by
      have e' : c = e ∨ c = it := by simpa using hcm
      obtain ⟨old, hen⟩ := hen
      rcases e' with q | q
      · rw [q]; exact Heap.lt_size hen
      · rw [q]; obtain ⟨o, ho, _⟩ := tnS_obj h1; exact Heap.lt_size ho
    refine (GoesN.enumFrom (elts := elts) (x1 := kk) (pos := tpos) 0 D1 e hne (fun hm => (List.mem_cons.mp hm).elim hne he) (by simp)).goes i s (fun u s2 => ∃ x H', Inv X pins σ H' s2 ∧ RelV x u ∧ (ItE X.K k).yld i H x H' ∧ ((∃ old, IsEnum s2.heap e it (0 + ((i + 1 : Nat) : Int)) old) ∧ tnS k it (i + 1) s2.heap) ∧ ∀ b ∈ [e, it], H' b = none) E hlt ⟨hen, st1⟩ ?_
    intro v h' tk hy hst hk ht
    obtain ⟨T, t, x, rfl, hT, px, hTup⟩ := hy
    obtain ⟨vx, ex, rx⟩ := p1 i x hlt px
    have hfr : H T = none := I.hok.fresh hT
    have new : ObjOk X.prog X.w (upd H T (.tup [.int (i : Nat), vx])) h' T (.tup [.int (i : Nat), vx]) := ⟨by show 2 ≤ sizeLine; decide, [.int (0 + (i : Int)) t, x], .cons ⟨t, by rw [Int.zero_add]⟩ (.cons rx .nil), hTup⟩
    exact ⟨.ref T, _, I.turnedNew (t' := tk) (ch := [e, it]) (fun c o hb q => hk c o hb q) hf hT new, rfl, ⟨T, vx, rfl, hfr, rfl, fun l hl => by rw [rdS_inj I hl r1]; exact ex⟩, ⟨hst.1, b1 _ _ hst.2⟩, fun b hb => by
      rw [upd_ne (Nat.ne_of_lt (Nat.lt_of_lt_of_le (fl b hb) hT))]
      exact (hf b hb).1⟩
  done := by
    intro X hP hw hK hc i pins s σ H E I hf st hg
    subst hP hw hK
    obtain ⟨hen, h1⟩ := st
    obtain ⟨xs, r1, rfl⟩ := hg
    obtain ⟨P1, St1, D1, st1, p1, b1⟩ := rdS_draws I (I.ok.hd hc) r1 h1 hi
    refine (GoesN.enumFrom (elts := elts) (x1 := kk) (pos := tpos) 0 D1 e hne (fun hm => (List.mem_cons.mp hm).elim hne he) (by simp)).stops s (fun s1 => Inv X pins σ H s1) E ⟨hen, st1⟩ fun h' tk hk ht => ?_
    exact I.turnedL (t' := tk) (ch := [e, it]) (fun c o hb q => hk c o hb q) hf
  self := fun A i s Q E st h => let ⟨⟨_, he⟩, _⟩ := st; wpAny_pyIter_enum he h
def iE (K : PySem.W.Frag) (ta : TA) : TI := fun σ H R => ta σ H fun vs H1 => ∃ k xs, vs = [kvS k] ∧ rdS K H1 k xs ∧ R (ItE K k) H1
theorem pi_E {X : Cx} {e : Expr} {ta : TA} {p pos tpos : Pos} {elts : List Expr} {kk : Nat} (hg : Gl X "enumerate") (hm : X.mg "enumerate" = none) (ha : PA X [e] ta) (hs : starEach [e] X.env = [(false, eval e X.env)] := by rfl) :
    PI X (.Tuple elts kk tpos) (.Call (.Name "enumerate" p) [e] [] pos) (iE X.K ta) := by
  refine ⟨fun pins s σ H R I h => ?_⟩
  refine Call_ (ld_blt I hg hm boot_enumerate (PyProof.Rows.callWith_type1 (thn (ha.run pos pins s σ H _ I h) fun us s1 ⟨vs, H1, I1, r1, q1⟩ => ?_) hs rfl))
  obtain ⟨k, xs, rfl, d1, q⟩ := q1
  cases r1 with
  | cons r rr =>
    cases rr
    obtain ⟨Hp1, B1, hp1, l1, t1⟩ := rdS_begins I1 d1 r
    refine enum_begins1 B1 hp1 fun h' he hit hk => wpAny_pyIter_enum he ?_
    have I2 : Inv X pins σ H1 { s1 with heap := h' } := I1.kept (t' := s1.toks) hk
    refine ⟨s1.heap.objs.size + 1, [s1.heap.objs.size + 1, s1.heap.objs.size], _, _, H1, rfl, I2, turn_E (Nat.succ_ne_self _) (fun hm => Nat.not_succ_lt_self (l1 _ hm)) (fun hm => Nat.lt_irrefl _ (l1 _ hm)), ⟨⟨.none, he⟩, t1 _ _ hit⟩, fun b hb => ?_, q⟩
    have hle : s1.heap.objs.size ≤ b := by
      simp only [List.mem_cons, List.not_mem_nil, or_false] at hb
      rcases hb with z | z
      · exact z ▸ Nat.le_add_right _ _
      · exact z ▸ Nat.le_refl _
    exact I1.fpOk hle (I1.hok.fresh hle)
end DL

namespace DL
open PySem PySem.Spec PyProof.Rows L2
variable {T : LT}
/-! ### any source, item by item -/
def ItS (K : PySem.W.Frag) : SK → It
  | .l a => Itl K a
  | .t a => Itt K a
  | .s x => Its x
def iS (K : PySem.W.Frag) (te : TE) : TI := fun σ H R => te σ H fun v H1 => ∃ k xs, v = kvS k ∧ rdS K H1 k xs ∧ R (ItS K k) H1
theorem pi_S {X : Cx} {tg e : Expr} {te : TE} (he : PE X e te) : PI X tg e (iS X.K te) := by
  refine ⟨fun pins s σ H R I h => ?_⟩
  refine thn (he.run pins s σ H _ I h) fun v s1 ⟨x, H1, I1, r1, k, xs, ex, d, q⟩ => ?_
  subst ex
  obtain ⟨Hp1, B, hp, _, t⟩ := rdS_begins I1 d r1
  refine B.iter _ _ _ _ s1 _ hp ?_
  have st := t s1.heap.objs.size (s1.heap.push (obS k v)) (Heap.get?_push_size _ B.free)
  cases k with
  | l a => exact pi_one (tk := s1.toks) I1 _ (turn_list a _) st q
  | t a => exact pi_one (tk := s1.toks) I1 _ (turn_tuple a _) st q
  | s x =>
    obtain ⟨tk, st⟩ := st
    refine pi_one (tk := s1.toks) I1 _ (turn_str _ x tk (strIterType x) ?_) st q
    unfold strIterType
    split
    · exact .inl rfl
    · exact .inr rfl
def signsD (s : String) : List D := s.toList.map fun c => .str (String.singleton c)
def iterD (G : DG) : D → Option (List D)
  | .tup xs => some xs
  | .str s => some (signsD s)
  | d => asL G d
def adr : V → Addr
  | .ref a => a
  | _ => 0
def kD : D → V → SK
  | .tup _, v => .t (adr v)
  | .str s, _ => .s (S s)
  | _, v => .l (adr v)
theorem S_single (c : Char) : S (String.singleton c) = ⟨#[c.toNat]⟩ := by
  unfold S
  rw [Str.ofString_eq_toList]
  simp
section
variable {K : PySem.W.Frag} {F : FS} {G : DG} {H : Hp}
theorem relDs_signs (s : String) : RelDs K F H (signsD s) (signV (S s)) := by
  unfold signsD signV
  rw [S_cps]
  induction s.toList with
  | nil => rfl
  | cons c cs ih => exact ⟨_, _, rfl, (show V.str _ = V.str (S (String.singleton c)) by rw [S_single]), ih⟩
theorem srcD {d : D} {v : V} {ds : List D} (hg : RelG K T F G H) (r : RelD K F H d v) (e : iterD G d = some ds) : v = kvS (kD d v) ∧ ∃ vs, rdS K H (kD d v) vs ∧ RelDs K F H ds vs := by
  have key : ∀ d', asL G d' = some ds → RelD K F H d' v → v = .ref (adr v) ∧ ∃ vs, SqL K H (adr v) vs ∧ RelDs K F H ds vs := fun d' e r => by
    obtain ⟨a, vs, rfl, h, k⟩ := asL_ok hg r e
    exact ⟨rfl, vs, .inl h, k⟩
  cases d with
  | tup xs =>
    cases e
    obtain ⟨a, vs, rfl, t, k⟩ := r
    exact ⟨rfl, vs, t.sq, k⟩
  | str s =>
    cases e
    exact ⟨r, _, rfl, relDs_signs s⟩
  | lst xs => exact key (.lst xs) e r
  | ref a => exact key (.ref a) e r
  | _ => cases e
end
/-! ranges -/
def intsFrom (lo : Int) : Nat → List D
  | 0 => []
  | n + 1 => .int lo :: intsFrom (lo + 1) n
theorem intsFrom_len : ∀ (n : Nat) (lo : Int), (intsFrom lo n).length = n
  | 0, _ => rfl
  | n + 1, lo => by simp [intsFrom, intsFrom_len n]
theorem intsFrom_get : ∀ (n : Nat) (lo : Int) (i : Nat), i < n → (intsFrom lo n)[i]? = some (.int (lo + i))
  | 0, _, i, h => by omega
  | n + 1, lo, 0, h => by simp [intsFrom]
  | n + 1, lo, i + 1, h => by
    simp only [intsFrom, List.getElem?_cons_succ]
    rw [intsFrom_get n (lo + 1) i (by omega)]
    congr 2
    omega
def dRange1 (ta : DTA) : DTI := fun E env G Q => ta E env G fun xs G1 => ∃ hi, xs = [.int hi] ∧ -(2 ^ 62) ≤ hi ∧ hi < 2 ^ 62 ∧ Q (intsFrom 0 hi.toNat) (fun _ => True) G1
def dIter (te : DTE) : DTI := fun E env G Q => te E env G fun d G1 => ∃ xs, iterD G1 d = some xs ∧ Q xs (fun G' => iterD G' d = some xs) G1
def zipD : List D → List D → List D
  | x :: xs, y :: ys => .tup [x, y] :: zipD xs ys
  | _, _ => []
def enumD (i : Nat) : List D → List D
  | [] => []
  | x :: xs => .tup [.int i, x] :: enumD (i + 1) xs
theorem zipD_len : ∀ xs ys : List D, (zipD xs ys).length = min xs.length ys.length
  | [], ys => by simp [zipD]
  | x :: xs, [] => by simp [zipD]
  | x :: xs, y :: ys => by simp [zipD, zipD_len xs ys]
theorem enumD_len : ∀ (xs : List D) (i : Nat), (enumD i xs).length = xs.length
  | [], _ => rfl
  | x :: xs, i => by simp [enumD, enumD_len xs]
theorem zipD_get : ∀ (xs ys : List D) (i : Nat) (d : D), (zipD xs ys)[i]? = some d → ∃ x y, xs[i]? = some x ∧ ys[i]? = some y ∧ d = .tup [x, y]
  | [], ys, i, d, e => by simp [zipD] at e
  | x :: xs, [], i, d, e => by simp [zipD] at e
  | x :: xs, y :: ys, 0, d, e => by
    simp only [zipD, List.getElem?_cons_zero, Option.some.injEq] at e
    exact ⟨x, y, rfl, rfl, e.symm⟩
  | x :: xs, y :: ys, i + 1, d, e => by
    simp only [zipD, List.getElem?_cons_succ] at e ⊢
    exact zipD_get xs ys i d e
theorem enumD_get : ∀ (xs : List D) (k i : Nat) (d : D), (enumD k xs)[i]? = some d → ∃ x, xs[i]? = some x ∧ d = .tup [.int ((k + i : Nat) : Int), x]
  | [], k, i, d, e => by simp [enumD] at e
  | x :: xs, k, 0, d, e => by
    simp only [enumD, List.getElem?_cons_zero, Option.some.injEq] at e
    exact ⟨x, rfl, e.symm⟩
  | x :: xs, k, i + 1, d, e => by
    simp only [enumD, List.getElem?_cons_succ] at e ⊢
    obtain ⟨y, h1, h2⟩ := enumD_get xs (k + 1) i d e
    exact ⟨y, h1, by rw [h2]; congr 3; omega⟩
def dZip (ta : DTA) : DTI := fun E env G Q => ta E env G fun xs G1 => ∃ a b as bs, xs = [a, b] ∧ iterD G1 a = some as ∧ iterD G1 b = some bs ∧ Q (zipD as bs) (fun G' => iterD G' a = some as ∧ iterD G' b = some bs) G1
def dEnum (ta : DTA) : DTI := fun E env G Q => ta E env G fun xs G1 => ∃ a as, xs = [a] ∧ iterD G1 a = some as ∧ Q (enumD 0 as) (fun G' => iterD G' a = some as) G1
section
variable {X : Cx} {W : WX} {pos p tpos : Pos} {tg e e2 : Expr} {te : DTE} {ta : DTA}
theorem qi_it (he : QE X T W e te) : QI X T W tg e (dIter te) :=
  PI.imp (pi_S he) fun σ H R ⟨env, F, G, E, P, hg, hs, hx, ht, hq⟩ => ⟨env, F, G, E, _, hg, hs, hx, ht, fun d F1 G1 v1 H1 ⟨ds, ed, p⟩ s1 g1 r1 => by
    obtain ⟨ek, vs, rd, rl⟩ := srcD g1 r1 ed
    refine ⟨_, vs, ek, rd, hq ds _ F1 G1 H1 _ p s1 g1 fun i F2 G2 H2 s2 g2 gd => ?_⟩
    obtain ⟨_, vs2, rd2, rl2⟩ := srcD g2 (RelD.step s2 d r1) gd
    have hl := rl2.length
    constructor
    · intro d' e'
      obtain ⟨x, ex, rx⟩ := rl2.get e'
      cases hk : kD d v1 with
      | l a =>
        rw [hk] at rd2
        exact ⟨⟨vs2, x, rd2, ex⟩, fun y H3 ⟨eH, hy⟩ => ⟨F2, by rw [eH]; exact ⟨Step.refl, g2, by have := hy vs2 rd2; rw [ex] at this; cases this; exact rx⟩⟩⟩
      | t a =>
        rw [hk] at rd2
        exact ⟨⟨vs2, x, rd2, ex⟩, fun y H3 ⟨eH, hy⟩ => ⟨F2, by rw [eH]; exact ⟨Step.refl, g2, by have := hy vs2 rd2; rw [ex] at this; cases this; exact rx⟩⟩⟩
      | s z =>
        rw [hk] at rd2
        have ez : vs2 = signV z := rd2
        subst ez
        have hi : i < z.cps.size := by
          have := (List.getElem?_eq_some_iff.mp ex).1
          simpa [signV] using this
        refine ⟨hi, ?_⟩
        rintro y H3 ⟨rfl, c, hc, ey⟩
        refine ⟨F2, Step.refl, g2, ?_⟩
        have : (signV z)[i]? = some y := by rw [ey]; simp [signV, hc]
        rw [ex] at this
        cases this
        exact rx
    · intro e'
      subst e'
      cases hk : kD d v1 with
      | l a => rw [hk] at rd2; exact ⟨vs2, rd2, Nat.le_of_eq hl.symm⟩
      | t a => rw [hk] at rd2; exact ⟨vs2, rd2, Nat.le_of_eq hl.symm⟩
      | s z =>
        rw [hk] at rd2
        show z.cps.size ≤ _
        rw [hl, show vs2 = signV z from rd2]
        simp [signV]⟩
theorem iterOk_rng {K : PySem.W.Frag} {F : FS} {G : DG} {H : Hp} (lo : Int) (n : Nat) : IterOk K T F G H (Itr lo n) (intsFrom lo n) fun _ => True := fun i F1 G1 H1 s1 g1 _ => by
  constructor
  · intro d e
    have hi : i < n := by
      have := (List.getElem?_eq_some_iff.mp e).1
      rwa [intsFrom_len] at this
    rw [intsFrom_get n lo i hi] at e
    cases e
    exact ⟨hi, fun x H2 ⟨eH, ex⟩ => ⟨F1, by rw [eH]; exact ⟨Step.refl, g1, ex⟩⟩⟩
  · intro e
    rw [intsFrom_len] at e
    exact Nat.le_of_eq e.symm
theorem qi_range1 (hg : Gl X "range") (hm : X.mg "range" = none) (ha : QA X T W [e] ta) (hs : starEach [e] X.env = [(false, eval e X.env)] := by rfl) : QI X T W tg (.Call (.Name "range" p) [e] [] pos) (dRange1 ta) :=
  PI.imp (pi_range1 hg hm ha hs) fun σ H R ⟨env, F, G, E, P, hg, hs, hx, ht, hq⟩ => ⟨env, F, G, E, _, hg, hs, hx, ht, fun ds F1 G1 vs H1 ⟨hi, er, b3, b4, p⟩ s1 g1 r1 => by
    subst er
    obtain ⟨v, r, rfl, ev, er⟩ := r1
    have e1 : v = .int hi := ev
    have e2 : r = [] := er
    subst e1 e2
    exact ⟨hi, rfl, b3, b4, hq _ _ F1 G1 H1 _ p s1 g1 (iterOk_rng 0 _)⟩⟩
theorem qi_zip {elts : List Expr} {kk : Nat} (hg : Gl X "zip") (hm : X.mg "zip" = none) (ha : QA X T W [e, e2] ta)
    (hs : starEach [e, e2] X.env = (false, eval e X.env) :: starEach [e2] X.env := by rfl) (hpl : (backTo pos (starEach [e2] X.env)).any (·.1) = false := by rfl) :
    QI X T W (.Tuple elts kk tpos) (.Call (.Name "zip" p) [e, e2] [] pos) (dZip ta) :=
  PI.imp (pi_Z hg hm ha hs hpl) fun σ H R ⟨env, F, G, E, P, hg, hs, hx, ht, hq⟩ => ⟨env, F, G, E, _, hg, hs, hx, ht, fun ds F1 G1 vs H1 ⟨a, b, as, bs, er, ea, eb, p⟩ s1 g1 r1 => by
    subst er
    obtain ⟨v, r, rfl, rv, v2, r2, rfl, rv2, er⟩ := r1
    have e3 : r2 = [] := er
    subst e3
    obtain ⟨ek, us, rd, rl⟩ := srcD g1 rv ea
    obtain ⟨ek2, us2, rd2, rl2⟩ := srcD g1 rv2 eb
    refine ⟨kD a v, kD b v2, us, us2, by rw [← ek, ← ek2], rd, rd2, hq _ _ F1 G1 H1 _ p s1 g1 fun i F2 G2 H2 s2 g2 gd => ?_⟩
    obtain ⟨_, ws, rd3, rl3⟩ := srcD g2 (RelD.step s2 a rv) gd.1
    obtain ⟨_, ws2, rd4, rl4⟩ := srcD g2 (RelD.step s2 b rv2) gd.2
    have l3 := rl3.length
    have l4 := rl4.length
    constructor
    · intro d e
      have hlt := (List.getElem?_eq_some_iff.mp e).1
      rw [zipD_len] at hlt
      obtain ⟨x, y, ex, ey, rfl⟩ := zipD_get as bs i d e
      obtain ⟨vx, evx, rx⟩ := rl3.get ex
      obtain ⟨vy, evy, ry⟩ := rl4.get ey
      refine ⟨⟨ws, ws2, rd3, rd4, by omega⟩, ?_⟩
      rintro z H3 ⟨T, x', y', rfl, hT, rfl, f1, f2⟩
      have q1 := f1 ws rd3
      have q2 := f2 ws2 rd4
      rw [evx] at q1
      rw [evy] at q2
      cases q1
      cases q2
      exact ⟨_, Step.new hT, g2.new hT, relD_newTup g2 hT ⟨_, _, rfl, rx, _, _, rfl, ry, rfl⟩⟩
    · intro e
      rw [zipD_len] at e
      exact ⟨ws, ws2, rd3, rd4, by omega⟩⟩
theorem qi_enum {elts : List Expr} {kk : Nat} (hg : Gl X "enumerate") (hm : X.mg "enumerate" = none) (ha : QA X T W [e] ta) (hs : starEach [e] X.env = [(false, eval e X.env)] := by rfl) :
    QI X T W (.Tuple elts kk tpos) (.Call (.Name "enumerate" p) [e] [] pos) (dEnum ta) :=
  PI.imp (pi_E hg hm ha hs) fun σ H R ⟨env, F, G, E, P, hg, hs, hx, ht, hq⟩ => ⟨env, F, G, E, _, hg, hs, hx, ht, fun ds F1 G1 vs H1 ⟨a, as, er, ea, p⟩ s1 g1 r1 => by
    subst er
    obtain ⟨v, r, rfl, rv, er⟩ := r1
    have e3 : r = [] := er
    subst e3
    obtain ⟨ek, us, rd, rl⟩ := srcD g1 rv ea
    refine ⟨kD a v, us, by rw [← ek], rd, hq _ _ F1 G1 H1 _ p s1 g1 fun i F2 G2 H2 s2 g2 gd => ?_⟩
    obtain ⟨_, ws, rd3, rl3⟩ := srcD g2 (RelD.step s2 a rv) gd
    have l3 := rl3.length
    constructor
    · intro d e
      have hlt := (List.getElem?_eq_some_iff.mp e).1
      rw [enumD_len] at hlt
      obtain ⟨x, ex, rfl⟩ := enumD_get as 0 i d e
      obtain ⟨vx, evx, rx⟩ := rl3.get ex
      refine ⟨⟨ws, rd3, by omega⟩, ?_⟩
      rintro z H3 ⟨T, x', rfl, hT, rfl, f1⟩
      have q1 := f1 ws rd3
      rw [evx] at q1
      cases q1
      exact ⟨_, Step.new hT, g2.new hT, relD_newTup g2 hT ⟨_, _, rfl, (show V.int _ = V.int _ by rw [Nat.zero_add]), _, _, rfl, rx, rfl⟩⟩
    · intro e
      rw [enumD_len] at e
      exact ⟨ws, rd3, by omega⟩⟩
end
/-! ### comprehensions -/
abbrev QTs (X : Cx) (T : LT) (W : WX) (es : List Expr) (t : DTT) : Prop := PTs X es (liftT X.K T W t)
theorem PTs.imp {X : Cx} {es : List Expr} {t t' : TT} (h : PTs X es t) (k : ∀ σ H Q, t' σ H Q → t σ H Q) : PTs X es t' := ⟨fun pins s σ H Q I w => h.run pins s σ H Q I (k σ H Q w)⟩
theorem qts_nil {X : Cx} {W : WX} : QTs X T W [] dYes := PTs.imp pts_nil fun σ H Q ⟨env, F, G, E, P, hg, hs, hx, ht, hq⟩ => hq true F G H ht Step.refl hg
theorem qts_one {X : Cx} {W : WX} {c : Expr} {t : DTT} (h : QT X T W c t) : QTs X T W [c] t := pts_one h
section
variable {X : Cx} {W : WX} {elt tg iter : Expr} {ifs : List Expr} {scope : Scope} {own : List (Str × Nat)} {pos : Pos} {wi : DTI} {g : Tg} {tt : DTT} {te : DTE}
theorem lc_lift {vs : List Nat} (hv : tgIn g vs = true) {σ : L2.St} {H : Hp} {Q : VK} (h : liftE X.K T W (dLc wi g tt te vs) σ H Q) : tLc (liftI X.K T W wi) (vTg X.K g) (liftT X.K T WF tt) (liftE X.K T WF te) vs σ H Q := by
  obtain ⟨env, F, G, E, P, hg, hs, hx, ht, hq⟩ := h
  refine ⟨env, F, G, E, _, hg, hs, hx, ht, fun items guard F1 G1 H1 J p s1 g1 ok D1 hD => ?_⟩
  refine lc_word hv p.1 g1 (hs.step s1) ok hD p.2 fun ys F2 G2 H2 ws p2 s2 g2 e2 f2 gd2 rel => ?_
  exact hq (.lst ys) (fadd F2 D1) G2 _ H2 p2 (s1.trans (s2.frz hD)) (g2.frz gd2 e2 rfl) ⟨D1, ws, rfl, ⟨.of e2, .inl rfl⟩, RelDs.kept (fun b o f e => ⟨.inr f, o, e, .inl rfl⟩) ys rel⟩
theorem q_lc (own : List (Str × Nat)) (hc : X.calm = true) (hN : X.N.Nodup) (hi : QI X T W tg iter wi) (ok : BlkOk X.N X.env.scope scope own) (hv : tgIn g (own.map (·.2)) = true)
    (hg : ∀ (s : Shared) (H : Hp) (C : Addr) (cl : List (Str × Addr)) (fp : List Addr), PG (X.blk s H scope (compEnvC scope cl C X.env) fp) tg (vTg X.K g)) (ht : ∀ (s : Shared) (H : Hp) (C : Addr) (cl : List (Str × Addr)) (fp : List Addr), QTs (X.blk s H scope (compEnvC scope cl C X.env) fp) T WF ifs tt)
    (he : ∀ (s : Shared) (H : Hp) (C : Addr) (cl : List (Str × Addr)) (fp : List Addr), QE (X.blk s H scope (compEnvC scope cl C X.env) fp) T WF elt te) (hs : ∀ x, foldedSetIterable iter X.env x = pure x := by intro _; rfl) :
    QE X T W (.ListComp elt [⟨tg, iter, ifs, 0⟩] scope pos) (dLc wi g tt te (own.map (·.2))) := PE.imp (pe_lc hc hN hi ok hg ht he hs) fun σ H Q h => lc_lift hv h
variable {i : Nat} {y : Str} {py spos : Pos}
theorem asg_lift {t : DTE} {tv : TE} (h : ∀ σ H Q, liftE X.K T W t σ H Q → tv σ H Q) {D : Ends} {σ : L2.St} {H : Hp} (hw : liftS X.K T W (sSet i t) D σ H) : tAsg tv (gName i) D σ H := by
  obtain ⟨env, F, G, E, DE, hg, hs, hx, ht, hn, hr⟩ := hw
  exact h _ _ _ ⟨env, F, G, E, _, hg, hs, hx, ht, fun d F1 G1 v1 H1 p s1 g1 r1 => hn _ _ G1 _ H1 p s1 g1 ((hs.step s1).set r1)⟩
theorem qs_setLc (own : List (Str × Nat)) (hc : X.calm = true) (hN : X.N.Nodup) (hy : X.N[i]? = some y) (hyl : X.env.scope.names.lookup y = some .local)
    (hsw : swapsWith (.ListComp elt [⟨tg, iter, ifs, 0⟩] scope pos) (some (.Name y py)) spos.line X.env = pure true) (hi : QI X T W tg iter wi) (ok : BlkOk X.N X.env.scope scope own) (hv : tgIn g (own.map (·.2)) = true)
    (hg : ∀ (s : Shared) (H : Hp) (C : Addr) (cl : List (Str × Addr)) (fp : List Addr), PG (X.blk s H scope (compEnvC scope cl C X.env) fp) tg (vTg X.K g)) (ht : ∀ (s : Shared) (H : Hp) (C : Addr) (cl : List (Str × Addr)) (fp : List Addr), QTs (X.blk s H scope (compEnvC scope cl C X.env) fp) T WF ifs tt)
    (he : ∀ (s : Shared) (H : Hp) (C : Addr) (cl : List (Str × Addr)) (fp : List Addr), QE (X.blk s H scope (compEnvC scope cl C X.env) fp) T WF elt te) (hs : ∀ x, foldedSetIterable iter X.env x = pure x := by intro _; rfl) :
    QS X T W (.Assign [.Name y py] (.ListComp elt [⟨tg, iter, ifs, 0⟩] scope pos) spos) (sSet i (dLc wi g tt te (own.map (·.2)))) := PS.imp (ps_setLc hc hN hy hyl hsw hi ok hg ht he hs) fun D σ H h => asg_lift (fun _ _ _ => lc_lift hv) h
end
end DL

namespace DL
open PySem PySem.Spec PyProof.Rows L2
/-! ### try with several clauses «except C as n» (one name n in all of them) -/
abbrev TSx := Addr → Value → Option Addr → TS
/-- leaving a clause the name is gone -/
def endsN (i : Nat) (D : Ends) : Ends := { nx := fun σ H => D.nx (σ.set i none) H, rt := D.rt, bk := fun σ H => D.bk (σ.set i none) H, ct := fun σ H => D.ct (σ.set i none) H }
def wAll (K : PySem.W.Frag) (i : Nat) (Wo : WX) (D : Ends) : List (Value × TSx) → WX
  | [] => Wo
  | (c, ts) :: r => fun cls d σ H => ∃ b, PySem.W.exmOne K cls c = some b ∧ (b = true → ∀ a, H a = none → ts a cls d (endsN i D) (σ.set i (some (.ref a))) H) ∧ (b = false → wAll K i Wo D r cls d σ H)
inductive HdN (X : Cx) (n : Str) : List ExceptHandler → List (Value × TSx) → Prop
  | nil : HdN X n [] []
  | cons {x : Str} {c : Value} {ts : TSx} {st : Stmt} {sts : List Stmt} {p1 p2 : Pos} {hds : List ExceptHandler} {l : List (Value × TSx)} (hx : Names X x c)
      (hsu : ∀ (a : Addr) (oe : Obj) (cls : Value) (d : Option Addr) (l : LN.Chain) (pn : List (Addr × Obj)), Zc cls d oe → (∃ vs, oe.data = .fields vs) → LN.HotL (X.A.mark (some (.ref a))) (a, oe) l → (∀ q ∈ l, q ∈ pn) → PSs (X.suite a ((a, oe) :: pn)) (st :: sts) (ts a cls d)) (r : HdN X n hds l) :
      HdN X n (.ExceptHandler (some (.Name x p1)) (some n) (st :: sts) p2 :: hds) ((c, ts) :: l)
section
variable {X : Cx} {body : List Stmt} {hd1 : ExceptHandler} {hds : List ExceptHandler} {l : List (Value × TSx)} {pos : Pos} {tb : WX → TS} {Wo : WX} {n : Str} {i : Nat}
theorem ps_tryN (hstk : X.stack = X.env :: X.outer) (hfrm : X.env.frame = some X.env.locals) (nd : X.N.Nodup) (hi : X.N[i]? = some n) (hk : X.env.kindOf n = some .local) (tk : LN.Takes X Wo)
    (hb : ∀ (W : WX) (pn : List (Addr × Obj)) (xe : Value → Shared → Prop), LN.Takes (X.tr pn xe) W → PassesOwn (model X.prog X.w) X.A X.env xe → PSs (X.tr pn xe) body (tb W))
    (hh : HdN X n (hd1 :: hds) l) : PS X (.Try body (hd1 :: hds) [] [] pos) (fun D σ H => tb (wAll X.K i Wo D l) D σ H) := by
  constructor
  intro pins s σ H D I hw
  have okX := I.ok
  have frX : X.A.frames = some (X.env :: X.outer) := okX.frames.trans (by rw [hstk])
  apply wpAny_Try_except
  have run := (hb (wAll X.K i Wo D l) (X.pn ++ pins) (fun e t1 => wpAny (model X.prog X.w) X.A (noteFrame e X.env) (fun _ t2 => wpAny (model X.prog X.w) X.A (setFlight e none)
    (fun _ t3 => wpAny (model X.prog X.w) X.A (handleBy e X.env (hd1 :: hds)) (SP X pins D) X.xe t3) X.xe t2) X.xe t1) ?caught PassesOwn.looking).run [] s σ H D (I.toTry _) hw
  case caught =>
    rintro u s' ⟨a, B, sI, pins', σ', H', cls, d, l, rfl, J', nb, up, sky, kp, na, eos, ag, w⟩
    have J : Inv X pins σ' H' sI := J'.ofTry okX
    rw [show (X.tr (X.pn ++ pins) _).stack = X.env :: X.outer from hstk] at sky
    show wpAny (model X.prog X.w) X.A (noteFrame (.ref a) X.env) _ _ _
    apply L2N.Sky.land LN.Zx.steady frX hfrm sky
    intro hq flq upq
    have Jq : Inv X pins σ' H' { s' with heap := hq } := J.landed nb flq.1 (up.trans upq) eos ag
    obtain ⟨oq, vq, getq, zq, dq⟩ := flq.there
    have nfr : a ∉ frs (X.env :: X.outer) := fun hm => by
      obtain ⟨_, o', e', hnf⟩ := flq.2.2.1.mem hm
      rw [getq] at e'
      cases e'
      exact hnf _ dq
    have nL : a ≠ X.env.locals := fun z => nfr (List.mem_filterMap.mpr ⟨X.env, List.mem_cons_self, by rw [hfrm, z]⟩)
    have nF : a ∉ X.fs := fun hm => by
      obtain ⟨ev, hev, q⟩ := List.mem_filterMap.mp hm
      exact nfr (List.mem_filterMap.mpr ⟨ev, List.mem_cons_of_mem _ hev, q⟩)
    have Sq := (LN.pinl hfrm Jq kp flq.1 flq.2.2.1).suite getq dq na nL nF
    suffices go : ∀ {hs : List ExceptHandler} {ls : List (Value × TSx)}, HdN X n hs ls → wAll X.K i Wo D ls cls d σ' H' → wpAny (model X.prog X.w) X.A (handleBy (.ref a) X.env hs) (SP X pins D) X.xe { s' with heap := hq } from go hh w
    intro hs ls hk'
    induction hk' with
    | nil =>
      intro w
      apply wpAny_handleBy_nil
      obtain ⟨_, _, _, oe, vs, tb', _, _, he, _, hd, h1, _⟩ := id flq
      unfold PySem.passOn
      refine wpAny_bind (wpAny_field he hd h1 ?_)
      rw [if_neg (show ¬ ((Value.ref tb' == Value.none) = true) from by simp)]
      have out : wpAny (model X.prog X.w) X.A (setFlight (.ref a) X.env.frame) (fun _ t4 => wpAny (model X.prog X.w) X.A (throw (.ref a) : Sem Flow) (SP X pins D) X.xe t4) X.xe { s' with heap := hq } := by
        rw [hfrm]
        exact HandSPX.setFlight_upZ flq fun hr hhr upr => wpAny_throw (tk _ _ ⟨a, B, sI, pins, σ', H', cls, d, l, rfl, J, nb, (up.trans upq).trans upr, .inr (.inr (by rw [hstk]; exact hhr)), kp, na, eos, ag, w⟩)
      first
        | exact wpAny_bind (wpAny_pure (wpAny_bind out))
        | exact wpAny_bind out
    | @cons x c ts st sts p1 p2 hds2 l2 hx hsu r ih =>
      rintro ⟨b, hb1, hyes, hno⟩
      refine wpAny_handleBy_cons (codeAny_handlers_test ?_) (by intro q; cases q)
      have look : PySem.W.Looks (model X.prog X.w) hq (typeOf (.ref a)) cls := fun A' Q' E' t k q => wpAny_typeOf_ref (k _ _ getq) (by rw [zq.1]; exact q)
      have named : ∀ {Q' : Value → Shared → Prop} {E' : Value → Shared → Prop}, Q' c { s' with heap := hq } → wpAny (model X.prog X.w) (X.A.mark (some (.ref a))) (eval (.Name x p1) X.env) Q' E' { s' with heap := hq } := fun {Q' E'} q => by
        obtain ⟨hgl, hdbg, hm | ⟨hm, hv, hnn⟩⟩ := hx
        · exact ld_glob (X := X.suite a ((a, oq) :: (X.pn ++ (pins ++ l)))) Sq hgl hm q hdbg
        · exact ld_blt (X := X.suite a ((a, oq) :: (X.pn ++ (pins ++ l)))) Sq hgl hm hv q hnn hdbg
      refine named ((PySem.W.exm_one (M := model X.prog X.w) Jq.kIn look hb1).here ?_)
      cases b with
      | false => exact ih (hno rfl)
      | true =>
        refine codeAny_handlers_suite_as (HandSPX.lands_againZ flq fun hr flr upr => ?_)
        have Jr : Inv X pins σ' H' { s' with heap := hr } := J.landed nb flr.1 ((up.trans upq).trans upr) eos ag
        obtain ⟨oR, vR, getR, zR, dR⟩ := flr.there
        have Sr := (LN.pinl hfrm Jr kp flr.1 flr.2.2.1).suite getR dR na nL nF
        refine store_ok (X := X.suite a ((a, oR) :: (X.pn ++ (pins ++ l)))) (v := .ref a) Sr nd hi (.inl hk) rfl (fun s5 S5 => ?_) (.inr hk)
        refine wpAny_mono ((hsu a oR cls d l (X.pn ++ (pins ++ l)) zR.zc ⟨_, dR⟩ ⟨rfl, ⟨vR, dR, zR.2.2 vR dR⟩, kp.1⟩ fun q hq => List.mem_append_right _ (List.mem_append_right _ hq)).run [] s5 _ H' _ S5 (hyes rfl a na)) (fun f s6 hsp => ?_) (fun _ _ z => False.elim z)
        have drop : ∀ {σ6 : L2.St} {H6 : Hp} {Q' : Shared → Prop}, Inv (X.suite a ((a, oR) :: (X.pn ++ (pins ++ l)))) [] σ6 H6 s6 → (∀ s7, Inv X pins (σ6.set i none) H6 s7 → Q' s7) →
            wpAny (model X.prog X.w) X.A (do bindName X.env n .none; unbindBehindTheSuite X.env n p2) (fun _ s7 => Q' s7) X.xe s6 := fun {σ6 H6 Q'} S6 q => gone_ok (S6.unsuite okX).unpinned nd hi hk q
        cases f with
        | ret u =>
          obtain ⟨v6, σ6, H6, S6, r6, q6⟩ := hsp
          exact drop S6 fun s7 J7 => ⟨_, _, _, J7, r6, q6⟩
        | _ =>
          obtain ⟨σ6, H6, S6, q6⟩ := hsp
          exact drop S6 fun s7 J7 => ⟨_, _, J7, q6⟩
  refine wpAny_mono run (fun f s1 hsp => ?_) (fun _ _ q => q)
  cases f with
  | next =>
    obtain ⟨σ', H', J', q⟩ := hsp
    exact wpAny_execs_nil ⟨σ', H', J'.ofTry okX, q⟩
  | ret u =>
    obtain ⟨v, σ', H', J', r, q⟩ := hsp
    exact ⟨v, σ', H', J'.ofTry okX, r, q⟩
  | brk =>
    obtain ⟨σ', H', J', q⟩ := hsp
    exact ⟨σ', H', J'.ofTry okX, q⟩
  | cont =>
    obtain ⟨σ', H', J', q⟩ := hsp
    exact ⟨σ', H', J'.ofTry okX, q⟩
end
end DL

namespace DL
open PySem PySem.Spec PyProof.Rows L2 LamX
/-! ### a lambda of no parameter handed to a def (exceptions with context None) -/
def lamXe (X : Cx) (A : Around) (outer : List Env) (s : Shared) (H : Hp) (E : XK) (scope : Scope) (f c' : Addr) : Value → Shared → Prop := fun e t =>
  wpAny (model X.prog X.w) (A.deeper (lamEnv X scope s.heap.objs.size f c')) (leaving (lamEnv X scope s.heap.objs.size f c') e) (fun _ t' => LN.CX X.prog X.w outer H s E e t') (fun e' t' => LN.CX X.prog X.w outer H s E e' t') t
abbrev lamN (X : Cx) (A : Around) (outer : List Env) (s : Shared) (H : Hp) (E : XK) (scope : Scope) (f c' : Addr) : Cx := (lamCx X A outer s H E scope f c').tr [] (lamXe X A outer s H E scope f c')
theorem takes_lam {X : Cx} {A : Around} {outer : List Env} {s : Shared} {H : Hp} {E : XK} {scope : Scope} {f c' : Addr} : LN.Takes (lamN X A outer s H E scope f c') (fun cls d _ H' => E cls d H') := LN.takes_of rfl rfl rfl rfl
abbrev DefX (X : Cx) (Ng : List Str) (x : Str) (sg : Scope) (g : Addr) (cdg : Value) (s : Shared) (H : Hp) : Cx := cxOf C8.CX0 X.prog X.w X.K X.mg X.base Ng x sg g cdg X.A X.stack s H C8.E0
section
variable {X : Cx} {pins : List (Addr × Obj)} {σ : L2.St} {H : Hp} {s : Shared}
theorem lam_runs {Ng : List Str} {x : Str} {sg : Scope} {g f c' : Addr} {cdg pm ctv : Value} {params : Arguments} {body : Expr} {scope : Scope} {k i : Nat} {a : Str} {pn : List (Addr × Obj)} {xe : Value → Shared → Prop} {W : WX} {E : XK} {tb : TE} {p1 p2 : Pos}
    (I : Inv X pins σ H s) (L : LamS X.env.scope scope) (hf : s.heap.get? f = some (PySem.W.kla_obj "<lambda>" (X.env.qual ++ "<lambda>") params body scope (cloFrom X.env.cells scope.names []) pm c' ctv)) (hfn : H f = none) (hfr : f ∉ frs X.stack)
    (hbind : bindArgs (PySem.W.kla_fn "<lambda>" (X.env.qual ++ "<lambda>") params body scope (cloFrom X.env.cells scope.names []) pm (.ref c') ctv) ⟨[], []⟩ = pure [])
    (tk : LN.Takes ((DefX X Ng x sg g cdg s H).tr pn xe) W) (hW : ∀ cls d σ' H', E cls d H' → W cls d σ' H') (hr : Room (k + 1) (X.A.deeper (envOfC x sg s.heap.objs.size g cdg)))
    (hbody : ∀ (A : Around) (outer : List Env) (s : Shared) (H : Hp), Room k (A.deeper (lamEnv X scope s.heap.objs.size f c')) → PE (lamN X A outer s H E scope f c') body tb)
    (hN : Ng[i]? = some a) (hv : Vis sg a) (hd : (a == ("__debug__" : Str)) = false) (hcd : (a == ("__classdict__" : Str)) = false) :
    PE ((DefX X Ng x sg g cdg s H).tr pn xe) (.Call (.Name a p1) [] [] p2) (fun σZ HZ Q => σZ[i]? = some (some (.ref f)) ∧ HZ c' = some (CodeO c' (X.env.qual ++ "<lambda>")) ∧ tb σ HZ Q) := by
  constructor
  rintro pinsZ sZ σZ HZ Q IZ ⟨hs, hc, ht⟩
  apply wpAny_Call_Name_kw
  refine thn ((pe_var (pos := p1) (i := i) hN hv hd hcd).run pinsZ sZ σZ HZ (fun v H1 => v = .ref f ∧ H1 = HZ) IZ ⟨.ref f, hs, rfl, rfl⟩) ?_
  rintro u s1 ⟨v, H1, I1, r1, rfl, eH⟩
  rw [eH] at I1
  obtain rfl : u = Value.ref f := r1
  have obf := I1.base.keep f _ hf hfn hfr (fun z => nomatch (show f ∈ ([] : List Addr) from z))
  refine PySem.W.callWith_F0 ⟨_, _, _, _, obf⟩ ?_
  obtain ⟨⟨oc, vs, t, hoc, hdc, hvc⟩, _, _⟩ := I1.hok c' _ hc
  have rc : codeAny (model X.prog X.w) (X.A.deeper (envOfC x sg s.heap.objs.size g cdg)) (.call (.ref f) ⟨[], []⟩) (CR (LN.CX X.prog X.w) (envOfC x sg s.heap.objs.size g cdg :: X.stack) X.prog X.w HZ s1 Q E) s1 := by
    apply PySem.W.kla_callFunE hr.depth obf rfl L.co L.gen rfl ⟨c', oc, vs, t, rfl, hoc, hdc, hvc⟩
    rw [hbind]
    refine wpAny_pure (wpAny_newFunctionEnv (fun y hy => (L.own y hy).2) (fun y hy => absurd hy (by simp)) (fun hq hns hsb => ⟨I1.nolimit.fresh _ hsb, ?_⟩) L.kind)
    show codeAny _ _ (.expr body (lamEnv X scope s1.heap.objs.size f c')) _ _
    have keeps : ∀ b o, s1.heap.get? b = some o → hq.get? b = some o := fun b o e => hsb.extBut b o (Nat.ne_of_lt (Heap.lt_size e)) (Heap.get?_push_of_some _ e)
    have J := (lam_start2 (E := E) (f := f) (c' := c') (tk := s1.toks + ([] : List (Str × Value)).length) I L I1.env0 hr.hd I1.base hns keeps).toTry (lamXe X (X.A.deeper (envOfC x sg s.heap.objs.size g cdg)) (envOfC x sg s.heap.objs.size g cdg :: X.stack) s1 HZ E scope f c')
    refine PySem.W.kla_codeExpr (wpAny_mono ((hbody _ _ s1 HZ (hr.deeper _)).run [] _ _ HZ Q J ht) ?_ fun e s' hq => hq)
    rintro v s' ⟨w', H', J', rv, q⟩
    exact ⟨w', H', J'.os, J'.bare, J'.base, J'.hok, rv, q⟩
  refine wpAny_call (codeAny_mono rc fun r s' hq => ?_)
  cases r with
  | error e => exact LN.passes_call tk hW pinsZ σZ HZ s1 e s' I1 hq
  | ok fl =>
    cases fl with
    | ret u => exact I1.after hq
    | _ => exact False.elim hq
end
/-- what the def makes of the lambda's reading -/
def Gives (X : Cx) (Ng : List Str) (x : Str) (sg : Scope) (g : Addr) (cdg : Value) (bg : List Stmt) (a : Str) (q : Str) (TT : (XK → Hp → VK → Prop) → Hp → VK → Prop) (k : Nat) : Prop :=
  ∀ (f c' : Addr) (s : Shared) (H : Hp) (Q : VK) (tl : XK → Hp → VK → Prop), Room (k + 1) (X.A.deeper (envOfC x sg s.heap.objs.size g cdg)) →
    (∀ (W : WX) (pn : List (Addr × Obj)) (xe : Value → Shared → Prop) (E : XK) (p1 p2 : Pos), LN.Takes ((DefX X Ng x sg g cdg s H).tr pn xe) W → (∀ cls d σ' H', E cls d H' → W cls d σ' H') →
      PE ((DefX X Ng x sg g cdg s H).tr pn xe) (.Call (.Name a p1) [] [] p2) (fun σZ HZ Q => σZ[0]? = some (some (.ref f)) ∧ HZ c' = some (CodeO c' q) ∧ tl E HZ Q)) →
    H c' = some (CodeO c' q) → TT tl H Q → ∃ t, PSs (DefX X Ng x sg g cdg s H).nox bg t ∧ t { nx := fun _ H' => Q .non H', rt := Q } (L2.start Ng [.ref f]) H
theorem pe_lamto {X : Cx} {T : LT} {TT : (XK → Hp → VK → Prop) → Hp → VK → Prop} {x a : Str} {g c P : Addr} {k : Nat} {pg : Arguments} {bg : List Stmt} {sg : Scope} {dV kV doc pm cdv ct oc : Value} {an od : Option Addr} {osl : Array (Option Value)} {Ng : List Str}
    {params : Arguments} {body : Expr} {scope : Scope} {t : XK → TE} {p lpos pos : Pos} (hg : Gl X x) (hm : X.mg x = some (.ref g)) (hk : PySem.W.keepIn X.K (.ref g) = true)
    (lk : X.K.lookup g = some ⟨oc, od, .func (PySem.W.fnOf x x pg bg sg dV kV doc pm an cdv ct), osl⟩) (hcg : PySem.W.codeIn X.K cdv x = true) (hb : L2.Binds X.K (PySem.W.fnOf x x pg bg sg dV kV doc pm an cdv ct) [a] []) (Sg : FnScope Ng [a] sg) (hNg : Ng[0]? = some a) (hva : Vis sg a)
    (hG : Gives X Ng x sg g cdv bg a (X.env.qual ++ "<lambda>") TT k)
    (TB : TabB X.base X.mg c P) (hcode : X.env.code = .ref c) (hmT : (P, X.env.qual ++ "<lambda>") ∈ T) (hu : ∀ p ∈ T, p.1 = P → p.2 = X.env.qual ++ "<lambda>") (hr : Room (k + 2) X.A) (L : LamS X.env.scope scope) (hdef : defaultsOf params X.env = ([], []))
    (hbind : ∀ (q : Str) (cl : List (Str × Addr)) (pm cv ctv : Value), bindArgs (PySem.W.kla_fn "<lambda>" q params body scope cl pm cv ctv) ⟨[], []⟩ = pure [])
    (hbody : ∀ (A : Around) (outer : List Env) (s : Shared) (H : Hp) (E : XK) (f c' : Addr), Room k (A.deeper (lamEnv X scope s.heap.objs.size f c')) → PE (lamN X A outer s H E scope f c') body (t E))
    (hdb : (x == ("__debug__" : Str)) = false) (hd : (a == ("__debug__" : Str)) = false) (hcd : (a == ("__classdict__" : Str)) = false) :
    PE X (.Call (.Name x p) [.Lambda params body scope lpos] [] pos) (tLam T TT t) := by
  constructor
  rintro pins s σ H Q I ⟨hT, h⟩
  apply wpAny_Call_Name_kw
  refine ld_glob I hg hm ?_ hdb
  refine PySem.W.callWith_K (h₀ := X.base) I.ok.mod.kin hk ?_ (by rfl) (by rfl)
  show wpAny _ _ (spliced ((false, eval (.Lambda params body scope lpos) X.env) :: backTo pos (starEach [] X.env))) _ _ s
  apply Calls.spliced_cons
  refine lam_make2 I TB hcode hmT hu hT hdef (L.has I.ok) ?_
  intro f c' pm' ctv H1 s' I1 eN T1 hf hfn hfr hco
  refine Calls.spliced_nil ⟨I1.kIn, ?_⟩
  have rc : codeAny (model X.prog X.w) X.A (.call (.ref g) ⟨[.ref f], []⟩) (CR C8.CX0 X.stack X.prog X.w H1 s' Q C8.E0) s' := by
    refine run_ofS (N := Ng) (ps := [a]) (us := [.ref f]) (vs := [.ref f]) lk hcg Sg hr I1.env0 (hb s' [.ref f] I1.kIn rfl) (.cons rfl .nil) rfl fun hr' => ?_
    obtain ⟨t', ht', hq'⟩ := hG f c' s' H1 Q (fun E H' Q' => t E σ H' Q') hr' (fun W pn xe E p1 p2 tk hW => lam_runs (i := 0) I1 L hf hfn hfr (hbind _ _ _ _ _) tk hW hr' (fun A outer s H hr2 => hbody A outer s H E f c' hr2) hNg hva hd hcd) hco (h H1 eN T1)
    exact ⟨t', ht'.nox, hq'⟩
  refine wpAny_call (codeAny_mono rc fun r s2 hq => ?_)
  cases r with
  | error e => exact (show False from hq).elim
  | ok fl =>
    cases fl with
    | ret u => exact I1.after hq
    | _ => exact False.elim hq
end DL

namespace DL
open PySem PySem.Spec PyProof.Rows L2 LamX HotX
variable {T : LT}
/-! ### list comprehensions while an exception is handled -/
theorem hot_in {A A' : Around} {p : Addr × Obj} {l : LN.Chain} (h : LN.HotL A p l) (e : A'.handled = A.handled := by rfl) : LN.HotL A' p l := ⟨e.trans h.hd, h.lk⟩
theorem next_list_end_hot {prog : Program} {w : World} {A : Around} {E : Value → Shared → Prop} {s : Shared} {it l : Addr} {x1 : Addr × Obj} {lc : LN.Chain} {i : Nat} {items : Array Value} {Q : Option Value → Shared → Prop} (hot : LN.HotL A x1 lc) (hst : LN.Stand s.heap (x1 :: lc)) (hx1 : ∀ q ∈ x1 :: lc, q.1 ≠ it)
    (hit : s.heap.IsListIter it l i) (hl : s.heap.IsList l items) (hx : items[i]? = none) (hQ : ∀ h', Heap.ExtBut it s.heap h' → Q none { s with heap := h' }) : wpAny (model prog w) A (pyNext (.ref it)) Q E s := by
  obtain ⟨o, ho, hc, hd⟩ := id hit
  obtain ⟨ol, hol, _, nl, hdl⟩ := hl
  unfold pyNext
  refine wpAny_bind (wpAny_attempt (wpAny_callSpecial?_slot (name := Str.ofString "__next__") hit.typeIs slot_listiter_next (wpAny_call_entry slot_listiter_next hit.typeIs entry_listiter_next ?_ (args_listiter_next _))))
  show wpAny _ _ (field (.ref it) 0 >>= _) _ _ s
  apply wpAny_bind
  refine wpAny_field ho hd (x := .ref l) rfl ?_
  show wpAny _ _ (if (Value.ref l == Value.none) = true then _ else _) _ _ s
  rw [if_neg (show ¬ ((Value.ref l == Value.none) = true) from Bool.false_ne_true)]
  apply wpAny_bind
  refine wpAny_field ho hd (x := .int i 0) rfl ?_
  apply wpAny_bind
  refine wpAny_seqItems hol hdl ?_
  simp only [Int.toNat_natCast, hx]
  refine wpAny_bind (wpAny_rule (wpAny_bind (wpAny_setField ho hd (by simp) ?_)))
  show wpAny _ _ (newExc (.type "StopIteration") [] >>= _) _ _ _
  apply wpAny_bind
  simp only [newExc, newTuple]
  refine wpAny_bind (wpAny_newObj_type ?_ (by size_fits))
  refine wpAny_bind (m := firstArgMember _ _) (wpAny_of_eq (a := Value.none) (by first | rfl | (simp only [firstArgMember]; rfl)) ?_)
  refine wpAny_newObj_type ?_ (by size_fits)
  have hu := Heap.SameBut.update s.heap it (Obj.mapFields (·.setIfInBounds 0 Value.none))
  have g1 : LN.Stand (s.heap.update it (Obj.mapFields (·.setIfInBounds 0 Value.none))) (x1 :: lc) := fun q hq => (hu.2 q.1 (hx1 q hq)).trans (hst q hq)
  refine LN.raise_hot (hot_in hot) (fun q hq => Heap.get?_push_of_some _ (Heap.get?_push_of_some _ (g1 q hq))) (fun q hq => Nat.ne_of_lt (Heap.lt_size (Heap.get?_push_of_some _ (g1 q hq)))) (Heap.get?_push_size _ rfl) rfl (by simp; omega) ?_
  refine wpAny_bind (wpAny_isInstance (T := "StopIteration") (b := true) ⟨_, Heap.get?_update_self _ (Heap.get?_push_size _ rfl) rfl, rfl⟩ isSubtype_stop ?_)
  refine wpAny_pure (hQ _ fun b ob hb e => ?_)
  have e1 := (hu.extBut b ob hb e)
  rw [Heap.get?_update_other _ _ (Nat.ne_of_gt (Heap.lt_size (Heap.get?_push_of_some _ e1)))]
  exact Heap.get?_push_of_some _ (Heap.get?_push_of_some _ e1)
structure TurnQ (P : Program) (w : World) (K : PySem.W.Frag) (tg : Expr) (J : It) (fp : List Addr) (it : Addr) (tn : Nat → Heap → Prop) : Prop where
  obj : ∀ i h, tn i h → ∀ b ∈ fp, ∃ o, h.get? b = some o ∧ ∀ v, o.data ≠ .cell v
  keep : ∀ i h h', tn i h → (∀ b ∈ fp, ∀ o, h.get? b = some o → h'.get? b = some o) → tn i h'
  item : ∀ (X : Cx), X.prog = P → X.w = w → X.K = K → ∀ (i : Nat) (pins : List (Addr × Obj)) (s : Shared) (σ : L2.St) (H : Hp) (E : Value → Shared → Prop), Inv X pins σ H s → (∀ b ∈ fp, FpOk X pins H b) → tn i s.heap → J.go i H →
    wpAny (model P w) X.A (pyNext (.ref it)) (fun r t => ∃ u, r = some u ∧ wpAny (model P w) X.A (letOwnedTupleGo tg (.ref it) u) (fun _ t2 => ∃ x H', Inv X pins σ H' t2 ∧ RelV x u ∧ J.yld i H x H' ∧ tn (i + 1) t2.heap ∧ ∀ b ∈ fp, H' b = none) E t) E s
  done : ∀ (X : Cx), X.prog = P → X.w = w → X.K = K → ∀ (x1 : Addr × Obj) (lc : LN.Chain) (i : Nat) (pins : List (Addr × Obj)) (s : Shared) (σ : L2.St) (H : Hp) (E : Value → Shared → Prop), LN.HotL X.A x1 lc → LN.Stand s.heap (x1 :: lc) → (∀ q ∈ x1 :: lc, q.1 ∉ fp) → Inv X pins σ H s → (∀ b ∈ fp, FpOk X pins H b) → tn i s.heap → J.stop i H →
    wpAny (model P w) X.A (pyNext (.ref it)) (fun r t => r = none ∧ Inv X pins σ H t) E s
  self : ∀ (A : Around) (i : Nat) (s : Shared) (Q : Value → Shared → Prop) (E : Value → Shared → Prop), tn i s.heap → Q (.ref it) s → wpAny (model P w) A (pyIter (.ref it)) Q E s
theorem turnQ_list {P : Program} {w : World} {K : PySem.W.Frag} {tg : Expr} (a it : Addr) : TurnQ P w K tg (Itl K a) [it] it (fun i h => h.IsListIter it a i) where
  obj := (turn_list (P := P) (w := w) (K := K) (tg := tg) a it).obj
  keep := (turn_list (P := P) (w := w) (K := K) (tg := tg) a it).keep
  self := (turn_list (P := P) (w := w) (K := K) (tg := tg) a it).self
  item := by
    rintro X rfl rfl rfl i pins s σ H E I hf st ⟨xs, x, hq, hx⟩
    obtain ⟨its, rv, p, _⟩ := I.list hq
    obtain ⟨u, hu, ru⟩ := rv.get hx
    obtain ⟨f0, f1, f2, f3, f4, f5⟩ := hf it (by simp)
    apply wpAny_pyNext_list_item st p.isList (x := u) (by simpa using hu)
    intro h' st' sb
    obtain ⟨o, e, c, d⟩ := id st'
    refine ⟨u, rfl, go_of (s := { s with heap := h' }) e c d (by decide) ⟨x, H, I.turned (t' := s.toks) (fun b o hb e => (sb.2 b hb).trans e) f0 f1 f3 f4 f5, ru, ⟨rfl, fun ys hy => ?_⟩, st', fun b hb => (hf b hb).1⟩⟩
    rw [I.list_inj hy hq]
    exact hx
  done := by
    rintro X rfl rfl rfl x1 lc i pins s σ H E hot hst hn I hf st ⟨xs, hq, hx⟩
    obtain ⟨its, rv, p, _⟩ := I.list hq
    obtain ⟨f0, f1, f2, f3, f4, f5⟩ := hf it (by simp)
    have hl := rv.length
    exact next_list_end_hot hot hst (fun q m z => hn q m (by simp [z])) st p.isList (by simp; omega) fun h' eb => ⟨rfl, I.turned (t' := s.toks) (fun b o hb e => eb b o hb e) f0 f1 f3 f4 f5⟩
def PIQ (X : Cx) (tg iter : Expr) (wi : TI) : Prop := ∀ (pins : List (Addr × Obj)) (s : Shared) (σ : L2.St) (H : Hp) (R : It → Hp → Prop), Inv X pins σ H s → wi σ H R →
  wpAny (model X.prog X.w) X.A (eval iter X.env) (fun v t => wpAny (model X.prog X.w) X.A (pyIter v) (fun itv t2 =>
    ∃ (it : Addr) (fp : List Addr) (tn : Nat → Heap → Prop) (J : It) (H' : Hp), itv = .ref it ∧ Inv X pins σ H' t2 ∧ TurnQ X.prog X.w X.K tg J fp it tn ∧ tn 0 t2.heap ∧ (∀ b ∈ fp, FpOk X pins H' b) ∧ R J H') X.xe t) X.xe s
theorem piq_list {X : Cx} {tg l : Expr} {tl : TE} (hl : PE X l tl) : PIQ X tg l (fun σ H R => tl σ H fun x H1 => ∃ a, x = .ref a ∧ (∃ xs, SqL X.K H1 a xs) ∧ R (Itl X.K a) H1) := by
  intro pins s σ H R I h
  refine thn (hl.run pins s σ H _ I h) ?_
  rintro v s1 ⟨x, H1, I1, r1, a, rfl, ⟨xs, hq⟩, q⟩
  cases r1
  obtain ⟨its, rv, p, _⟩ := I1.list hq
  refine (begins_list a its.toArray).iter _ _ _ _ s1 _ p.isList ?_
  refine ⟨s1.heap.objs.size, [s1.heap.objs.size], _, _, H1, rfl, I1.kept (t' := s1.toks) fun b o e => Heap.get?_push_of_some _ e, turnQ_list a _, ⟨_, Heap.get?_push_size _ rfl, rfl, rfl⟩, fun b hb => ?_, q⟩
  rw [List.mem_singleton.mp hb]
  exact I1.fpOk (Nat.le_refl _) I1.fresh
section
variable {X : Cx} {elt tg iter : Expr} {ifs : List Expr} {scope : Scope} {own : List (Str × Nat)} {pos : Pos} {wi : TI} {g : TG} {tt : TT} {te : TE}
theorem pe_lcQ (hot : LN.HotC X) (nd : X.N.Nodup) (hi : PIQ X tg iter wi) (ok : BlkOk X.N X.env.scope scope own)
    (hg : ∀ (s : Shared) (H : Hp) (C : Addr) (cl : List (Str × Addr)) (fp : List Addr), PG (X.blk s H scope (compEnvC scope cl C X.env) fp) tg g) (ht : ∀ (s : Shared) (H : Hp) (C : Addr) (cl : List (Str × Addr)) (fp : List Addr), PTs (X.blk s H scope (compEnvC scope cl C X.env) fp) ifs tt)
    (he : ∀ (s : Shared) (H : Hp) (C : Addr) (cl : List (Str × Addr)) (fp : List Addr), PE (X.blk s H scope (compEnvC scope cl C X.env) fp) elt te) (hs : ∀ x, foldedSetIterable iter X.env x = pure x := by intro _; rfl) :
    PE X (.ListComp elt [⟨tg, iter, ifs, 0⟩] scope pos) (tLc wi g tt te (own.map (·.2))) := by
  constructor
  intro pins s σ H Q I h
  rw [eval_ListComp]
  have capt : ∀ y ∈ scope.names, y.2 = .free → ∃ c, X.env.cells.lookup y.1 = some c := fun y hy e => (ok.free y hy e).elim (fun k => I.ok.has _ (.inl k)) fun k => I.ok.has _ (.inr k)
  apply wpAny_comprehension_free rfl hs (closure_ok capt) ok.kind (fun y hy e => by rw [ok.uniq y hy, e])
  refine thn (hi pins s σ H _ I h) fun xv s1 hx => thn hx ?_
  rintro itv s2 ⟨it, fp, tn, J, H2, rfl, I2, Tn, st2, f2, q⟩
  refine wpAny_newObj_type (newEnv_comp ?_) (by show 0 ≤ sizeLine; decide)
  obtain ⟨Dn, hD⟩ : ∃ Dn, s2.heap.objs.size = Dn := ⟨_, rfl⟩
  have hDn : H2 Dn = none := I2.hok.fresh (Nat.le_of_eq hD)
  rw [hD]
  obtain ⟨W, ⟨m0, w0⟩, turn⟩ := q Dn hDn
  obtain ⟨s3, hs3⟩ : ∃ s3 : Shared, { s2 with heap := s2.heap.push { cls := .type "list", data := .seq ([] : List Value).toArray } } = s3 := ⟨_, rfl⟩
  have h3 : s3.heap = s2.heap.push { cls := .type "list", data := .seq ([] : List Value).toArray } := by rw [← hs3]
  have I3 : Inv X pins σ (upd H2 Dn (.lst [])) s3 := by
    rw [← hs3]
    apply I2.laid (t' := s2.toks) (fun b o e => Heap.get?_push_of_some _ e) (Nat.le_of_eq hD)
    refine ⟨Nat.zero_le _, [], 0, .nil, ?_⟩
    rw [← hD]
    exact Heap.get?_push_size _ rfl
  have f3 : ∀ b ∈ fp, FpOk X pins (upd H2 Dn (.lst [])) b ∧ b < s3.heap.objs.size := fun b hb => by
    obtain ⟨ob, eb, _⟩ := Tn.obj _ _ st2 b hb
    have hlt := Heap.lt_size eb
    refine ⟨⟨?_, (f2 b hb).2⟩, by rw [h3, Heap.size_push]; exact Nat.lt_succ_of_lt hlt⟩
    rw [upd_ne (by rw [← hD]; exact Nat.ne_of_lt hlt)]
    exact (f2 b hb).1
  have st3 : tn 0 s3.heap := Tn.keep _ _ _ st2 fun b _ o e => by rw [h3]; exact Heap.get?_push_of_some _ e
  have I4 := block_start I3 ok nd f3
  have pg := hg s3 (upd H2 Dn (.lst [])) s3.heap.objs.size (cellsFrom (s3.heap.objs.size + 1) scope.names (cloFrom X.env.cells scope.names [])) fp
  have pt := ht s3 (upd H2 Dn (.lst [])) s3.heap.objs.size (cellsFrom (s3.heap.objs.size + 1) scope.names (cloFrom X.env.cells scope.names [])) fp
  have pe := he s3 (upd H2 Dn (.lst [])) s3.heap.objs.size (cellsFrom (s3.heap.objs.size + 1) scope.names (cloFrom X.env.cells scope.names [])) fp
  rw [hs3]
  show codeAny _ _ (.compStart (.ListComp elt [⟨tg, iter, ifs, 0⟩] scope pos) 0 (.ref it) (.ref Dn) (compEnvC scope (cellsFrom (s3.heap.objs.size + 1) scope.names (cloFrom X.env.cells scope.names [])) s3.heap.objs.size X.env)) (compPost (model X.prog X.w) X.A X.xe none (EP X pins σ Q) (.ref Dn) s3.heap.objs.size) { s3 with heap := pushCells (s3.heap.push { cls := .type "dict", data := .dict #[] }) scope.names }
  have nfp : ∀ b ∈ fp, (upd H2 Dn (.lst [])) b = none := fun b hb => (f3 b hb).1.1
  -- the handled exception
  obtain ⟨px, lc, hot, hpx⟩ := hot
  have hpn : ∀ q ∈ px :: lc, s3.heap.get? q.1 = some q.2 ∧ (upd H2 Dn (.lst [])) q.1 = none ∧ q.1 ∉ frs X.stack ∧ q.1 ∉ fp := fun q hq => by
    obtain ⟨g, f, nl, nf, _⟩ := I3.pin q (List.mem_append_left _ (hpx q hq))
    refine ⟨g, f, fun hm => ?_, fun hm => (f3 _ hm).1.2.2.2.2.2 q (List.mem_append_left _ (hpx q hq)) rfl⟩
    rcases I3.ok.stk with e1 | ⟨e1, e2⟩
    · rw [e1] at hm
      exact nf hm
    · rw [e1] at hm
      unfold frs at hm
      rw [List.filterMap_cons] at hm
      rw [e2] at hm
      exact (List.mem_cons.mp hm).elim nl nf
  obtain ⟨ce, hce⟩ : ∃ ce, compEnvC scope (cellsFrom (s3.heap.objs.size + 1) scope.names (cloFrom X.env.cells scope.names [])) s3.heap.objs.size X.env = ce := ⟨_, rfl⟩
  rw [hce] at I4 pg pt pe ⊢
  have cL : ce.locals = s3.heap.objs.size := by rw [← hce]; rfl
  obtain ⟨H3, hH3⟩ : ∃ H3, upd H2 Dn (.lst []) = H3 := ⟨_, rfl⟩
  rw [hH3] at I3 I4 pg pt pe w0 nfp f3 hpn
  obtain ⟨s4, hs4⟩ : ∃ s4 : Shared, { s3 with heap := pushCells (s3.heap.push { cls := .type "dict", data := .dict #[] }) scope.names } = s4 := ⟨_, rfl⟩
  rw [hs4] at I4 ⊢
  have st4 : tn 0 s4.heap := Tn.keep _ _ _ st3 fun b _ o e => by rw [← hs4]; exact pushCells_keeps _ _ _ _ (Heap.get?_push_of_some _ e)
  have fps : ∀ {σ' : L2.St} {H' : Hp} {t : Shared}, Inv (X.blk s3 H3 scope ce fp) [] σ' H' t → (∀ b ∈ fp, H' b = none) → ∀ b ∈ fp, FpOk (X.blk s3 H3 scope ce fp) [] H' b := fun {σ' H' t} I' hn b hb =>
    ⟨hn b hb, (I'.ok.exf b hb).1, I'.ok.exfs b hb, .inl hb, fun x c e => (I'.ok.exf b hb).2 x c e, fun p hp => absurd (show p ∈ ([] : List (Addr × Obj)) ++ [] from hp) (by simp)⟩
  have loop : codeAny (model X.prog X.w) X.A (.compLoop (.ListComp elt [⟨tg, iter, ifs, 0⟩] scope pos) 0 (.ref it) (.ref Dn) ce) (compPost (model X.prog X.w) X.A X.xe none (EP X pins σ Q) (.ref Dn) s3.heap.objs.size) s4 := by
    refine compLoop_any (fun n t => ∃ i H', Inv (X.blk s3 H3 scope ce fp) [] (wipe σ (own.map (·.2))) H' t ∧ tn i t.heap ∧ (∀ b ∈ fp, H' b = none) ∧ W i n H') ?_ m0 ⟨0, H3, I4, st4, nfp, w0⟩
    rintro n s5 ⟨i, H5, I5, st5, n5, w5⟩
    rcases turn i n H5 w5 with ⟨stop, qq⟩ | ⟨go, Nx, hNx, step⟩
    · have hst5 : LN.Stand s5.heap (px :: lc) := fun q hq => I5.base.keep _ _ (hpn q hq).1 (hpn q hq).2.1 (hpn q hq).2.2.1 (hpn q hq).2.2.2
      refine thnF (Tn.done (X.blk s3 H3 scope ce fp) rfl rfl rfl px lc i [] s5 _ H5 (fun _ _ => False) hot hst5 (fun q hq => (hpn q hq).2.2.2) I5 (fps I5 n5) st5 stop) ?_
      rintro r s6 ⟨rfl, I6⟩
      have I7 : Inv X pins σ H5 s6 := I3.call' (ch := fp) I6.os I6.base I6.hok I6.bare fun b hb => ⟨(f3 b hb).1.2.2.2.1, (f3 b hb).1.2.1, (f3 b hb).1.2.2.2.2.1, (f3 b hb).1.2.2.2.2.2⟩
      have nC : H5 s3.heap.objs.size = none := cL ▸ (show H5 ce.locals = none from I6.free)
      obtain ⟨m, hn, _⟩ := I6.loc
      have hn' : s6.heap.Ns s3.heap.objs.size m := cL ▸ (show s6.heap.Ns ce.locals m from hn)
      obtain ⟨k0, k1, k2, k3, k4, k5⟩ := I3.fpOk (Nat.le_refl _) nC
      exact ⟨m, hn', fun h'' sb => ⟨.ref Dn, H5, I7.turned (t' := s6.toks) (fun b o hb e => (sb.2 b hb).trans e) k0 k1 k3 k4 k5, rfl, qq⟩⟩
    · refine thnF (Tn.item (X.blk s3 H3 scope ce fp) rfl rfl rfl i [] s5 _ H5 (fun _ _ => False) I5 (fps I5 n5) st5 go) ?_
      rintro r s6 ⟨u, rfl, h6⟩
      refine thnF h6 ?_
      rintro _ s7 ⟨x, H7, I7, r7, y7, st7, n7⟩
      refine thnF (pg.run _ s7 _ H7 x u _ (I7.pinned (fps I7 n7) (Tn.obj _ _ st7)) r7 (step x H7 y7)) ?_
      rintro _ s8 ⟨σ8, H8, I8, hw8, q8⟩
      refine thnF (pt.run _ s8 σ8 H8 _ I8 q8) ?_
      rintro b s9 ⟨H9, I9, q9⟩
      have again : ∀ {t : Shared} {H' : Hp}, Inv (X.blk s3 H3 scope ce fp) ([] ++ pinsAt fp s7.heap) σ8 H' t → Nx H' → ∃ m, m < n ∧ ∃ i H', Inv (X.blk s3 H3 scope ce fp) [] (wipe σ (own.map (·.2))) H' t ∧ tn i t.heap ∧ (∀ b ∈ fp, H' b = none) ∧ W i m H' := fun {t H'} I' nx => by
        obtain ⟨m', hm, w'⟩ := hNx H' nx
        have pinned : ∀ b ∈ fp, ∀ o, s7.heap.get? b = some o → t.heap.get? b = some o ∧ H' b = none := fun b hb o e => by
          have z := I'.pin (b, o) (List.mem_append_right _ (List.mem_append_right _ (mem_pinsAt hb e)))
          exact ⟨z.1, z.2.1⟩
        refine ⟨m', hm, i + 1, H', (I'.unpinned (pins := [])).weak (by rw [← hw8, wipe_length]) (fun j v e => ?_), Tn.keep _ _ _ st7 fun b hb o e => (pinned b hb o e).1, fun b hb => ?_, w'⟩
        · rw [← hw8] at e
          exact (wipe_some e).1
        · obtain ⟨o, e, _⟩ := Tn.obj _ _ st7 b hb
          exact (pinned b hb o e).2
      cases b with
      | false => exact again I9 q9
      | true =>
        refine thnF (pe.run _ s9 σ8 H9 _ I9 q9) ?_
        rintro z s10 ⟨yv, H10, I10, r10, acc, hD10, hz10, nx⟩
        exact app_ok (X := X.blk s3 H3 scope ce fp) I10 hD10 hz10 r10 fun s11 I11 => again I11 nx
  exact codeAny_compStart_list loop (Tn.self X.A 0 _ _ _ st4 loop)
end
end DL

namespace DL
open PySem PySem.Spec PyProof.Rows L2 LamX HotX L2H
variable {T : LT}
/-! ### a def that is handed the handled exception itself -/
/-- the promise knows the exception p -/
abbrev SpT := Addr × Obj → List V → Hp → VK → Prop
structure FnT (P : Program) (w : World) (K : PySem.W.Frag) (mg : Str → Option Value) (base : Heap) (k : Nat) (f : Addr) (fd : FuncData) (ps : List Str) (sp : SpT) : Prop where
  len : ∀ p vs H Q, sp p vs H Q → vs.length = ps.length
  run : ∀ (p : Addr × Obj) (A : Around) (outer : List Env) (s : Shared) (H : Hp) (args : Args) (us : List Value) (vs : List V) (Q : VK), RoomH k A → ∀ l : LN.Chain, LN.HotL A p l → (∀ q ∈ p :: l, PinOk outer H s q) → Env0 P w K mg base A outer s H → BindsTo s fd args (ps.zip us) → Vals vs us → sp p vs H Q →
    codeAny (model P w) A (.call (.ref f) args) (CR C8.CX0 outer P w H s Q C8.E0) s
theorem fnT_of {P : Program} {w : World} {K : PySem.W.Frag} {mg : Str → Option Value} {base : Heap} {k : Nat} {x : Str} {params : Arguments} {body : List Stmt} {scope : Scope} {f : Addr} {fd : FuncData} {N ps : List Str} {sp : SpT}
    (F : FunD K x x params body scope [] [] f fd) (Sc : FnScope N ps scope) (len : ∀ p vs H Q, sp p vs H Q → vs.length = ps.length)
    (hbody : ∀ (cdv : Value) (A : Around) (outer : List Env) (s : Shared) (H : Hp) (vs : List V) (Q : VK) (p : Addr × Obj) (l : LN.Chain), LN.HotL A p l → RoomH k (A.deeper (envOfC x scope s.heap.objs.size f cdv)) → sp p vs H Q →
      ∃ t, PSs (LN.cxL C8.CX0 P w K mg base N x scope f cdv A outer s H C8.E0 p l) body t ∧ t { nx := fun _ H' => Q .non H', rt := Q } (L2.start N vs) H) : FnT P w K mg base (k + 1) f fd ps sp := by
  obtain ⟨oc, od, dV, kV, doc, pm, an, cdv, ct, osl, rfl, lk, hcd, _, _⟩ := F.ex
  refine ⟨len, ?_⟩
  intro p A outer s H args us vs Q hr l hot hpin e0 hb r hsp
  have inK : K.In s.heap := e0.mod.kin.keeps fun b o e => (e0.bs b o e).1
  have nolim : s.heap.NoLimit := e0.mod.nolimit.keeps fun b o e => (e0.bs b o e).1
  apply codeAny_call_function hr.depth (inK _ _ lk) rfl Sc.co Sc.gen rfl (PySem.W.codeRec_of inK hcd)
  apply hb
  apply wpAny_newFunctionEnv_cells Sc.kind
  · rintro ⟨n, v⟩ hy
    rcases Sc.par n (List.of_mem_zip hy).1 with q | q
    · exact .inl q
    · exact .inr ⟨q, PySem.W.cellsFrom_some _ _ _ (.inl q)⟩
  · rintro env rfl s1 x1
    refine ⟨nolim.keeps x1.toInCall.keep, codeAny_func ?_⟩
    obtain ⟨t, ht, hq⟩ := hbody cdv A outer s H vs Q p l hot (hr.deeper _) hsp
    refine wpAny_mono (ht.run [] s1 (L2.start N vs) H _ (LN.inv_startL Sc hpin e0 (len _ _ _ _ hsp) r x1) hq) (fun fl s' hs => ?_) fun e s' hs => hs
    cases fl with
    | ret u =>
      obtain ⟨v, σ', H', J, rv, q⟩ := hs
      exact ⟨v, H', J.os, J.bare, J.base, J.hok, rv, q⟩
    | next =>
      obtain ⟨σ', H', J, q⟩ := hs
      exact ⟨.non, H', J.os, J.bare, J.base, J.hok, rfl, q⟩
    | brk => exact hs.elim fun _ z => z.elim fun _ z => False.elim z.2
    | cont => exact hs.elim fun _ z => z.elim fun _ z => False.elim z.2
theorem pe_callT {X : Cx} {k : Nat} {f : Addr} {fd : FuncData} {ps : List Str} {sp : SpT} {x : Str} {q pos : Pos} {e : Expr} {es : List Expr} {t : TA} {p : Addr × Obj} {l : LN.Chain} (F : FnT X.prog X.w X.K X.mg X.base k f fd ps sp) (hr : RoomH k X.A) (hot : LN.HotL X.A p l) (hp : ∀ q ∈ p :: l, q ∈ X.pn)
    (hg : Gl X x) (hm : X.mg x = some (.ref f)) (hk : PySem.W.keepIn X.K (.ref f) = true) (hb : L2.Binds X.K fd ps []) (ha : PA X (e :: es) t) (hdb : (x == ("__debug__" : Str)) = false := by decide) (he : starEach (e :: es) X.env = (false, eval e X.env) :: starEach es X.env := by rfl)
    (hpl : (backTo pos (starEach es X.env)).any (·.1) = false := by rfl) : PE X (.Call (.Name x q) (e :: es) [] pos) (fun σ H Q => t σ H fun vs H1 => sp p vs H1 Q) := by
  constructor
  intro pins s σ H Q I h
  apply wpAny_Call_Name_kw
  refine ld_glob I hg hm ?_ hdb
  refine PySem.W.callWith_K (h₀ := X.base) I.ok.mod.kin hk (thn (ha.run pos pins s σ H _ I h) ?_) he hpl
  rintro us s1 ⟨vs, H1, I1, r, q⟩
  refine ⟨I1.kIn, ?_⟩
  have b := hb s1 us I1.kIn (by rw [List.append_nil, ← r.length]; exact F.len _ _ _ _ q)
  rw [List.append_nil] at b
  have pins : ∀ y ∈ p :: l, PinOk X.stack H1 s1 y := fun y hy => by
    obtain ⟨p1, p2, p3, p4, p5⟩ := I1.pin y (List.mem_append_left _ (hp y hy))
    exact ⟨p1, p2, fun hm => (List.mem_cons.mp (I1.stkSub y.1 hm)).elim p3 p4, p5⟩
  refine wpAny_call (codeAny_mono (F.run p X.A X.stack s1 H1 ⟨us, []⟩ us vs Q hr l hot pins I1.env0 b r q) fun r s' hq => ?_)
  cases r with
  | error e => exact (show False from hq).elim
  | ok fl =>
    cases fl with
    | ret u => exact I1.after hq
    | _ => exact False.elim hq
/-- isinstance(e, C), e pinned -/
theorem call_isP {X : Cx} {a D : Addr} {oe : Obj} (C : ExcC X.K D) (hz : Zc (.ref D) none oe) (hf : ∃ vs, oe.data = .fields vs) (hp : (a, oe) ∈ X.pn) : CallR X (.builtin "isinstance") (rIsE X.K D a) := by
  rintro pins s σ H xs us Q I r ⟨c, cv, b, rfl, hcv, e, q⟩
  cases r with
  | cons rx rr =>
    cases rr with
    | cons rt rr =>
      cases rr
      cases rx
      obtain rfl := hcv _ rt
      obtain ⟨hget, _⟩ := I.pin (a, oe) (List.mem_append.mpr (.inl hp))
      obtain ⟨vs, hv⟩ := hf
      have J : PySem.W.InstAt s.heap a oe D none := by
        obtain ⟨oc, od, oda, osl⟩ := oe
        obtain ⟨h1, h2⟩ := hz
        dsimp only at h1 h2 hv
        subst h1 h2 hv
        exact ⟨hget, rfl, rfl, trivial⟩
      exact PySem.W.kia_one (PySem.W.handS_kitx_exc C.hg C.hk C.hs C.hd C.ha C.hn C.ht C.hm) I.kIn J e (fun z => nomatch z) fun tk => ⟨.bl b, H, I.kept (t' := tk) fun _ _ z => z, rfl, q⟩
end DL

namespace DL
open PySem PySem.Spec PyProof.Rows L2 LamX HotX L2H
variable {T : LT}
theorem walks_hot {prog : Program} {w : World} {A : Around} {x1 : Addr × Obj} {lc : LN.Chain} (hot : LN.HotL A x1 lc) (I l : Addr) (hne : l ≠ I) (hx : ∀ q ∈ x1 :: lc, q.1 ≠ I) (items : Array Value) :
    Walks prog w A I (I :: l :: (x1 :: lc).map (·.1)) [I] items.size (fun i v => items[i]? = some v) (fun i h => h.IsListIter I l i ∧ h.IsList l items ∧ LN.Stand h (x1 :: lc)) where
  sub := fun b hb => by simp at hb; simp [hb]
  frame := fun _ _ _ st hk => ⟨st.1.at fun o e => hk I (by simp) o e, st.2.1.at fun o e => hk l (by simp) o e, fun q hq => hk q.1 (List.mem_cons_of_mem _ (List.mem_cons_of_mem _ (List.mem_map_of_mem hq))) _ (st.2.2 q hq)⟩
  item := fun i s Q E hi st hQ => by
    apply wpAny_pyNext_list_item st.1 st.2.1 (x := items[i]) (by simp [hi])
    intro h' hit' hs'
    exact hQ _ h' s.toks (by simp [hi]) ⟨hit', st.2.1.extBut hs'.extBut hne, fun q hq => (hs'.2 q.1 (hx q hq)).trans (st.2.2 q hq)⟩ fun b o hb e => hs'.extBut b o (fun h => hb (by simp [h])) e
  done := fun s Q E st hQ => next_list_end_hot hot st.2.2 hx st.1 st.2.1 (by simp) fun h' he' => hQ h' s.toks fun b o hb e => he' b o (fun h => hb (by simp [h])) e
  self := fun _ _ _ _ st hQ => wpAny_pyIter_listiter st.1 hQ
theorem hot_in1 {A : Around} {p : Addr × Obj} {l : LN.Chain} (h : LN.HotL A p l) : LN.HotL A.in1 p l := ⟨h.hd, h.lk⟩
theorem cr_sumQ {X : Cx} (hot : LN.HotC X) : CallR X (.builtin "sum") (rSum X.K) := by
  rintro pins s σ H vs us Q I r ⟨a, ns, rfl, hs, q⟩
  obtain ⟨its, rv, hl, _⟩ := I.list hs
  rw [Vals.ref1 r]
  obtain ⟨p, lc, hot, hp⟩ := hot
  have getp : LN.Stand s.heap (p :: lc) := fun y hy => (I.pin y (List.mem_append_left _ (hp y hy))).1
  have hi := rv.ints
  obtain ⟨xs, e⟩ := hi.allInts.items
  have hn : numsOf (intItems xs).toList = ns := by rw [← e]; exact hi.numsOf
  rw [nums_intItems] at hn
  have hl' := hl.isList
  rw [e] at hl'
  apply call_sum_walkG
  refine iter_intList hl' fun s2 es st hfp hlI => ?_
  subst es
  have hx : ∀ y ∈ p :: lc, y.1 ≠ s.heap.objs.size := fun y hy => Nat.ne_of_lt (Heap.lt_size (getp y hy))
  refine ⟨_, _, _, _, _, _, numAt xs, rfl, walks_hot (hot_in1 hot) _ a hlI hx (intItems xs), ⟨st.1, st.2, fun y hy => Heap.get?_push_of_some _ (getp y hy)⟩, ?_, (fun _ _ => intItems_at), fun h' tk t' hk => ?_⟩
  · intro b hb
    rcases List.mem_cons.mp hb with z | hb
    · exact hfp b (by simp [z])
    · rcases List.mem_cons.mp hb with z | hb
      · exact hfp b (by simp [z])
      · obtain ⟨y, hy, z⟩ := List.mem_map.mp hb
        rw [← z]
        exact Heap.lt_size (Heap.get?_push_of_some _ (getp y hy))
  · rw [preSum_eq, List.take_of_length_le (by simp [intItems]), hn]
    exact ⟨.int _, H, I.kept (old_kept hk), ⟨_, rfl⟩, q⟩
end DL

namespace DL
open PySem PySem.Spec PyProof.Rows L2
variable {T : LT}
/-! ### built-ins by values -/
def allB : List D → Option (List Bool)
  | [] => some []
  | .bl b :: r => (allB r).map (b :: ·)
  | _ => none
def allI : List D → Option (List Int)
  | [] => some []
  | .int b :: r => (allI r).map (b :: ·)
  | _ => none
def allS : List D → Option (List String)
  | [] => some []
  | .str b :: r => (allS r).map (b :: ·)
  | _ => none
theorem allB_eq : ∀ {xs : List D} {bs : List Bool}, allB xs = some bs → xs = bs.map .bl
  | [], bs, h => by cases h; rfl
  | .bl b :: r, bs, h => by
    obtain ⟨cs, e, rfl⟩ := Option.map_eq_some_iff.mp h
    rw [allB_eq e, List.map_cons]
  | .non :: _, _, h => by cases h
  | .int _ :: _, _, h => by cases h
  | .str _ :: _, _, h => by cases h
  | .tup _ :: _, _, h => by cases h
  | .lst _ :: _, _, h => by cases h
  | .dct _ :: _, _, h => by cases h
  | .ref _ :: _, _, h => by cases h
  | .scr _ :: _, _, h => by cases h
theorem allI_eq : ∀ {xs : List D} {bs : List Int}, allI xs = some bs → xs = bs.map .int
  | [], bs, h => by cases h; rfl
  | .int b :: r, bs, h => by
    obtain ⟨cs, e, rfl⟩ := Option.map_eq_some_iff.mp h
    rw [allI_eq e, List.map_cons]
  | .non :: _, _, h => by cases h
  | .bl _ :: _, _, h => by cases h
  | .str _ :: _, _, h => by cases h
  | .tup _ :: _, _, h => by cases h
  | .lst _ :: _, _, h => by cases h
  | .dct _ :: _, _, h => by cases h
  | .ref _ :: _, _, h => by cases h
  | .scr _ :: _, _, h => by cases h
theorem allS_eq : ∀ {xs : List D} {bs : List String}, allS xs = some bs → xs = bs.map .str
  | [], bs, h => by cases h; rfl
  | .str b :: r, bs, h => by
    obtain ⟨cs, e, rfl⟩ := Option.map_eq_some_iff.mp h
    rw [allS_eq e, List.map_cons]
  | .non :: _, _, h => by cases h
  | .bl _ :: _, _, h => by cases h
  | .int _ :: _, _, h => by cases h
  | .tup _ :: _, _, h => by cases h
  | .lst _ :: _, _, h => by cases h
  | .dct _ :: _, _, h => by cases h
  | .ref _ :: _, _, h => by cases h
  | .scr _ :: _, _, h => by cases h
def pyLen (G : DG) : List D → Option D
  | [.str s] => if s.length ≤ 16000000 then some (.int s.length) else none
  | [x] => match asQ G x with
    | some xs => some (.int xs.length)
    | none => match asD G x with
      | some kvs => some (.int kvs.length)
      | none => none
  | _ => none
def pyInt1 (_ : DG) : List D → Option D
  | [.int i] => some (.int i)
  | [.bl b] => some (.int (if b then 1 else 0))
  | _ => none
def pySum (G : DG) : List D → Option D
  | [x] => (asL G x).bind fun xs => (allI xs).map fun ns => .int ns.sum
  | _ => none
def pyAll (G : DG) : List D → Option D
  | [x] => (asL G x).bind fun xs => (allB xs).map fun bs => .bl (bs.all id)
  | _ => none
def pyMin2 (_ : DG) : List D → Option D
  | [.int i, .int j] => some (.int (if j < i then j else i))
  | _ => none
def pyMax2 (_ : DG) : List D → Option D
  | [.int i, .int j] => some (.int (if j > i then j else i))
  | _ => none
def pyTup (G : DG) : List D → Option D
  | [x] => (asQ G x).map .tup
  | _ => none
theorem RelDs.one {K : PySem.W.Frag} {F : FS} {H : Hp} {x : D} {vs : List V} (r : RelDs K F H [x] vs) : ∃ v, vs = [v] ∧ RelD K F H x v := by
  obtain ⟨v, t, rfl, h, e⟩ := r
  have e : t = [] := e
  rw [e]
  exact ⟨v, rfl, h⟩
theorem RelDs.two {K : PySem.W.Frag} {F : FS} {H : Hp} {x y : D} {vs : List V} (r : RelDs K F H [x, y] vs) : ∃ v u, vs = [v, u] ∧ RelD K F H x v ∧ RelD K F H y u := by
  obtain ⟨v, t, rfl, h, r⟩ := r
  obtain ⟨u, rfl, h'⟩ := RelDs.one r
  exact ⟨v, u, rfl, h, h'⟩
section
variable {X : Cx}
theorem call_pyLen : CallR X (.builtin "len") (rDB X.K T pyLen) := by
  rintro pins s σ H xs us Q I rs ⟨F, G, ds, z, hg, r, e, q⟩
  unfold pyLen at e
  split at e
  · rename_i t
    obtain ⟨v, rfl, rv⟩ := r.one
    split at e
    · rename_i hl
      cases e
      exact call_len pins s σ H _ us Q I rs ⟨v, _, rfl, (by rw [show v = V.str (S t) from rv]; exact ⟨by rw [S_len]; exact small_line hl, rfl⟩), q _ _ H Step.refl hg (by rw [S_len]; rfl)⟩
    · cases e
  · rename_i x _
    obtain ⟨v, rfl, rv⟩ := r.one
    split at e
    · rename_i ys ey
      cases e
      obtain ⟨a, vs, rfl, h, k⟩ := asQ_ok hg rv ey
      refine call_len pins s σ H _ us Q I rs ⟨_, vs.length, rfl, h.imp (fun h => ⟨vs, h, rfl⟩) (fun h => ⟨vs, h, rfl⟩), q _ _ H Step.refl hg (by rw [← k.length]; rfl)⟩
    · split at e
      · rename_i kvs ek
        cases e
        obtain ⟨a, ws, rfl, h, k⟩ := asD_ok hg rv ek
        cases rs with
        | cons ru rt =>
          cases rt
          cases ru
          exact d_len I h fun t s' I' => ⟨.int ws.length, H, I', ⟨t, rfl⟩, q _ _ H Step.refl hg (by rw [k.length]; rfl)⟩
      · cases e
  · cases e
theorem call_pyInt1 : CallR X (.type "int") (rDB X.K T pyInt1) := by
  rintro pins s σ H xs us Q I rs ⟨F, G, ds, z, hg, r, e, q⟩
  unfold pyInt1 at e
  split at e
  · cases e
    obtain ⟨v, rfl, rv⟩ := r.one
    exact call_int1 pins s σ H _ us Q I rs (.inl ⟨_, by rw [show v = _ from rv], q _ _ H Step.refl hg rfl⟩)
  · cases e
    obtain ⟨v, rfl, rv⟩ := r.one
    exact call_int1 pins s σ H _ us Q I rs (.inr ⟨_, by rw [show v = _ from rv], q _ _ H Step.refl hg rfl⟩)
  · cases e
theorem sum_word {G : DG} {F : FS} {H : Hp} {ds : List D} {z : D} {xs : List V} (hg : RelG X.K T F G H) (r : RelDs X.K F H ds xs) (e : pySum G ds = some z) : ∃ (a : Addr) (ns : List Int), xs = [V.ref a] ∧ SqL X.K H a (ns.map V.int) ∧ z = .int ns.sum := by
  unfold pySum at e
  split at e
  · obtain ⟨v, rfl, rv⟩ := r.one
    obtain ⟨ys, ey, e⟩ := Option.bind_eq_some_iff.mp e
    obtain ⟨ns, en, rfl⟩ := Option.map_eq_some_iff.mp e
    obtain ⟨a, vs, rfl, h, k⟩ := asL_ok hg rv ey
    rw [allI_eq en] at k
    rw [k.ints] at h
    exact ⟨a, ns, rfl, .inl h, rfl⟩
  · cases e
theorem call_pySumQ (hc : LN.HotC X) : CallR X (.builtin "sum") (rDB X.K T pySum) := by
  rintro pins s σ H xs us Q I rs ⟨F, G, ds, z, hg, r, e, q⟩
  obtain ⟨a, ns, ex, h, rfl⟩ := sum_word hg r e
  exact cr_sumQ hc pins s σ H xs us Q I rs ⟨a, ns, ex, h, q _ _ H Step.refl hg rfl⟩
theorem call_pyAll (hc : X.calm = true) : CallR X (.builtin "all") (rDB X.K T pyAll) := by
  rintro pins s σ H xs us Q I rs ⟨F, G, ds, z, hg, r, e, q⟩
  unfold pyAll at e
  split at e
  · obtain ⟨v, rfl, rv⟩ := r.one
    obtain ⟨ys, ey, e⟩ := Option.bind_eq_some_iff.mp e
    obtain ⟨bs, en, rfl⟩ := Option.map_eq_some_iff.mp e
    obtain ⟨a, vs, rfl, h, k⟩ := asL_ok hg rv ey
    rw [allB_eq en] at k
    rw [k.bls] at h
    exact cr_all hc pins s σ H _ us Q I rs ⟨a, bs, rfl, .inl h, q _ _ H Step.refl hg rfl⟩
  · cases e
theorem call_pyMin2 (hc : X.calm = true) : CallR X (.builtin "min") (rDB X.K T pyMin2) := by
  rintro pins s σ H xs us Q I rs ⟨F, G, ds, z, hg, r, e, q⟩
  unfold pyMin2 at e
  split at e
  · cases e
    obtain ⟨v, u, rfl, rv, ru⟩ := r.two
    exact call_min2 hc pins s σ H _ us Q I rs ⟨_, _, by rw [show v = _ from rv, show u = _ from ru], q _ _ H Step.refl hg rfl⟩
  · cases e
theorem call_pyMax2 (hc : X.calm = true) : CallR X (.builtin "max") (rDB X.K T pyMax2) := by
  rintro pins s σ H xs us Q I rs ⟨F, G, ds, z, hg, r, e, q⟩
  unfold pyMax2 at e
  split at e
  · cases e
    obtain ⟨v, u, rfl, rv, ru⟩ := r.two
    exact call_max2 hc pins s σ H _ us Q I rs ⟨_, _, by rw [show v = _ from rv, show u = _ from ru], q _ _ H Step.refl hg rfl⟩
  · cases e
theorem call_pyTup : CallR X (.type "tuple") (rDB X.K T pyTup) := by
  rintro pins s σ H xs us Q I rs ⟨F, G, ds, z, hg, r, e, q⟩
  unfold pyTup at e
  split at e
  · rename_i d
    obtain ⟨v, rfl, rv⟩ := r.one
    obtain ⟨ys, ey, rfl⟩ := Option.map_eq_some_iff.mp e
    cases d with
    | tup zs =>
      cases ey
      obtain ⟨a, vs, rfl, t, k⟩ := rv
      exact call_tuple_of pins s σ H _ us Q I rs ⟨a, vs, rfl, .inr ⟨t.sq, q _ _ H Step.refl hg ⟨a, vs, rfl, t, k⟩⟩⟩
    | lst zs =>
      obtain ⟨a, vs, rfl, h, k⟩ := asL_ok hg rv ey
      exact call_tuple_of pins s σ H _ us Q I rs ⟨a, vs, rfl, .inl ⟨.inl h, fun p hp => q _ _ _ (Step.new hp) (hg.new hp) (relD_newTup hg hp k)⟩⟩
    | scr ns =>
      cases ey
      obtain ⟨a, rfl, h⟩ := rv
      exact call_tuple_of pins s σ H _ us Q I rs ⟨a, ns.map V.int, rfl, .inl ⟨h.imp (fun h => h.1.rd) id, fun p hp => q _ _ _ (Step.new hp) (hg.new hp) (relD_newTup hg hp (relDs_ints ns))⟩⟩
    | ref b =>
      obtain ⟨a, vs, rfl, h, k⟩ := asL_ok hg rv ey
      exact call_tuple_of pins s σ H _ us Q I rs ⟨a, vs, rfl, .inl ⟨.inl h, fun p hp => q _ _ _ (Step.new hp) (hg.new hp) (relD_newTup hg hp k)⟩⟩
    | _ => cases ey
  · cases e
end
/-! isinstance with a built-in class -/
def tyO : Option DO → Option String
  | some (.lst _) => some "list"
  | some (.dct _) => some "dict"
  | some (.lck _ _) => some "dict"
  | _ => none
def tyD (G : DG) : D → Option String
  | .non => some "NoneType"
  | .bl _ => some "bool"
  | .int _ => some "int"
  | .str _ => some "str"
  | .tup _ => some "tuple"
  | .lst _ => some "list"
  | .dct _ => some "dict"
  | .ref a => tyO (G a)
  | .scr _ => none
def isiB (t ty : String) : Bool := t == ty || (t == "bool" && ty == "int")
def pyIsi (ty : String) (G : DG) (x : D) : Option D := (tyD G x).map fun t => .bl (isiB t ty)
theorem kit_isi {K : PySem.W.Frag} {t ty : String} (ht : t ∈ ["NoneType", "bool", "int", "str", "tuple", "list", "dict"]) (hty : ty ∈ ["int", "bool", "str", "tuple", "list", "dict"]) : PySem.W.kitOne K (.type t) (.type ty) = some (isiB t ty) := by
  have all : ∀ t ∈ ["NoneType", "bool", "int", "str", "tuple", "list", "dict"], ∀ ty ∈ ["int", "bool", "str", "tuple", "list", "dict"], kitB t ty = some (isiB t ty) := by decide +kernel
  exact kit_ty (all t ht ty hty)
theorem Rs.tyL {K : PySem.W.Frag} {H : Hp} {a : Addr} {vs : List V} (h : Rs H a (.lst vs)) : TyX K H (.ref a) (.type "list") := by
  rcases h.rd with h | ⟨o, h⟩
  · exact .base (.lst h)
  · exact .base (.frz h)
theorem Rs.tyT {K : PySem.W.Frag} {H : Hp} {a : Addr} {vs : List V} (h : Rs H a (.tup vs)) : TyX K H (.ref a) (.type "tuple") := by
  rcases h.rd with h | ⟨o, h⟩
  · exact .base (.tup h)
  · exact .fTuple h
theorem Rs.tyD {K : PySem.W.Frag} {H : Hp} {a : Addr} {vs : List (Key × V)} (h : Rs H a (.dK vs)) : TyX K H (.ref a) (.type "dict") := by
  rcases h.rd with h | ⟨o, h⟩
  · exact .base (.dK h)
  · exact .fDict h
theorem tyD_ok {K : PySem.W.Frag} {F : FS} {G : DG} {H : Hp} {d : D} {v : V} {t : String} (hg : RelG K T F G H) (r : RelD K F H d v) (e : tyD G d = some t) : TyX K H v (.type t) ∧ t ∈ ["NoneType", "bool", "int", "str", "tuple", "list", "dict"] := by
  cases d with
  | non => cases e; rw [show v = _ from r]; exact ⟨.base .non, by decide⟩
  | bl b => cases e; rw [show v = _ from r]; exact ⟨.base (.bl b), by decide⟩
  | int b => cases e; rw [show v = _ from r]; exact ⟨.base (.int b), by decide⟩
  | str b => cases e; rw [show v = _ from r]; exact ⟨.base (.str _), by decide⟩
  | tup b =>
    cases e
    obtain ⟨a, vs, rfl, h, _⟩ := r
    refine ⟨?_, by decide⟩
    rcases h with ⟨h, _⟩ | ⟨o, its, n, hk, hc, _⟩
    · exact h.tyT
    · exact .kTuple hk hc
  | lst b =>
    cases e
    obtain ⟨a, vs, rfl, h, _⟩ := r
    exact ⟨h.1.tyL, by decide⟩
  | dct b =>
    cases e
    obtain ⟨a, vs, rfl, h, _⟩ := r
    exact ⟨h.1.tyD, by decide⟩
  | scr ns => cases e
  | ref a =>
    rw [show v = _ from r]
    have e : tyO (G a) = some t := e
    cases q : G a with
    | none => rw [q] at e; cases e
    | some o =>
      rw [q] at e
      cases o with
      | lst xs =>
        cases e
        obtain ⟨vs, h, _⟩ := hg.ob a _ q
        exact ⟨.base (.lst h), by decide⟩
      | dct xs =>
        cases e
        obtain ⟨vs, h, _⟩ := hg.ob a _ q
        exact ⟨.base (.dK h), by decide⟩
      | lck xs u =>
        cases e
        obtain ⟨o, vs, e1, h, _⟩ := hg.ob a _ q
        exact ⟨Rs.tyD (vs := vs) ⟨_, h, by rw [e1]; rfl⟩, by decide⟩
      | xdo x v => cases e
      | exn c x => cases e
      | ins c fs => cases e
theorem q_isi {X : Cx} {W : WX} {e : Expr} {te : DTE} {p p2 pos : Pos} {ty : String} (hg : Gl X "isinstance") (hm : X.mg "isinstance" = none) (hgt : Gl X (Str.ofString ty)) (hmt : X.mg (Str.ofString ty) = none) (hv : bootBuiltins (Str.ofString ty) = some (.type ty)) (he : QE X T W e te)
    (hty : ty ∈ ["int", "bool", "str", "tuple", "list", "dict"] := by decide) (hn : Str.ofString ty ≠ "__name__" := by decide) (hd : (Str.ofString ty == ("__debug__" : Str)) = false := by decide)
    (hs1 : starEach [e, .Name (Str.ofString ty) p2] X.env = (false, eval e X.env) :: starEach [.Name (Str.ofString ty) p2] X.env := by rfl) :
    QE X T W (.Call (.Name "isinstance" p) [e, .Name (Str.ofString ty) p2] [] pos) (dUn (pyIsi ty) te) :=
  PE.imp (pe_callB (call_isi (X := X)) hg hm PyProof.Rows.boot_isinstance (pa_cons he (pa_cons (pe_bltn hgt hmt hv (v := .ty ty) rfl hn hd) pa_nil) hs1) (he := hs1)) fun σ H Q ⟨env, F, G, E, P, hg, hs, hx, ht, hq⟩ =>
    ⟨env, F, G, E, _, hg, hs, hx, ht, fun x F1 G1 v1 H1 ⟨z, e, p⟩ s1 g1 r1 => by
      obtain ⟨t, et, rfl⟩ := Option.map_eq_some_iff.mp e
      obtain ⟨tx, mt⟩ := tyD_ok g1 r1 et
      exact ⟨v1, .ty ty, .type t, .type ty, isiB t ty, rfl, .ty ty, tx, kit_isi mt hty, hq _ F1 G1 _ H1 p s1 g1 rfl⟩⟩
end DL

namespace DL
open PySem PySem.Spec PyProof.Rows L2 SrtO DZ
variable {T : LT}
/-! ### the order of deep values -/
def ltA : D → D → Bool
  | .int i, .int j => decide (i < j)
  | .str s, .str t => strLt s t
  | _, _ => false
def eqA : D → D → Bool
  | .int i, .int j => decide (i = j)
  | .str s, .str t => decide (s = t)
  | _, _ => false
def ltT : List D → List D → Bool
  | _, [] => false
  | [], _ :: _ => true
  | x :: xs, y :: ys => if eqA x y = true then ltT xs ys else ltA x y
def ltD : D → D → Bool
  | .tup xs, .tup ys => ltT xs ys
  | x, y => ltA x y
def insD (x : D) : List D → List D
  | [] => [x]
  | y :: ys => if ltD y x = true then y :: insD x ys else x :: y :: ys
def sortD : List D → List D
  | [] => []
  | x :: xs => insD x (sortD xs)
/-- the kind of an atom -/
def atK : D → Option Bool
  | .int _ => some true
  | .str _ => some false
  | _ => none
def shK : List D → Option (List Bool)
  | [] => some []
  | x :: xs => match atK x, shK xs with
    | some b, some l => some (b :: l)
    | _, _ => none
/-- what can be sorted: all ints, all texts, all rows of one shape -/
def shD : D → Option (List Bool)
  | .tup [] => none
  | .tup (x :: xs) => (shK (x :: xs)).map (false :: ·)
  | .int _ => some [true, true]
  | .str _ => some [true, false]
  | _ => none
def homD : List D → Bool
  | [] => true
  | x :: xs => match shD x with
    | some l => xs.all fun y => decide (shD y = some l)
    | none => false
def keyA : D → Key
  | .int i => .inl i
  | .str s => .inr (S s)
  | _ => .inl 0
def rowD : D → List Key
  | .tup xs => xs.map keyA
  | x => [keyA x]
theorem atK_some {x : D} {b : Bool} (h : atK x = some b) : (∃ i, x = .int i ∧ b = true) ∨ (∃ s, x = .str s ∧ b = false) := by
  cases x with
  | int i => exact .inl ⟨i, rfl, (Option.some.inj h).symm⟩
  | str s => exact .inr ⟨s, rfl, (Option.some.inj h).symm⟩
  | _ => cases h
theorem ltA_key {x y : D} {b : Bool} (hx : atK x = some b) (hy : atK y = some b) : ltA x y = ltK (keyA x) (keyA y) ∧ (eqA x y = true ↔ keyA x = keyA y) ∧ (keyA x = keyA y → x = y) := by
  rcases atK_some hx with ⟨i, rfl, rfl⟩ | ⟨s, rfl, rfl⟩
  · rcases atK_some hy with ⟨j, rfl, _⟩ | ⟨t, rfl, c⟩
    · refine ⟨rfl, ?_, fun e => ?_⟩
      · show decide (i = j) = true ↔ (Sum.inl i : Key) = Sum.inl j
        rw [decide_eq_true_eq, Sum.inl.injEq]
      · rw [Sum.inl.inj (show (Sum.inl i : Key) = Sum.inl j from e)]
    · cases c
  · rcases atK_some hy with ⟨j, rfl, c⟩ | ⟨t, rfl, _⟩
    · cases c
    · refine ⟨?_, ?_, fun e => ?_⟩
      · show strLt s t = decide ((S s).cps.toList < (S t).cps.toList)
        rw [S_cps, S_cps] <;> rfl
      · show decide (s = t) = true ↔ (Sum.inr (S s) : Key) = Sum.inr (S t)
        rw [decide_eq_true_eq, Sum.inr.injEq]
        exact ⟨fun e => by rw [e], S_inj⟩
      · rw [S_inj (Sum.inr.inj (show (Sum.inr (S s) : Key) = Sum.inr (S t) from e))]
theorem shK_cons {x : D} {xs : List D} {l : List Bool} (h : shK (x :: xs) = some l) : ∃ b m, l = b :: m ∧ atK x = some b ∧ shK xs = some m := by
  unfold shK at h
  cases e1 : atK x with
  | none =>
    rw [e1] at h
    cases h
  | some b =>
    cases e2 : shK xs with
    | none =>
      rw [e1, e2] at h
      cases h
    | some m =>
      rw [e1, e2] at h
      exact ⟨b, m, (Option.some.inj h).symm, rfl, rfl⟩
theorem ltT_key : ∀ {xs ys : List D} {l : List Bool}, shK xs = some l → shK ys = some l → ltT xs ys = ltR (xs.map keyA) (ys.map keyA) ∧ (xs.map keyA = ys.map keyA → xs = ys)
  | [], [], _, _, _ => ⟨rfl, fun _ => rfl⟩
  | [], y :: ys, l, hx, hy => by
    obtain ⟨b, m, rfl, _, _⟩ := shK_cons hy
    cases hx
  | x :: xs, [], l, hx, hy => by
    obtain ⟨b, m, rfl, _, _⟩ := shK_cons hx
    cases hy
  | x :: xs, y :: ys, l, hx, hy => by
    obtain ⟨b, m, rfl, ax, sx⟩ := shK_cons hx
    obtain ⟨b', m', e, ay, sy⟩ := shK_cons hy
    cases e
    obtain ⟨h1, h2, h3⟩ := ltA_key ax ay
    obtain ⟨k1, k2⟩ := ltT_key sx sy
    refine ⟨?_, fun e => ?_⟩
    · rw [List.map_cons, List.map_cons]
      unfold ltT ltR
      by_cases c : keyA x = keyA y
      · rw [if_pos (h2.mpr c), if_pos c, k1]
      · rw [if_neg (fun z => c (h2.mp z)), if_neg c, h1]
    · rw [List.map_cons, List.map_cons, List.cons.injEq] at e
      rw [h3 e.1, k2 e.2]
theorem shD_cases {x : D} {l : List Bool} (h : shD x = some l) : (∃ y ys m, x = .tup (y :: ys) ∧ shK (y :: ys) = some m ∧ l = false :: m) ∨ (∃ b, atK x = some b ∧ l = [true, b]) := by
  cases x with
  | tup xs =>
    cases xs with
    | nil => cases h
    | cons y ys =>
      obtain ⟨m, e, rfl⟩ := Option.map_eq_some_iff.mp (show (shK (y :: ys)).map (false :: ·) = some l from h)
      exact .inl ⟨y, ys, m, rfl, e, rfl⟩
  | int i => exact .inr ⟨true, rfl, (Option.some.inj h).symm⟩
  | str s => exact .inr ⟨false, rfl, (Option.some.inj h).symm⟩
  | _ => cases h
theorem ltD_atoms {x y : D} {b c : Bool} (hx : atK x = some b) (hy : atK y = some c) : ltD x y = ltA x y ∧ rowD x = [keyA x] ∧ rowD y = [keyA y] := by
  rcases atK_some hx with ⟨i, rfl, rfl⟩ | ⟨s, rfl, rfl⟩ <;> rcases atK_some hy with ⟨j, rfl, rfl⟩ | ⟨t, rfl, rfl⟩ <;> exact ⟨rfl, rfl, rfl⟩
theorem ltR_one (x y : Key) : ltR [x] [y] = ltK x y := by
  show (if x = y then false else ltK x y) = ltK x y
  by_cases e : x = y
  · subst e
    rw [if_pos rfl, ltK_irr]
  · rw [if_neg e]
theorem ltD_row {x y : D} {l : List Bool} (hx : shD x = some l) (hy : shD y = some l) : ltD x y = ltR (rowD x) (rowD y) ∧ (rowD x = rowD y → x = y) := by
  rcases shD_cases hx with ⟨a, as, m, rfl, sa, rfl⟩ | ⟨b, ax, rfl⟩
  · rcases shD_cases hy with ⟨c, cs, n, rfl, sc, e⟩ | ⟨b, ax, e⟩
    · cases e
      obtain ⟨h1, h2⟩ := ltT_key sa sc
      exact ⟨h1, fun e => by rw [h2 e]⟩
    · cases e
  · rcases shD_cases hy with ⟨c, cs, n, rfl, sc, e⟩ | ⟨b', ay, e⟩
    · cases e
    · cases e
      obtain ⟨h1, h2, h3⟩ := ltA_key ax ay
      obtain ⟨k1, k2, k3⟩ := ltD_atoms ax ay
      rw [k1, k2, k3, ltR_one]
      exact ⟨h1, fun e => h3 (List.cons.inj e).1⟩
theorem homD_sh {xs : List D} (h : homD xs = true) : ∃ l, ∀ x ∈ xs, shD x = some l := by
  cases xs with
  | nil => exact ⟨[], fun x m => by cases m⟩
  | cons x xs =>
    cases e : shD x with
    | none =>
      simp only [homD, e] at h
      cases h
    | some l =>
      simp only [homD, e] at h
      refine ⟨l, fun y m => ?_⟩
      rcases List.mem_cons.mp m with m | m
      · rw [m, e]
      · exact of_decide_eq_true (List.all_eq_true.mp h y m)
/-! ### the sorted row -/
theorem insD_perm (x : D) : ∀ ys, (insD x ys).Perm (x :: ys)
  | [] => .refl _
  | y :: ys => by
    unfold insD
    split
    · exact ((insD_perm x ys).cons y).trans (List.Perm.swap x y ys)
    · exact .refl _
theorem sortD_perm : ∀ xs, (sortD xs).Perm xs
  | [] => .refl _
  | x :: xs => (insD_perm x _).trans ((sortD_perm xs).cons x)
def Rise (xs : List D) : Prop := xs.Pairwise fun x y => ltR (rowD y) (rowD x) = false
theorem insD_rise {l : List Bool} {x : D} (hx : shD x = some l) : ∀ {ys : List D}, (∀ y ∈ ys, shD y = some l) → Rise ys → Rise (insD x ys)
  | [], _, _ => List.pairwise_singleton _ _
  | y :: ys, hy, r => by
    obtain ⟨r1, r2⟩ := List.pairwise_cons.mp r
    have e := (ltD_row (hy y List.mem_cons_self) hx).1
    unfold insD
    by_cases c : ltD y x = true
    · rw [if_pos c]
      refine List.pairwise_cons.mpr ⟨fun z m => ?_, insD_rise hx (fun z m => hy z (List.mem_cons_of_mem _ m)) r2⟩
      rcases List.mem_cons.mp ((insD_perm x ys).mem_iff.mp m) with m | m
      · rw [m]
        exact (swoR rowD).asym y x (e ▸ c)
      · exact r1 z m
    · rw [if_neg c]
      have c' : ltR (rowD y) (rowD x) = false := by
        rw [← e]
        exact Bool.eq_false_iff.mpr c
      refine List.pairwise_cons.mpr ⟨fun z m => ?_, r⟩
      rcases List.mem_cons.mp m with m | m
      · rw [m]
        exact c'
      · exact (swoR rowD).tr x y z c' (r1 z m)
theorem sortD_rise {l : List Bool} : ∀ {xs : List D}, (∀ x ∈ xs, shD x = some l) → Rise (sortD xs)
  | [], _ => List.Pairwise.nil
  | x :: xs, h => insD_rise (h x List.mem_cons_self) (fun y m => h y (List.mem_cons_of_mem _ ((sortD_perm xs).mem_iff.mp m))) (sortD_rise fun y m => h y (List.mem_cons_of_mem _ m))
/-- a rising row is told by its members -/
theorem rise_eq {l : List Bool} : ∀ {xs ys : List D}, xs.Perm ys → (∀ x ∈ xs, shD x = some l) → Rise xs → Rise ys → xs = ys
  | [], ys, p, _, _, _ => (List.nil_perm.mp p).symm
  | x :: xs, [], p, _, _, _ => absurd p (fun z => by cases List.perm_nil.mp z)
  | x :: xs, y :: ys, p, h, rx, ry => by
    obtain ⟨x1, x2⟩ := List.pairwise_cons.mp rx
    obtain ⟨y1, y2⟩ := List.pairwise_cons.mp ry
    have mx : x ∈ y :: ys := p.mem_iff.mp List.mem_cons_self
    have my : y ∈ x :: xs := p.mem_iff.mpr List.mem_cons_self
    have e : x = y := by
      rcases List.mem_cons.mp mx with m | m
      · exact m
      rcases List.mem_cons.mp my with m' | m'
      · exact m'.symm
      exact (ltD_row (h x List.mem_cons_self) (h y my)).2 (ltR_tri (y1 x m) (x1 y m'))
    subst e
    rw [rise_eq ((List.perm_cons x).mp p) (fun z m => h z (List.mem_cons_of_mem _ m)) x2 y2]
/-! ### a permuted row of values -/
theorem perm_pull {α β : Type} {f : α → β} : ∀ {l m : List β}, l.Perm m → ∀ ps : List α, ps.map f = m → ∃ qs : List α, qs.Perm ps ∧ qs.map f = l := by
  intro l m p
  induction p with
  | nil => exact fun ps e => ⟨ps, .refl _, e⟩
  | cons x _ ih =>
    intro ps e
    match ps, e with
    | a :: as, e =>
      rw [List.map_cons, List.cons.injEq] at e
      obtain ⟨qs, q1, q2⟩ := ih as e.2
      exact ⟨a :: qs, q1.cons a, by rw [List.map_cons, q2, e.1]⟩
  | swap x y l =>
    intro ps e
    match ps, e with
    | a :: b :: as, e =>
      rw [List.map_cons, List.map_cons, List.cons.injEq, List.cons.injEq] at e
      exact ⟨b :: a :: as, List.Perm.swap a b as, by rw [List.map_cons, List.map_cons, e.1, e.2.1, e.2.2]⟩
  | trans _ _ ih1 ih2 =>
    intro ps e
    obtain ⟨qs, q1, q2⟩ := ih2 ps e
    obtain ⟨rs, r1, r2⟩ := ih1 qs q2
    exact ⟨rs, r1.trans q1, r2⟩
/-- the three rows as one -/
theorem triples {K : PySem.W.Frag} {F : FS} {H : Hp} : ∀ {ds : List D} {vs : List V} {us : List Value}, RelDs K F H ds vs → Vals vs us →
    ∃ ps : List (D × V × Value), ps.map (·.1) = ds ∧ ps.map (·.2.1) = vs ∧ ps.map (·.2.2) = us ∧ ∀ p ∈ ps, RelD K F H p.1 p.2.1 ∧ RelV p.2.1 p.2.2
  | [], _, _, r, h => by
    obtain rfl := r
    cases h
    exact ⟨[], rfl, rfl, rfl, fun p m => by cases m⟩
  | d :: ds, _, _, ⟨v, vs, rfl, r, rs⟩, h => by
    cases h with
    | cons h hs =>
      obtain ⟨ps, e1, e2, e3, q⟩ := triples rs hs
      refine ⟨(d, v, _) :: ps, by rw [List.map_cons, e1], by rw [List.map_cons, e2], by rw [List.map_cons, e3], fun p m => ?_⟩
      rcases List.mem_cons.mp m with m | m
      · rw [m]
        exact ⟨r, h⟩
      · exact q p m
theorem untriple {K : PySem.W.Frag} {F : FS} {H : Hp} : ∀ {ps : List (D × V × Value)}, (∀ p ∈ ps, RelD K F H p.1 p.2.1 ∧ RelV p.2.1 p.2.2) → RelDs K F H (ps.map (·.1)) (ps.map (·.2.1)) ∧ Vals (ps.map (·.2.1)) (ps.map (·.2.2))
  | [], _ => ⟨rfl, .nil⟩
  | p :: ps, h => by
    obtain ⟨r, k⟩ := untriple fun q m => h q (List.mem_cons_of_mem _ m)
    exact ⟨⟨_, _, rfl, (h p List.mem_cons_self).1, r⟩, .cons (h p List.mem_cons_self).2 k⟩
/-! ### the values' rows in the heap -/
theorem key_val {K : PySem.W.Frag} {F : FS} {H : Hp} {d : D} {b : Bool} {v : V} {u : Value} (h : atK d = some b) (r : RelD K F H d v) (q : RelV v u) : keyIs (keyA d) u = true := by
  rcases atK_some h with ⟨i, rfl, _⟩ | ⟨s, rfl, _⟩
  · rw [show v = _ from r] at q
    obtain ⟨t, rfl⟩ := q
    exact keyIs_int i t
  · rw [show v = _ from r] at q
    obtain ⟨t, rfl⟩ := q
    exact keyIs_str _ t
theorem keys_vals {K : PySem.W.Frag} {F : FS} {H : Hp} : ∀ {ds : List D} {l : List Bool} {vs : List V} {us : List Value}, shK ds = some l → RelDs K F H ds vs → Vals vs us → KsAre (ds.map keyA) us ∧ (ds.map keyA).map sortK = l
  | [], _, _, _, h, r, q => by
    obtain rfl := r
    cases q
    cases h
    exact ⟨rfl, rfl⟩
  | d :: ds, l, _, _, h, ⟨v, vs, rfl, r, rs⟩, q => by
    cases q with
    | cons q qs =>
      obtain ⟨b, m, rfl, a, s⟩ := shK_cons h
      obtain ⟨k1, k2⟩ := keys_vals s rs qs
      refine ⟨⟨_, _, rfl, key_val a r q, k1⟩, ?_⟩
      rw [List.map_cons, List.map_cons, k2]
      rcases atK_some a with ⟨i, rfl, rfl⟩ | ⟨t, rfl, rfl⟩ <;> rfl
theorem Flat.inj {h : Heap} {u : Value} {ks ks' : List Key} (x : Flat h u ks) (y : Flat h u ks') : ks = ks' := by
  obtain ⟨a, o, xs, n, e, ho, _, hd, k⟩ := x
  obtain ⟨a', o', xs', n', e', ho', _, hd', k'⟩ := y
  rw [e] at e'
  cases e'
  rw [ho] at ho'
  cases ho'
  rw [hd] at hd'
  injection hd' with q1 q2
  subst q1
  have all : ∀ {ks ks' : List Key} {vs : List Value}, KsAre ks vs → KsAre ks' vs → ks = ks' := by
    intro ks
    induction ks with
    | nil =>
      intro ks' vs k k'
      obtain rfl : vs = [] := k
      cases ks' with
      | nil => rfl
      | cons _ _ =>
        obtain ⟨_, _, e, _⟩ := k'
        cases e
    | cons c ks ih =>
      intro ks' vs ⟨v, r, e, hc, hr⟩ k'
      subst e
      cases ks' with
      | nil => cases k'
      | cons c' ks' =>
        obtain ⟨_, _, e, hc', hr'⟩ := k'
        cases e
        rw [ih hr hr', ← kOf_is hc, ← kOf_is hc']
  exact all k k'
open Classical in
noncomputable def kfH (h : Heap) (u : Value) : List Key := if e : ∃ ks, Flat h u ks then Classical.choose e else [kOf u]
theorem kfH_flat {h : Heap} {u : Value} {ks : List Key} (f : Flat h u ks) : kfH h u = ks := by
  have e : ∃ ks, Flat h u ks := ⟨ks, f⟩
  unfold kfH
  rw [dif_pos e]
  exact Flat.inj (Classical.choose_spec e) f
theorem kfH_key {h : Heap} {u : Value} {k : Key} (f : keyIs k u = true) : kfH h u = [k] := by
  have e : ¬ ∃ ks, Flat h u ks := by
    rintro ⟨ks, a, o, xs, n, e, _⟩
    rw [e] at f
    rcases keyIs_shape f with ⟨i, t, _, c⟩ | ⟨x, t, _, c⟩ <;> cases c
  unfold kfH
  rw [dif_neg e, kOf_is f]
theorem sortable_congr {P : Program} {w : World} {A : Around} {s : Shared} {a : Addr} {vs : List Value} {l1 l2 : Value → Value → Bool} (h : SortableO P w A s a vs l1) (e : ∀ u ∈ vs, ∀ v ∈ vs, l1 u v = l2 u v) : SortableO P w A s a vs l2 := by
  intro h' keep
  obtain ⟨κ, k1, k2⟩ := h h' keep
  refine ⟨κ, k1, fun p q hp hq => ?_⟩
  have z := k2 p q hp hq
  have e1 : lt2 l1 p q = lt2 l2 p q := e p.1 hp q.1 hq
  rw [e1] at z
  exact z
section
variable {X : Cx}
/-- a frozen tuple's object in the heap -/
theorem tup_flat {pins : List (Addr × Obj)} {σ : L2.St} {H : Hp} {s : Shared} {F : FS} {ds : List D} {m : List Bool} {v : V} {u : Value} (I : Inv X pins σ H s) (h : shK ds = some m) (r : RelD X.K F H (.tup ds) v) (q : RelV v u) : Flat s.heap u (ds.map keyA) ∧ (ds.map keyA).map sortK = m := by
  obtain ⟨a, vs, rfl, t, k⟩ := r
  obtain ⟨its, rv, ⟨o, ho, hc, n, hd⟩, _⟩ := I.tuple t.sq
  obtain ⟨k1, k2⟩ := keys_vals h k rv
  obtain rfl : u = Value.ref a := q
  exact ⟨⟨a, o, its.toArray, n, rfl, ho, hc, hd, k1⟩, k2⟩
/-- a row of deep values, gathered as us: it can be sorted, and its sorted row is that of sortD -/
theorem rdy_gen {pins : List (Addr × Obj)} {σ : L2.St} {H : Hp} {s s1 : Shared} {F : FS} {G : DG} {ds : List D} {vs : List V} {us : List Value} {Q : VK} (hg : RelG X.K T F G H) (I : Inv X pins σ H s1)
    (r : RelDs X.K F H ds vs) (rv : Vals vs us) (hz : vs.length ≤ sizeLine) (hom : homD ds = true) (q : ∀ p vs', H p = none → RelDs X.K F H (sortD ds) vs' → Q (.ref p) (upd H p (.lst vs'))) :
    Rdy X.prog X.w X.A (EP X pins σ Q) us s1 := by
  obtain ⟨l, hl⟩ := homD_sh hom
  obtain ⟨ps, p1, p2, p3, pr⟩ := triples r rv
  have len : us.length = vs.length := rv.length.symm
  -- what each value's row is
  have rows : ∀ p ∈ ps, kfH s1.heap p.2.2 = rowD p.1 := fun p m => by
    obtain ⟨rd, rq⟩ := pr p m
    have hs : shD p.1 = some l := hl p.1 (p1 ▸ List.mem_map.mpr ⟨p, m, rfl⟩)
    obtain ⟨d, v, u⟩ := p
    dsimp only at *
    rcases shD_cases hs with ⟨a, as, n, rfl, sa, _⟩ | ⟨b, ax, _⟩
    · exact kfH_flat (tup_flat I sa rd rq).1
    · rw [kfH_key (key_val ax rd rq), (ltD_atoms ax ax).2.1]
  refine ⟨by rw [len]; exact hz, fun u v => ltR (kfH s1.heap u) (kfH s1.heap v), swoR _, fun h2 h₁ a ha keep => ?_, fun h' p c out k hp hc hs hb => ?_⟩
  · -- the kinds
    match ds, hl, r, p1 with
    | [], _, r, _ =>
      obtain rfl := r
      rw [len] at h2
      exact absurd h2 (by decide)
    | d :: ds', hl, r, p1 =>
      have hd := hl d List.mem_cons_self
      have un : ∀ u ∈ us, ∃ p ∈ ps, p.2.2 = u := fun u m => by
        rw [← p3] at m
        obtain ⟨p, m, e⟩ := List.mem_map.mp m
        exact ⟨p, m, e⟩
      rcases shD_cases hd with ⟨y, ys, m, rfl, sy, rfl⟩ | ⟨b, ax, rfl⟩
      · refine sortable_rows (s := { s1 with heap := h₁ }) (kf := kfH s1.heap) (sh := m) (fun e => ?_) (fun u mu => ?_) h2 fun o e c => ?_
        · obtain ⟨b, n, e', _, _⟩ := shK_cons sy
          rw [e] at e'
          cases e'
        · obtain ⟨p, mp, rfl⟩ := un u mu
          obtain ⟨rd, rq⟩ := pr p mp
          have hs : shD p.1 = some (false :: m) := hl p.1 (by rw [← p1]; exact List.mem_map.mpr ⟨p, mp, rfl⟩)
          rw [rows p mp]
          rcases shD_cases hs with ⟨z, zs, n, ez, sz, e⟩ | ⟨b, _, e⟩
          · cases e
            rw [ez] at rd ⊢
            obtain ⟨⟨b, o, xs, k, e1, ho, hc, hd', ka⟩, f2⟩ := tup_flat I sz rd rq
            exact ⟨⟨b, o, xs, k, e1, (keep b o ho).2, hc, hd', ka⟩, f2⟩
          · cases e
        · have e' : some o = some (seqObj "list" us.toArray 0) := e.symm.trans ha
          cases e'
          exact absurd (Value.type.inj c) (by decide)
      · have at' : ∀ u ∈ us, ∃ p ∈ ps, p.2.2 = u ∧ atK p.1 = some b := fun u mu => by
          obtain ⟨p, mp, e⟩ := un u mu
          have hs : shD p.1 = some [true, b] := hl p.1 (by rw [← p1]; exact List.mem_map.mpr ⟨p, mp, rfl⟩)
          rcases shD_cases hs with ⟨z, zs, n, ez, sz, e⟩ | ⟨b', ab, e2⟩
          · cases e
          · cases e2
            exact ⟨p, mp, e, ab⟩
        refine sortable_congr (sortable_keys ?_ h2) fun u mu v mv => ?_
        · cases b with
          | true =>
            refine .inl fun u mu => ?_
            obtain ⟨p, mp, rfl, ap⟩ := at' u mu
            obtain ⟨rd, rq⟩ := pr p mp
            rcases atK_some ap with ⟨i, e, _⟩ | ⟨_, _, c⟩
            · rw [e] at rd
              rw [show p.2.1 = _ from rd] at rq
              obtain ⟨t, e⟩ := rq
              exact ⟨i, t, e⟩
            · cases c
          | false =>
            refine .inr fun u mu => ?_
            obtain ⟨p, mp, rfl, ap⟩ := at' u mu
            obtain ⟨rd, rq⟩ := pr p mp
            rcases atK_some ap with ⟨_, _, c⟩ | ⟨x, e, _⟩
            · cases c
            · rw [e] at rd
              rw [show p.2.1 = _ from rd] at rq
              obtain ⟨t, e⟩ := rq
              exact ⟨_, t, e⟩
        · obtain ⟨p, mp, rfl, ap⟩ := at' u mu
          obtain ⟨p', mp', rfl, ap'⟩ := at' v mv
          have k1 := key_val ap (pr p mp).1 (pr p mp).2
          have k2 := key_val ap' (pr p' mp').1 (pr p' mp').2
          show ltR [kOf p.2.2] [kOf p'.2.2] = ltR (kfH s1.heap p.2.2) (kfH s1.heap p'.2.2)
          rw [kfH_key k1, kfH_key k2, kOf_is k1, kOf_is k2]
  · -- the sorted row
    have pm : out.Perm (ps.map (·.2.2)) := by
      rw [p3]
      exact hb.perm
    obtain ⟨qs, q1, q2⟩ := perm_pull pm ps rfl
    have qr : ∀ p ∈ qs, RelD X.K F H p.1 p.2.1 ∧ RelV p.2.1 p.2.2 := fun p m => pr p (q1.mem_iff.mp m)
    have qrow : ∀ p ∈ qs, kfH s1.heap p.2.2 = rowD p.1 := fun p m => rows p (q1.mem_iff.mp m)
    have sh : ∀ x ∈ qs.map (·.1), shD x = some l := fun x m => by
      obtain ⟨p, mp, e⟩ := List.mem_map.mp m
      exact e ▸ hl p.1 (p1 ▸ List.mem_map.mpr ⟨p, q1.mem_iff.mp mp, rfl⟩)
    have rise : Rise (qs.map (·.1)) := by
      refine List.pairwise_map.mpr ?_
      rw [← q2] at hs
      refine (List.pairwise_map.mp hs).imp_of_mem fun {x y} mx my e => ?_
      have e : ltR (kfH s1.heap y.2.2) (kfH s1.heap x.2.2) = false := e
      rw [qrow x mx, qrow y my] at e
      exact e
    have eq : qs.map (·.1) = sortD ds := by
      refine rise_eq (l := l) ?_ sh rise (sortD_rise hl)
      have z := q1.map (·.1)
      rw [p1] at z
      exact z.trans (sortD_perm ds).symm
    obtain ⟨u1, u2⟩ := untriple qr
    rw [q2] at u2
    rw [eq] at u1
    have nf : H p = none := I.hok.fresh hp
    have l2 : (qs.map (·.2.1)).length ≤ sizeLine := by
      rw [List.length_map, q1.length_eq, ← List.length_map (f := fun p : D × V × Value => p.2.1), p2]
      exact hz
    refine ⟨.ref p, upd H p (.lst (qs.map (·.2.1))), I.laid (t' := s1.toks) k hp ⟨l2, out, c, u2, hc⟩, rfl, q _ _ nf u1⟩
theorem rdy_of {pins : List (Addr × Obj)} {σ : L2.St} {H : Hp} {s s1 : Shared} {F : FS} {G : DG} {ds : List D} {vs : List V} {us : List Value} {Q : VK} (hg : RelG X.K T F G H) (I : Inv X pins σ H s1)
    (r : RelDs X.K F H ds vs) (rv : Vals vs us) (hz : vs.length ≤ sizeLine) (hom : homD ds = true) (q : ∀ F' v H', Step F G H F' G H' → RelG X.K T F' G H' → RelD X.K F' H' (.lst (sortD ds)) v → Q v H') :
    Rdy X.prog X.w X.A (EP X pins σ Q) us s1 := rdy_gen (s := s) hg I r rv hz hom fun _ _ nf u1 => q _ _ _ (Step.new nf) (hg.new nf) (relD_newLst hg nf u1)
end
end DL

namespace DZ
open PySem PySem.Spec PyProof.Rows L2 SrtO
section
variable {P : Program} {w : World} {A : Around} {E : Value → Shared → Prop} {s : Shared} {a : Addr}
theorem sub_dict_dict : isSubtype (.type "dict") (.type "dict") = pure true := by
  rw [isSubtype_type]
  kernel_rfl
/-- a dict's keys, gathered -/
theorem collect_dict {kvs : List (Key × Value)} {ep : Nat} {Q : List Value → Shared → Prop} (hh : A.handled = none) (hsys : (a == sysModules) = false) (dat : s.heap.DictAt (mixKind P w) a kvs ep) (hz : kvs.length ≤ sizeLine)
    (hQ : ∀ (h' : Heap) (tk : Nat) (out : List Value), (∀ b o, s.heap.get? b = some o → h'.get? b = some o) → out.length = kvs.length → (∀ (i : Nat) (k : Key) (x : Value), kvs[i]? = some (k, x) → ∃ v, out[i]? = some v ∧ keyIs k v = true) → Q out { s with heap := h', toks := tk }) :
    wpAny (model P w) A (collect (.ref a)) Q E s := by
  obtain ⟨o, es, ho, hex, hdat, hko, hpr, hnd⟩ := id dat
  have lt : a < s.heap.objs.size := Heap.lt_size ho
  have na : s.heap.objs.size ≠ a := Nat.ne_of_gt lt
  unfold collect
  refine wpAny_bind (wpAny_runValue (codeAny_builtin F.entry_proto_collect ?_))
  rw [Around.under_plainId F.plain_proto_collect _]
  show wpAny _ A.in1 (newList [] >>= fun l => again (.builtin "list.__iadd__" ⟨[l, .ref a], []⟩)) _ _ s
  refine wpAny_bind (wpAny_newObj_type (wpAny_pure ⟨plainId_quiet F.plain_list_iadd _, codeAny_builtin F.entry_list_iadd ?_⟩))
  rw [Around.under_plainId F.plain_list_iadd _]
  have hS : (s.heap.push { cls := .type "list", data := .seq ([] : List Value).toArray }).get? s.heap.objs.size = some { cls := .type "list", data := .seq ([] : List Value).toArray } := Heap.get?_push_size _ rfl
  have d1 : (s.heap.push { cls := .type "list", data := .seq ([] : List Value).toArray }).DictAt (mixKind P w) a kvs ep := dat.keep fun b u e => Heap.get?_push_of_some _ e
  have z1 : (s.heap.push { cls := .type "list", data := .seq ([] : List Value).toArray }).objs.size = s.heap.objs.size + 1 := size_push' _ _
  show wpAny _ A.in1 (Builtin.List.listExtendWith (.ref s.heap.objs.size) (.ref a) (.ref s.heap.objs.size)) _ _ _
  unfold Builtin.List.listExtendWith
  refine wpAny_bind (wpAny_typeOf (T := "dict") ⟨o, Heap.get?_push_of_some _ ho, hex.1⟩ ?_)
  have h1 : Builtin.List.listSameRef (.ref s.heap.objs.size) (.ref a) = false := by simp [Builtin.List.listSameRef, na]
  have h2 : (Value.type "dict" == Value.type "list") = false := by decide
  have h3 : (Value.type "dict" == Value.type "tuple") = false := by decide
  simp only [h1, h2, h3, Bool.or_false, Bool.false_eq_true, if_false]
  refine wpAny_bind (wpAny_pyIter_dict (s := { s with heap := s.heap.push { cls := .type "list", data := .seq ([] : List Value).toArray } }) (knd := mixKind P w) hsys d1 ?_)
  dsimp only
  rw [z1]
  generalize hI : ({ cls := Value.type "dict_keyiterator", data := Data.fields #[.ref a, .int 0 0, .int kvs.length 0, .int ep 0] } : Obj) = it
  have it0 : ((s.heap.push { cls := .type "list", data := .seq ([] : List Value).toArray }).push it).get? (s.heap.objs.size + 1) = some it := by
    rw [← z1]
    exact Heap.get?_push_size _ (by rw [← hI]; rfl)
  have k2 : ∀ b u, (s.heap.push { cls := .type "list", data := .seq ([] : List Value).toArray }).get? b = some u → ((s.heap.push { cls := .type "list", data := .seq ([] : List Value).toArray }).push it).get? b = some u := fun b u e => Heap.get?_push_of_some _ e
  generalize h2e : (s.heap.push { cls := .type "list", data := .seq ([] : List Value).toArray }).push it = h2 at k2 it0 ⊢
  have o2 : h2.get? a = some o := k2 _ _ (Heap.get?_push_of_some _ ho)
  have T2 : Shared.TypeIs { s with heap := h2 } (.ref a) "dict" := ⟨o, o2, hex.1⟩
  refine wpAny_bind (wpAny_holding ?_)
  unfold Builtin.List.listLengthHint
  refine wpAny_bind (wpAny_specialOf T2 F.slot_dict_len.lookup ?_)
  (generalize hid : ("dict.__len__" : String) = id0; (fail_if_success (clear hid id0)); wp_delta; rw [show splitId id0 = some ("dict", "__len__") from by subst hid; decide +kernel]; subst hid)
  refine wpAny_bind (wpAny_isInstance (b := true) T2 sub_dict_dict ?_)
  show wpAny _ A.in1 (typeOf (.ref a) >>= _) _ _ _
  refine wpAny_bind (wpAny_typeOf T2 (wpAny_pure ?_))
  show wpAny _ A.in1 (rule "list.extend.makes-room" >>= fun _ => Builtin.List.listTouch (.ref s.heap.objs.size) >>= fun _ =>
    again (.builtin "list.extend.loop" ⟨[.ref s.heap.objs.size, .ref (s.heap.objs.size + 1), .ref s.heap.objs.size], []⟩)) _ _ _
  refine wpAny_bind (wpAny_rule ?_)
  have S2 := k2 _ _ hS
  refine wpAny_bind ?_
  show wpAny _ A.in1 (updateSeq s.heap.objs.size (·.push .none) >>= fun _ => updateSeq s.heap.objs.size (·.pop)) _ _ _
  refine wpAny_bind (wpAny_updateSeq S2 rfl ?_)
  have S3 := Heap.get?_update_self (Obj.mapSeq (·.push Value.none)) S2 rfl
  refine wpAny_updateSeq S3 rfl ?_
  have S4 := Heap.get?_update_self (Obj.mapSeq (·.pop)) S3 rfl
  have oth : ∀ b u, b ≠ s.heap.objs.size → h2.get? b = some u → ((h2.update s.heap.objs.size (Obj.mapSeq (·.push Value.none))).update s.heap.objs.size (Obj.mapSeq (·.pop))).get? b = some u :=
    fun b u hb e => (Heap.get?_update_other _ _ (Ne.symm hb)).trans ((Heap.get?_update_other _ _ (Ne.symm hb)).trans e)
  have nI : a ≠ s.heap.objs.size + 1 := Nat.ne_of_lt (Nat.lt_succ_of_lt lt)
  have W := Walks.dictKeys (knd := mixKind P w) (A := A.in1) hh (s.heap.objs.size + 1) a nI kvs ep
  have nf : s.heap.objs.size ∉ [s.heap.objs.size + 1, a] := by
    simp only [List.mem_cons, List.mem_singleton, List.not_mem_nil, or_false, not_or]
    exact ⟨Nat.ne_of_lt (Nat.lt_succ_self _), na⟩
  have st : (fun i (h : Heap) => h.IsKeyIter (s.heap.objs.size + 1) a i kvs.length ep ∧ h.DictAt (mixKind P w) a kvs ep) 0 ((h2.update s.heap.objs.size (Obj.mapSeq (·.push Value.none))).update s.heap.objs.size (Obj.mapSeq (·.pop))) := by
    refine ⟨⟨it, oth _ _ (Nat.ne_of_gt (Nat.lt_succ_self _)) it0, by rw [← hI], by rw [← hI] <;> rfl⟩, ?_⟩
    exact dat.at' fun u e => oth _ _ (Ne.symm na) (k2 _ _ (Heap.get?_push_of_some _ e))
  refine wpAny_pure ⟨plainId_quiet F.plain_extend_loop _, codeAny_extend_loopS W.toS hz _ nf _ kvs.length 0 _ _ _ rfl (Nat.zero_le _) st S4 (ItemsOf.nil _) fun s' acc' c' hm hS' hacc => ?_⟩
  show wpAny _ A (load s.heap.objs.size >>= _) _ _ s'
  refine wpAny_bind (wpAny_load hS' (wpAny_pure ?_))
  show Q acc'.toList s'
  obtain ⟨h', g', dr', tk', os'⟩ := s'
  have eg : g' = s.gens := hm.gens
  have ed : dr' = s.drawn := hm.drawn
  have eo : os' = s.os := hm.os
  subst eg; subst ed; subst eo
  refine hQ h' tk' acc'.toList (fun b u e => ?_) ?_ fun i k x e => ?_
  · have lb : b < s.heap.objs.size := Heap.lt_size e
    refine hm.heap b u (fun z => ?_) (oth b u (Nat.ne_of_lt lb) (k2 _ _ (Heap.get?_push_of_some _ e)))
    rcases List.mem_cons.mp z with z | z
    · exact absurd lb (by rw [z]; exact Nat.lt_irrefl _)
    · exact absurd lb (by rw [List.mem_singleton.mp z]; exact Nat.not_lt_of_le (Nat.le_succ _))
  · rw [Array.length_toList]
    exact hacc.1
  · have li : i < acc'.size := by
      rw [hacc.1]
      exact (List.getElem?_eq_some_iff.mp e).1
    obtain ⟨k', x', e', is⟩ := hacc.2 i acc'[i] (Array.getElem?_eq_getElem li)
    rw [e] at e'
    cases e'
    exact ⟨acc'[i], by rw [Array.getElem?_toList, Array.getElem?_eq_getElem li], is⟩
end
end DZ
namespace DL
open PySem PySem.Spec PyProof.Rows L2 SrtO DZ
variable {T : LT}
/-- what is gathered of a list, a tuple, a dict -/
def itD (G : DG) (x : D) : Option (List D) := match asQ G x with
  | some xs => some xs
  | none => match asD G x with
    | some kvs => some (kvs.map (·.1))
    | none => none
def pySorted (G : DG) : List D → Option D
  | [x] => match itD G x with
    | some xs => if homD xs = true then some (.lst (sortD xs)) else none
    | none => none
  | _ => none
theorem relKs_keys {K : PySem.W.Frag} {F : FS} {H : Hp} : ∀ {kvs : List (D × D)} {ws : List (Key × V)}, RelKs K F H kvs ws → RelDs K F H (kvs.map (·.1)) (ws.map fun w => kV w.1)
  | [], _, h => by
    obtain rfl := h
    rfl
  | (k, x) :: kvs, _, ⟨key, v, ws, rfl, hk, _, h⟩ => by
    refine ⟨_, _, rfl, ?_, relKs_keys h⟩
    cases k with
    | int i =>
      cases hk
      rfl
    | str s =>
      cases hk
      rfl
    | _ => cases hk
theorem vals_keys : ∀ {ks : List Key} {us : List Value}, us.length = ks.length → (∀ (i : Nat) (k : Key), ks[i]? = some k → ∃ u, us[i]? = some u ∧ keyIs k u = true) → Vals (ks.map kV) us
  | [], us, l, _ => by
    rw [List.eq_nil_of_length_eq_zero l]
    exact .nil
  | k :: ks, [], l, _ => by cases l
  | k :: ks, u :: us, l, h => by
    refine .cons ?_ (vals_keys (by rw [List.length_cons, List.length_cons] at l; omega) fun i k' e => h (i + 1) k' e)
    obtain ⟨u', e, is⟩ := h 0 k rfl
    cases e
    rcases keyIs_shape is with ⟨i, t, rfl, rfl⟩ | ⟨x, t, rfl, rfl⟩
    · exact ⟨t, rfl⟩
    · exact ⟨t, rfl⟩
section
variable {X : Cx}
theorem call_sortedG (hc : X.calm = true) : CallR X (.builtin "sorted") (fun xs H Q => ∃ F G ds z, RelG X.K T F G H ∧ RelDs X.K F H ds xs ∧ pySorted G ds = some z ∧ ∀ ys p vs', z = .lst ys → H p = none → RelDs X.K F H ys vs' → Q (.ref p) (upd H p (.lst vs'))) := by
  rintro pins s σ H xs us Q I rs ⟨F, G, ds, z, hg, r, e, q⟩
  unfold pySorted at e
  split at e
  · rename_i x
    obtain ⟨v, rfl, rv⟩ := r.one
    cases ei : itD G x with
    | none =>
      rw [ei] at e
      cases e
    | some ys =>
      rw [ei] at e
      dsimp only at e
      by_cases hom : homD ys = true
      · rw [if_pos hom] at e
        cases e
        have hd : X.A.in1.handled = none := by simp [I.ok.hd hc]
        unfold itD at ei
        cases e1 : asQ G x with
        | some zs =>
          rw [e1] at ei
          cases ei
          obtain ⟨a, vs, rfl, h, k⟩ := asQ_ok hg rv e1
          obtain rfl : us = [Value.ref a] := Vals.ref1 rs
          refine sortedV ?_
          rcases h with h | h
          · obtain ⟨its, r', pl, hz⟩ := I.list h
            obtain ⟨o, ho, hcl, n, hdt⟩ := pl.isList
            refine wpAny_collect_seq a (.inl rfl) ho hcl hdt (fun h' kp => ?_) (by rw [List.size_toArray, ← r'.length]; exact hz)
            exact rdy_gen (s := s) hg (I.kept (t' := s.toks) kp) k r' hz hom fun p vs' nf u1 => q _ p vs' rfl nf u1
          · obtain ⟨its, r', ⟨o, ho, hcl, n, hdt⟩, hz⟩ := I.tuple h
            refine wpAny_collect_seq a (.inr rfl) ho hcl hdt (fun h' kp => ?_) (by rw [List.size_toArray, ← r'.length]; exact hz)
            exact rdy_gen (s := s) hg (I.kept (t' := s.toks) kp) k r' hz hom fun p vs' nf u1 => q _ p vs' rfl nf u1
        | none =>
          rw [e1] at ei
          dsimp only at ei
          cases e2 : asD G x with
          | none =>
            rw [e2] at ei
            cases ei
          | some kvs =>
            rw [e2] at ei
            cases ei
            obtain ⟨a, ws, rfl, h, k⟩ := asD_ok hg rv e2
            obtain rfl : us = [Value.ref a] := Vals.ref1 rs
            refine sortedV ?_
            obtain ⟨hz, hsys, ps, rel, dof⟩ := dk_rd I.hok h
            obtain ⟨ep, dat⟩ := dof.dictAt
            have ek : ws.map (·.1) = ps.map (·.1) := KV.keys rel
            have el : ps.length = ws.length := by
              have z := congrArg List.length ek
              rw [List.length_map, List.length_map] at z
              exact z.symm
            refine collect_dict hd hsys dat (by rw [el]; exact hz) fun h' tk out kp ol ov => ?_
            have vals : Vals (ws.map fun w => kV w.1) out := by
              have z := vals_keys (ks := ws.map (·.1)) (us := out) (by rw [ol, el, List.length_map]) fun i k' e => by
                rw [ek, List.getElem?_map] at e
                obtain ⟨p, e3, e4⟩ := Option.map_eq_some_iff.mp e
                obtain ⟨kk, vv⟩ := p
                cases e4
                exact ov i kk vv e3
              rw [List.map_map] at z
              exact z
            exact rdy_gen (s := s) hg (I.kept (t' := tk) kp) (relKs_keys k) vals (by rw [List.length_map]; exact hz) hom fun p vs' nf u1 => q _ p vs' rfl nf u1
      · rw [if_neg hom] at e
        cases e
  · cases e
theorem call_pySorted (hc : X.calm = true) : CallR X (.builtin "sorted") (rDB X.K T pySorted) := by
  rintro pins s σ H xs us Q I rs ⟨F, G, ds, z, hg, r, e, q⟩
  refine call_sortedG hc pins s σ H xs us Q I rs ⟨F, G, ds, z, hg, r, e, fun ys p vs' ez nf u1 => ?_⟩
  subst ez
  exact q _ _ _ (Step.new nf) (hg.new nf) (relD_newLst hg nf u1)
end
end DL

namespace DL
open PySem PySem.Spec PyProof.Rows L2 SrtO DZ
variable {T : LT}
def nubD : List D → List D
  | [] => []
  | x :: xs => if xs.any (eqA x) = true then nubD xs else x :: nubD xs
/-- all ints, or all texts -/
def atomsD (xs : List D) : Bool := (xs.all fun x => decide (atK x = some true)) || (xs.all fun x => decide (atK x = some false))
def pySortedSet (G : DG) : List D → Option D
  | [x] => match asQ G x with
    | some xs => if atomsD xs = true ∧ xs.length ≤ 1000 then some (.lst (sortD (nubD xs))) else none
    | none => none
  | _ => none
theorem atomsD_of {xs : List D} (h : atomsD xs = true) : ∃ b, ∀ x ∈ xs, atK x = some b := by
  unfold atomsD at h
  rw [Bool.or_eq_true] at h
  rcases h with h | h
  · exact ⟨true, fun x m => of_decide_eq_true (List.all_eq_true.mp h x m)⟩
  · exact ⟨false, fun x m => of_decide_eq_true (List.all_eq_true.mp h x m)⟩
theorem shD_at {x : D} {b : Bool} (h : atK x = some b) : shD x = some [true, b] := by
  rcases atK_some h with ⟨i, rfl, rfl⟩ | ⟨s, rfl, rfl⟩ <;> rfl
theorem homD_of {l : List Bool} : ∀ {xs : List D}, (∀ x ∈ xs, shD x = some l) → homD xs = true
  | [], _ => rfl
  | x :: xs, h => by
    simp only [homD, h x List.mem_cons_self]
    exact List.all_eq_true.mpr fun y m => decide_eq_true (h y (List.mem_cons_of_mem _ m))
section nub
variable {b : Bool}
theorem eqA_iff {x y : D} (hx : atK x = some b) (hy : atK y = some b) : eqA x y = true ↔ x = y := by
  obtain ⟨_, h2, h3⟩ := ltA_key hx hy
  exact ⟨fun e => h3 (h2.mp e), fun e => h2.mpr (by rw [e])⟩
theorem nubD_mem : ∀ {xs : List D}, (∀ x ∈ xs, atK x = some b) → ∀ y, y ∈ nubD xs ↔ y ∈ xs
  | [], _, y => Iff.rfl
  | x :: xs, h, y => by
    have hx := h x List.mem_cons_self
    have ih := nubD_mem (xs := xs) (fun z m => h z (List.mem_cons_of_mem _ m)) y
    unfold nubD
    by_cases c : xs.any (eqA x) = true
    · rw [if_pos c, ih, List.mem_cons]
      obtain ⟨z, mz, ez⟩ := List.any_eq_true.mp c
      have e := (eqA_iff hx (h z (List.mem_cons_of_mem _ mz))).mp ez
      exact ⟨.inr, fun q => q.elim (fun q => by rw [q, e]; exact mz) id⟩
    · rw [if_neg c, List.mem_cons, List.mem_cons, ih]
theorem nubD_nodup : ∀ {xs : List D}, (∀ x ∈ xs, atK x = some b) → (nubD xs).Nodup
  | [], _ => List.nodup_nil
  | x :: xs, h => by
    have h' : ∀ z ∈ xs, atK z = some b := fun z m => h z (List.mem_cons_of_mem _ m)
    unfold nubD
    by_cases c : xs.any (eqA x) = true
    · rw [if_pos c]
      exact nubD_nodup h'
    · rw [if_neg c]
      refine List.nodup_cons.mpr ⟨fun m => c ?_, nubD_nodup h'⟩
      have m' := (nubD_mem h' x).mp m
      exact List.any_eq_true.mpr ⟨x, m', (eqA_iff (h x List.mem_cons_self) (h' x m')).mpr rfl⟩
end nub
theorem perm_of {α : Type} : ∀ {l m : List α}, l.Nodup → m.Nodup → (∀ x, x ∈ l ↔ x ∈ m) → l.Perm m
  | [], m, _, _, h => by
    cases m with
    | nil => exact .refl _
    | cons y m => exact absurd ((h y).mpr List.mem_cons_self) (by simp)
  | x :: l, m, nl, nm, h => by
    obtain ⟨n1, n2⟩ := List.nodup_cons.mp nl
    obtain ⟨a, c, e⟩ := List.append_of_mem ((h x).mp List.mem_cons_self)
    subst e
    have p : (a ++ x :: c).Perm (x :: (a ++ c)) := List.perm_middle
    have nm' := p.nodup_iff.mp nm
    obtain ⟨m1, m2⟩ := List.nodup_cons.mp nm'
    refine ((perm_of n2 m2 fun y => ?_).cons x).trans p.symm
    have hy := h y
    rw [p.mem_iff, List.mem_cons, List.mem_cons] at hy
    refine ⟨fun q => ?_, fun q => ?_⟩
    · rcases hy.mp (.inr q) with e | e
      · exact absurd (e ▸ q) n1
      · exact e
    · rcases hy.mpr (.inr q) with e | e
      · exact absurd (e ▸ q) m1
      · exact e
section
variable {X : Cx}
/-- the set at p, of these keys -/
def SetO (w : World) (p : Addr) (ks : List Key) : HO := .ext fun h => SetM w h p ks ks.length
def rSetOf (X : Cx) : List V → Hp → VK → Prop := fun xs H Q => ∃ (a : Addr) (ks : List Key), xs = [V.ref a] ∧ (SqL X.K H a (ks.map kV) ∨ SqT X.K H a (ks.map kV)) ∧ ks.length ≤ 1000 ∧ ∀ p, H p = none → Q (.ref p) (upd H p (SetO X.w p ks))
theorem keys_at : ∀ {ks : List Key} {us : List Value}, Vals (ks.map kV) us → ∀ (i : Nat) (v : Value), us[i]? = some v → ∃ k, ks[i]? = some k ∧ keyIs k v = true
  | [], _, r, i, v, e => by
    cases r
    simp at e
  | k :: ks, _, r, i, v, e => by
    cases r with
    | cons r rs =>
      cases i with
      | zero =>
        cases e
        refine ⟨k, rfl, ?_⟩
        cases k with
        | inl j =>
          obtain ⟨t, rfl⟩ := r
          exact keyIs_int j t
        | inr x =>
          obtain ⟨t, rfl⟩ := r
          exact keyIs_str x t
      | succ i => exact keys_at rs i v e
theorem call_setOf (hc : X.calm = true) : CallR X (.type "set") (rSetOf X) := by
  rintro pins s σ H xs us Q I rs ⟨a, ks, rfl, h, hl, q⟩
  obtain rfl : us = [Value.ref a] := Vals.ref1 rs
  have hb : ks.length + 1 < scanBound := by
    unfold scanBound
    omega
  have fin : ∀ (h' : Heap) (tk : Nat), SetM X.w h' s.heap.objs.size ks ks.length → (∀ b o, s.heap.get? b = some o → h'.get? b = some o) → EP X pins σ Q (.ref s.heap.objs.size) { s with heap := h', toks := tk } := fun h' tk M kp => by
    have ⟨o, _, _, _, ho, _⟩ := M
    exact ⟨.ref _, upd H s.heap.objs.size (SetO X.w s.heap.objs.size ks), I.laid (t' := tk) kp (Nat.le_refl _) ⟨M, ⟨o, ho⟩, fun h1 h2 p k => SetM.at p k⟩, rfl, q _ (I.hok.fresh (Nat.le_refl _))⟩
  rcases h with h | h
  · obtain ⟨its, r', pl, hz⟩ := I.list h
    exact call_set_list ks (I.ok.hd hc) pl.isList (by rw [List.size_toArray, ← r'.length, List.length_map]) (fun i v e => keys_at r' i v (by rw [List.getElem?_toArray] at e; exact e)) hb fin
  · obtain ⟨its, r', pl, hz⟩ := I.tuple h
    exact call_set_tuple ks (I.ok.hd hc) pl (by rw [List.size_toArray, ← r'.length, List.length_map]) (fun i v e => keys_at r' i v (by rw [List.getElem?_toArray] at e; exact e)) hb fin
/-- sorted of such a set -/
def rSortS (X : Cx) (T : LT) : List V → Hp → VK → Prop := fun xs H Q => ∃ (p : Addr) (ds : List D) (b : Bool) (F : FS) (G : DG), xs = [V.ref p] ∧ H p = some (SetO X.w p (ds.map keyA)) ∧ RelG X.K T F G H ∧ (∀ d ∈ ds, atK d = some b) ∧ ds.length ≤ 1000 ∧
  ∀ F' v H', Step F G H F' G H' → RelG X.K T F' G H' → RelD X.K F' H' (.lst (sortD (nubD ds))) v → Q v H'
theorem keyA_inj {x y : D} {b : Bool} (hx : atK x = some b) (hy : atK y = some b) (e : keyA x = keyA y) : x = y := (ltA_key hx hy).2.2 e
theorem choose_ds {ds : List D} : ∀ {us : List Value}, (∀ u ∈ us, keyIs (kOf u) u = true ∧ kOf u ∈ ds.map keyA) → ∃ es : List D, (∀ e ∈ es, e ∈ ds) ∧ es.map keyA = us.map kOf
  | [], _ => ⟨[], fun e m => (by cases m), rfl⟩
  | u :: us, h => by
    obtain ⟨es, h1, h2⟩ := choose_ds fun v m => h v (List.mem_cons_of_mem _ m)
    obtain ⟨d, md, ed⟩ := List.mem_map.mp (h u List.mem_cons_self).2
    refine ⟨d :: es, fun e m => ?_, by rw [List.map_cons, List.map_cons, h2, ed]⟩
    rcases List.mem_cons.mp m with m | m
    · rw [m]
      exact md
    · exact h1 e m
theorem rel_atoms {K : PySem.W.Frag} {F : FS} {H : Hp} {b : Bool} : ∀ {es : List D}, (∀ e ∈ es, atK e = some b) → RelDs K F H es (es.map fun e => kV (keyA e))
  | [], _ => rfl
  | e :: es, h => by
    refine ⟨_, _, rfl, ?_, rel_atoms fun x m => h x (List.mem_cons_of_mem _ m)⟩
    rcases atK_some (h e List.mem_cons_self) with ⟨i, rfl, _⟩ | ⟨s, rfl, _⟩ <;> rfl
theorem call_sortS (hc : X.calm = true) : CallR X (.builtin "sorted") (rSortS X T) := by
  rintro pins s σ H xs us Q I rs ⟨p, ds, b, F, G, rfl, hp, hg, hb, hl, q⟩
  obtain rfl : us = [Value.ref p] := Vals.ref1 rs
  have hd : X.A.in1.handled = none := by simp [I.ok.hd hc]
  obtain ⟨M, _, _⟩ := I.hok p _ hp
  obtain ⟨o, es, ep, t, ho, hex, hdt, g, nd, hm, hs, hn, hf, hr, hl2⟩ := M
  have hsz : es.size < scanBound := Nat.lt_of_le_of_lt hs hn
  refine sortedV (collect_set hd ⟨o, ho, hex.1, hdt⟩ hf hsz hr hl2 fun s' out kp _ hgn hos pm => ?_)
  have I1 : Inv X pins σ H s' := I.call' (ch := []) hos (Un.kept kp) (I.hok.kept kp) (by rw [hgn]; exact I.bare) (fun _ z => nomatch z)
  have ok : ∀ u ∈ out, keyIs (kOf u) u = true ∧ kOf u ∈ ds.map keyA := fun u m => by
    obtain ⟨e, me, rfl⟩ := List.mem_map.mp (pm.mem_iff.mp m)
    exact ⟨(g e me).1, (hm _).mpr (List.mem_map.mpr ⟨e, me, rfl⟩)⟩
  obtain ⟨cs, c1, c2⟩ := choose_ds ok
  have ca : ∀ c ∈ cs, atK c = some b := fun c m => hb c (c1 c m)
  have pk : (out.map kOf).Perm (es.toList.map kE) := by
    have z := pm.map kOf
    rw [List.map_map] at z
    exact z
  have cn : cs.Nodup := by
    have z := pk.nodup_iff.mpr nd
    rw [← c2] at z
    exact (List.pairwise_map.mp z).imp fun n e => n (by rw [e])
  have cp : cs.Perm (nubD ds) := perm_of cn (nubD_nodup hb) fun x => by
    rw [nubD_mem hb x]
    refine ⟨c1 x, fun m => ?_⟩
    have z : keyA x ∈ cs.map keyA := by
      rw [c2, pk.mem_iff, ← hm]
      exact List.mem_map.mpr ⟨x, m, rfl⟩
    obtain ⟨y, my, ey⟩ := List.mem_map.mp z
    rw [← keyA_inj (ca y my) (hb x m) ey]
    exact my
  have csh : ∀ c ∈ cs, shD c = some [true, b] := fun c m => shD_at (ca c m)
  have nsh : ∀ c ∈ nubD ds, shD c = some [true, b] := fun c m => csh c (cp.mem_iff.mpr m)
  have eq : sortD cs = sortD (nubD ds) := rise_eq (((sortD_perm cs).trans cp).trans (sortD_perm _).symm) (fun x m => csh x ((sortD_perm cs).mem_iff.mp m)) (sortD_rise csh) (sortD_rise nsh)
  have vals : Vals (cs.map fun e => kV (keyA e)) out := by
    have z := vals_keys (ks := out.map kOf) (us := out) (by rw [List.length_map]) fun i k e => by
      rw [List.getElem?_map] at e
      obtain ⟨u, e1, e2⟩ := Option.map_eq_some_iff.mp e
      rw [← e2]
      exact ⟨u, e1, (ok u (List.mem_of_getElem? e1)).1⟩
    rw [← c2, List.map_map] at z
    exact z
  refine rdy_of (s := s) hg I1 (rel_atoms ca) vals ?_ (homD_of csh) fun F' v H' s2 g2 r2 => q F' v H' s2 g2 (by rw [← eq]; exact r2)
  have e1 : (cs.map fun e => kV (keyA e)).length = out.length := by
    have z := congrArg List.length c2
    rw [List.length_map, List.length_map] at z
    rw [List.length_map]
    exact z
  rw [e1, pm.length_eq, List.length_map, Array.length_toList]
  exact fits_of_scanBound hsz
theorem relDs_atoms {K : PySem.W.Frag} {F : FS} {H : Hp} {b : Bool} : ∀ {ds : List D} {vs : List V}, (∀ d ∈ ds, atK d = some b) → RelDs K F H ds vs → vs = (ds.map keyA).map kV
  | [], _, _, h => h
  | d :: ds, _, a, ⟨v, vs, rfl, r, rs⟩ => by
    rw [relDs_atoms (fun x m => a x (List.mem_cons_of_mem _ m)) rs, List.map_cons, List.map_cons]
    rcases atK_some (a d List.mem_cons_self) with ⟨i, rfl, _⟩ | ⟨s, rfl, _⟩ <;> rw [show v = _ from r] <;> rfl
/-- sorted(set(e)) -/
theorem q_sortedSet {W : WX} {e : Expr} {te : DTE} {p p2 pos pos2 : Pos} (hc : X.calm = true) (hg : Gl X "sorted") (hm : X.mg "sorted" = none) (hg2 : Gl X "set") (hm2 : X.mg "set" = none) (he : QE X T W e te)
    (hs1 : starEach [e] X.env = [(false, eval e X.env)] := by rfl) (hs2 : starEach [.Call (.Name "set" p2) [e] [] pos2] X.env = [(false, eval (.Call (.Name "set" p2) [e] [] pos2) X.env)] := by rfl) :
    QE X T W (.Call (.Name "sorted" p) [.Call (.Name "set" p2) [e] [] pos2] [] pos) (dB pySortedSet (dCons te dNil)) :=
  PE.imp (pe_callB (call_sortS (T := T) hc) hg hm PyProof.Rows.boot_sorted (pa_cons (pe_callTy (call_setOf hc) hg2 hm2 PyProof.Rows.boot_set (pa_cons he pa_nil hs1) (he := hs1)) pa_nil hs2) (he := hs2)) fun σ H Q ⟨env, F, G, E, P, hg, hs, hx, ht, hq⟩ =>
    ⟨env, F, G, E, _, hg, hs, hx, ht, fun x F1 G1 v1 H1 h1 s1 g1 r1 => by
      obtain ⟨z, ez, pz⟩ := h1
      simp only [pySortedSet] at ez
      cases e1 : asQ G1 x with
      | none =>
        rw [e1] at ez
        cases ez
      | some ds =>
        rw [e1] at ez
        dsimp only at ez
        by_cases c : atomsD ds = true ∧ ds.length ≤ 1000
        · rw [if_pos c] at ez
          cases ez
          obtain ⟨b, hb⟩ := atomsD_of c.1
          obtain ⟨a, vs, rfl, h, k⟩ := asQ_ok g1 r1 e1
          have ev := relDs_atoms hb k
          subst ev
          refine ⟨a, ds.map keyA, rfl, h, by rw [List.length_map]; exact c.2, fun p hp => ?_⟩
          have s2 : Step F1 G1 H1 F1 G1 (upd H1 p (SetO X.w p (ds.map keyA))) := Step.priv hp
          exact ⟨p, ds, b, F1, G1, rfl, upd_same, g1.priv hp, hb, c.2, fun F' v H' s3 g3 r3 => hq _ F' G1 v H' pz (s1.trans (s2.trans s3)) g3 r3⟩
        · rw [if_neg c] at ez
          cases ez⟩
end
end DL

namespace DL
open PySem PySem.Spec PyProof.Rows L2
variable {T : LT}
/-! ### methods of built-in types -/
abbrev DMF := DG → D → List D → Option (D × DG)
def tyL : Option DO → Option String
  | some (.lst _) => some "list"
  | some (.dct _) => some "dict"
  | _ => none
def tyM (G : DG) : D → Option String
  | .str _ => some "str"
  | .lst _ => some "list"
  | .ref a => tyL (G a)
  | _ => none
def dMt (ty : String) (f : DMF) (to : DTE) (ta : DTA) : DTE := fun E env G Q => to E env G fun x G1 => tyM G1 x = some ty ∧ ta E env G1 fun xs G2 => ∃ z G3, f G2 x xs = some (z, G3) ∧ Q z G3
def rDM (K : PySem.W.Frag) (T : LT) (f : DMF) : V → List V → Hp → VK → Prop := fun x xs H Q => ∃ F G d ds z G', RelG K T F G H ∧ RelD K F H d x ∧ RelDs K F H ds xs ∧ f G d ds = some (z, G') ∧
  ∀ F' v H', Step F G H F' G' H' → RelG K T F' G' H' → RelD K F' H' z v → Q v H'
theorem tyM_ok {K : PySem.W.Frag} {F : FS} {G : DG} {H : Hp} {d : D} {v : V} {t : String} (hg : RelG K T F G H) (r : RelD K F H d v) (e : tyM G d = some t) : tyV K t v H := by
  cases d with
  | str b => cases e; rw [show v = _ from r]; exact rfl
  | lst b =>
    cases e
    obtain ⟨a, vs, rfl, h, _⟩ := r
    exact .inl ⟨rfl, vs, .inl h.1.rd⟩
  | ref a =>
    rw [show v = _ from r]
    have e : tyL (G a) = some t := e
    cases q : G a with
    | none => rw [q] at e; cases e
    | some o =>
      rw [q] at e
      cases o with
      | lst xs =>
        cases e
        obtain ⟨vs, h, _⟩ := hg.ob a _ q
        exact .inl ⟨rfl, vs, .inl (.inl h)⟩
      | dct xs =>
        cases e
        obtain ⟨vs, h, _⟩ := hg.ob a _ q
        exact .inr (.inr (.inl ⟨rfl, .inl ⟨vs, h⟩⟩))
      | lck xs u => cases e
      | xdo x v => cases e
      | exn c x => cases e
      | ins c fs => cases e
  | _ => cases e
section
variable {X : Cx} {W : WX} {o e : Expr} {es : List Expr} {to : DTE} {ta : DTA} {name : Str} {apos cpos : Pos} {ty id : String} {f : DMF}
theorem q_mt (pa : PlainAttrs ty) (slot : Slot ty name id) (hty : typeOf (.builtin id) = pure (.type "method_descriptor")) (hm : MtR X id (rDM X.K T f)) (ho : QE X T W o to) (ha : QA X T W (e :: es) ta)
    (hbase : attributeBase o name X.env (eval o X.env) = eval o X.env := by rfl)
    (hfew : ((backTo cpos (starEach (e :: es) X.env)).all (fun x => !x.1) && (backToKw cpos (keywordEach [] X.env)).all (fun x => x.1.isSome) && decide ((e :: es).length + ([] : List Keyword).length + (if ([] : List Keyword).isEmpty then 0 else 1) < 30)) = true := by rfl)
    (hline : (apos.endLine == cpos.line) = true := by rfl) (hs : starEach (e :: es) X.env = (false, eval e X.env) :: starEach es X.env := by rfl) (hplain : (backTo cpos (starEach es X.env)).any (·.1) = false := by rfl) :
    QE X T W (.Call (.Attribute o name apos) (e :: es) [] cpos) (dMt ty f to ta) :=
  PE.imp (pe_bm pa slot hty hm ho ha hbase hfew hline hs hplain) fun σ H Q ⟨env, F, G, E, P, hg, hs, hx, ht, hq⟩ => ⟨env, F, G, E, _, hg, hs, hx, ht, fun x F1 G1 v1 H1 ⟨et, p1⟩ s1 g1 r1 =>
    ⟨tyM_ok g1 r1 et, env, F1, G1, E, _, g1, hs.step s1, hx.step s1, p1, fun xs F2 G2 vs H2 ⟨z, G3, ef, p⟩ s2 g2 r2 =>
      ⟨F2, G2, x, xs, z, G3, g2, RelD.step s2 x r1, r2, ef, fun F' v H' s3 g3 r3 => hq z F' G3 v H' p (s1.trans (s2.trans s3)) g3 r3⟩⟩⟩
end
/-! lists -/
def mAppend : DMF := fun G x xs => match x, xs with
  | .ref a, [y] => match lstO (G a) with
    | some ys => if ys.length < 16000000 then some (.non, gset G a (some (.lst (ys ++ [y])))) else none
    | none => none
  | _, _ => none
def idxF (y : D) : List D → Option Nat
  | [] => none
  | z :: zs => if eqF z y = true then some 0 else (idxF y zs).map (· + 1)
def mIndex : DMF := fun G x xs => match xs with
  | [y] => match asL G x with
    | some zs => if flatD y && zs.all flatD then (idxF y zs).map fun j => (.int (j : Nat), G) else none
    | none => none
  | _ => none
theorem idxF_at {y : D} : ∀ {zs : List D} {j : Nat}, idxF y zs = some j → ∃ z, zs[j]? = some z ∧ eqF z y = true ∧ ∀ m z', m < j → zs[m]? = some z' → eqF z' y = false
  | [], j, h => by cases h
  | z :: zs, j, h => by
    unfold idxF at h
    split at h
    · cases h
      rename_i hz
      exact ⟨z, rfl, hz, fun m z' hm => by omega⟩
    · rename_i hz
      obtain ⟨k, ek, rfl⟩ := Option.map_eq_some_iff.mp h
      obtain ⟨w, h1, h2, h3⟩ := idxF_at ek
      refine ⟨w, h1, h2, fun m z' hm e => ?_⟩
      cases m with
      | zero =>
        simp only [List.getElem?_cons_zero, Option.some.injEq] at e
        subst e
        simpa using hz
      | succ m =>
        simp only [List.getElem?_cons_succ] at e
        exact h3 m z' (by omega) e
theorem RelDs.back {K : PySem.W.Frag} {F : FS} {H : Hp} {ds : List D} {vs : List V} (r : RelDs K F H ds vs) {j : Nat} {v : V} (e : vs[j]? = some v) : ∃ d, ds[j]? = some d ∧ RelD K F H d v := by
  have hl := r.length
  have hj : j < ds.length := by
    have := (List.getElem?_eq_some_iff.mp e).1
    omega
  obtain ⟨v', e', r'⟩ := r.get (List.getElem?_eq_getElem hj)
  rw [e] at e'
  cases e'
  exact ⟨_, List.getElem?_eq_getElem hj, r'⟩
section
variable {X : Cx}
theorem mt_mAppend : MtR X "list.append" (rDM X.K T mAppend) := by
  rintro pins s σ H x xs v us Q I rx rs ⟨F, G, d, ds, z, G', hg, r1, r2, e, q⟩
  unfold mAppend at e
  split at e
  · rename_i a y
    split at e
    · rename_i ys ey
      split at e
      · rename_i hl
        cases e
        have hq := lstO_eq ey
        obtain ⟨vs, h, k⟩ := hg.ob a _ hq
        obtain ⟨w, rfl, rw'⟩ := r2.one
        have hs : H a = none ∨ G a ≠ none := .inr (by rw [hq]; simp)
        refine mt_append pins s σ H x _ v us Q I rx rs ⟨a, vs, w, r1, rfl, h, by rw [← k.length]; exact Nat.lt_of_lt_of_le hl (by decide), ?_⟩
        have st : Step F G H F (gset G a (some (.lst (ys ++ [y])))) (upd H a (.lst (vs ++ [w]))) := Step.set hg hs
        exact q F _ _ st (hg.set hs ⟨_, rfl, RelDs.step st _ (k.append ⟨w, [], rfl, rw', rfl⟩)⟩) rfl
      · cases e
    · cases e
  · cases e
theorem mt_mIndex : MtR X "list.index" (rDM X.K T mIndex) := by
  rintro pins s σ H x xs v us Q I rx rs ⟨F, G, d, ds, z, G', hg, r1, r2, e, q⟩
  unfold mIndex at e
  split at e
  · rename_i y
    split at e
    · rename_i zs ez
      split at e
      · rename_i hf
        obtain ⟨j, ej, e⟩ := Option.map_eq_some_iff.mp e
        cases e
        rw [Bool.and_eq_true] at hf
        obtain ⟨a, vs, ea, h, k⟩ := asL_ok hg r1 ez
        obtain ⟨u, rfl, ru⟩ := r2.one
        obtain ⟨w, h1, h2, h3⟩ := idxF_at ej
        obtain ⟨wv, ew, rw'⟩ := k.get h1
        have fl : ∀ {m : Nat} {d : D}, zs[m]? = some d → flatD d = true := fun e => List.all_eq_true.mp hf.2 _ (List.mem_of_getElem? e)
        refine mt_index pins s σ H x _ v us Q I rx rs ⟨a, vs, u, j, wv, ea, rfl, .inl h, flat_rel hf.1 ru, flats_rel k hf.2, ew, by rw [eqF_rel (fl h1) hf.1 rw' ru]; exact h2, fun m z' hm em => ?_, q F _ H Step.refl hg rfl⟩
        obtain ⟨d', ed, rd'⟩ := k.back em
        rw [eqF_rel (fl ed) hf.1 rd' ru]
        exact h3 m d' hm ed
      · cases e
    · cases e
  · cases e
variable {W : WX} {o e : Expr} {to : DTE} {ta : DTA} {apos cpos : Pos}
end
end DL

namespace DL
open PySem PySem.Spec PyProof.Rows L2
variable {T : LT}
/-! ### names of the module -/
section
variable {X : Cx} {W : WX} {pos : Pos}
theorem q_gint {x : Str} {i : Int} (hg : Gl X x) (h : ∃ t, X.mg x = some (.int i t)) (hd : (x == ("__debug__" : Str)) = false := by decide) : QE X T W (.Name x pos) (dC (.int i)) := by
  obtain ⟨t, h⟩ := h
  exact q_con (pe_glob hg h (v := .int i) ⟨t, rfl⟩ hd) fun _ _ => rfl
theorem q_gstr {x : Str} {z : String} (hg : Gl X x) (h : ∃ t, X.mg x = some (.str (Str.ofString z) t)) (hd : (x == ("__debug__" : Str)) = false := by decide) : QE X T W (.Name x pos) (dC (.str z)) := by
  obtain ⟨t, h⟩ := h
  exact q_con (pe_glob hg h (v := .str (S z)) ⟨t, rfl⟩ hd) fun _ _ => rfl
end
/-! ### a written table with text keys -/
def kIn (tab : List (String × D)) (_ : DG) : D → Option D
  | .str z => some (.bl (tab.lookup z).isSome)
  | _ => none
section
variable {X : Cx} {W : WX} {x : String} {tab : List (String × D)} {e : Expr} {te : DTE} {p pos apos : Pos}
end
end DL

namespace DL
open PySem PySem.Spec PyProof.Rows L2
variable {T : LT}
/-! ### stores -/
def setAt (G : DG) (o i x : D) : Option DG := match o with
  | .ref a => match G a with
    | some (.lst xs) => match i with
      | .int k => (ixN xs.length k).map fun j => gset G a (some (.lst (xs.set j x)))
      | _ => none
    | some (.dct kvs) => match keyOf i with
      | some _ => if kvs.length < 1000000 then some (gset G a (some (.dct (dput kvs i x)))) else none
      | none => none
    | _ => none
  | _ => none
def sSub (te to ti : DTE) : DTS := fun E DE env G => te E env G fun x G1 => to E env G1 fun o G2 => ti E env G2 fun i G3 => ∃ G4, setAt G3 o i x = some G4 ∧ DE.nx env G4
def sPar (is : List Nat) (ta : DTA) : DTS := fun E DE env G => ta E env G fun xs G1 => xs.length = is.length ∧ DE.nx (setAll env is xs) G1
def sTg (tg : Tg) (te : DTE) : DTS := fun E DE env G => te E env G fun x G1 => dTg tg x env fun env' => DE.nx env' G1
theorem RelDs.set {K : PySem.W.Frag} {F : FS} {H : Hp} : ∀ {ds : List D} {vs : List V} {j : Nat} {d : D} {v : V}, RelDs K F H ds vs → RelD K F H d v → RelDs K F H (ds.set j d) (vs.set j v)
  | [], vs, j, d, v, h, _ => by
    have e : vs = [] := h
    subst e
    exact h
  | x :: xs, _, 0, d, v, ⟨w, r, rfl, h, t⟩, hd => ⟨v, r, rfl, hd, t⟩
  | x :: xs, _, j + 1, d, v, ⟨w, r, rfl, h, t⟩, hd => ⟨w, _, rfl, h, RelDs.set t hd⟩
section
variable {X : Cx} {W : WX} {pos : Pos}
def rSetA (K : PySem.W.Frag) (T : LT) : TSet := fun o i v H Q => ∃ F G do_ di dx G', RelG K T F G H ∧ RelD K F H do_ o ∧ RelD K F H di i ∧ RelD K F H dx v ∧ setAt G do_ di dx = some G' ∧ ∀ F' H', Step F G H F' G' H' → RelG K T F' G' H' → Q H'
theorem set_A (hu : X.A.units + 1 < cLine) : PSet X (rSetA X.K T) := by
  rintro pins s σ H o i v ov iv u Q I ro ri rv ⟨F, G, do_, di, dx, G', hg, r1, r2, r3, e, q⟩
  unfold setAt at e
  split at e
  · rename_i a
    split at e
    · rename_i xs ga
      split at e
      rotate_left
      · cases e
      rename_i k
      obtain ⟨j, ej, rfl⟩ := Option.map_eq_some_iff.mp e
      obtain ⟨vs, h, kk⟩ := hg.ob a _ ga
      have hs : H a = none ∨ G a ≠ none := .inr (by rw [ga]; simp)
      have st : Step F G H F (gset G a (some (.lst (xs.set j dx)))) (upd H a (.lst (vs.set j v))) := Step.set hg hs
      exact set_list pins s σ H o i v ov iv u Q I ro ri rv ⟨a, vs, k, j, r1, r2, h, by rw [← kk.length]; exact ej, q F _ st (hg.set hs ⟨_, rfl, RelDs.step st _ (kk.set r3)⟩)⟩
    · rename_i kvs ga
      split at e
      · rename_i key ek
        split at e
        · rename_i hl
          cases e
          obtain ⟨ws, h, kk⟩ := hg.ob a _ ga
          have hs : H a = none ∨ G a ≠ none := .inr (by rw [ga]; simp)
          have st : Step F G H F (gset G a (some (.dct (dput kvs di dx)))) (upd H a (.dK (putK ws key v))) := Step.set hg hs
          refine set_dict hu pins s σ H o i v ov iv u Q I ro ri rv ⟨a, _, r1, ?_, q F _ st (hg.set hs ⟨_, rfl, RelKs.step st _ (RelKs.put ek r3 kk)⟩)⟩
          exact .inl ⟨ws, key, h, keyOf_rel ek r2, by rw [← kk.length]; exact Nat.lt_of_lt_of_le hl (by decide), rfl⟩
        · cases e
      · cases e
    · cases e
  · cases e
theorem qs_sub {o i e : Expr} {to ti te : DTE} {p' : Pos} (hu : X.A.units + 1 < cLine) (he : QE X T W e te) (ho : QE X T W o to) (hi : QE X T W i ti)
    (ha : ∀ v, assign (.Subscript o i p') X.env v = (do
      let ov ← holding [v] (eval o X.env)
      let iv ← holding [v, ov] (eval i X.env)
      standAt p'
      holding [v, ov, iv] (setItem ov iv v)
      release [v, ov, iv] []) := by intro _; rfl)
    (hs : swapsWithSole [.Subscript o i p'] e pos.line X.env = pure false := by rfl) (hw : swappedStores [.Subscript o i p'] e X.env = pure none := by rfl) (h1 : (assignEach [.Subscript o i p'] X.env).map (·.2) = [assign (.Subscript o i p') X.env] := by rfl) :
    QS X T W (.Assign [.Subscript o i p'] e pos) (sSub te to ti) :=
  PS.imp (ps_asg he (pg_sub ho hi (set_A hu) ha) hs hw h1) fun D σ H ⟨env, F, G, E, DE, hg, hs, hx, ht, hn, hr⟩ => ⟨env, F, G, E, _, hg, hs, hx, ht, fun x F1 G1 v1 H1 p1 s1 g1 r1 =>
    ⟨env, F1, G1, E, _, g1, hs.step s1, hx.step s1, p1, fun o F2 G2 v2 H2 p2 s2 g2 r2 => ⟨env, F2, G2, E, _, g2, hs.step (s1.trans s2), hx.step (s1.trans s2), p2, fun i F3 G3 v3 H3 ⟨G4, e, p3⟩ s3 g3 r3 =>
      ⟨F3, G3, o, i, x, G4, g3, RelD.step s3 o r2, r3, RelD.step (s2.trans s3) x r1, e, fun F' H' s4 g4 => hn env F' G4 σ H' p3 (s1.trans (s2.trans (s3.trans s4))) g4 (hs.step (s1.trans (s2.trans (s3.trans s4))))⟩⟩⟩⟩
/-- a, b = x, y -/
theorem qs_par {i j : Nat} {x y : Str} {a b : Expr} {ta : DTA} {px py pt : Pos} {kt k2 pt2} (hc : X.calm = true) (hN : X.N.Nodup) (hi : X.N[i]? = some x) (hj : X.N[j]? = some y) (hij : i ≠ j)
    (hx : X.env.scope.names.lookup x = some .local) (hy : X.env.scope.names.lookup y = some .local) (ha : QA X T W [a, b] ta)
    (hw : swappedStores [.Tuple [.Name x px, .Name y py] kt pt] (.Tuple [a, b] k2 pt2) X.env = pure (some [x, y]))
    (hs : swapsWithSole [.Tuple [.Name x px, .Name y py] kt pt] (.Tuple [a, b] k2 pt2) pos.line X.env = pure false := by rfl) :
    QS X T W (.Assign [.Tuple [.Name x px, .Name y py] kt pt] (.Tuple [a, b] k2 pt2) pos) (sPar [i, j] ta) :=
  PS.imp (ps_par hc hN hi hj hij hx hy ha hw hs) fun D σ H ⟨env, F, G, E, DE, hg, hs, hx, ht, hn, hr⟩ => ⟨env, F, G, E, _, hg, hs, hx, ht, fun ds F1 G1 vs H1 ⟨hl, p⟩ s1 g1 r1 => by
    obtain ⟨d1, d2, rfl⟩ : ∃ d1 d2, ds = [d1, d2] := by
      match ds, hl with
      | [d1, d2], _ => exact ⟨d1, d2, rfl⟩
    obtain ⟨v, u, rfl, rv, ru⟩ := r1.two
    exact ⟨v, u, rfl, hn _ F1 G1 _ H1 p s1 g1 (((hs.step s1).set rv).set ru)⟩⟩
/-- a name or several = a value -/
theorem qs_tg {tgE e : Expr} {te : DTE} {tg : Tg} (he : QE X T W e te) (hg : PG X tgE (vTg X.K tg)) (hs : swapsWithSole [tgE] e pos.line X.env = pure false := by rfl) (hw : swappedStores [tgE] e X.env = pure none := by rfl)
    (h1 : (assignEach [tgE] X.env).map (·.2) = [assign tgE X.env] := by rfl) : QS X T W (.Assign [tgE] e pos) (sTg tg te) :=
  PS.imp (ps_asg he hg hs hw h1) fun D σ H ⟨env, F, G, E, DE, hg, hs, hx, ht, hn, hr⟩ => ⟨env, F, G, E, _, hg, hs, hx, ht, fun x F1 G1 v1 H1 p1 s1 g1 r1 =>
    tg_run (hs.step s1) r1 p1 fun env' σ' p r' _ => hn env' F1 G1 σ' H1 p s1 g1 r'⟩
/-! first, *rest = a list -/
/-! while -/
end
end DL

namespace DL
open PySem PySem.Spec PyProof.Rows L2 TL
variable {T : LT}
/-! ### texts -/
def joinC (sep : List Char) : List (List Char) → List Char
  | [] => []
  | [x] => x
  | x :: y :: r => x ++ sep ++ joinC sep (y :: r)
def joinS (sep : String) (xs : List String) : String := String.ofList (joinC sep.toList (xs.map String.toList))
theorem S_ofList (l : List Char) : TL.tl (S (String.ofList l)) = l.map Char.toNat := by
  rw [show TL.tl (S (String.ofList l)) = (S (String.ofList l)).cps.toList from rfl, S_cps]
  simp
theorem S_tl (s : String) : TL.tl (S s) = s.toList.map Char.toNat := S_cps s
theorem join_tl (sep : List Char) : ∀ xs : List (List Char), joinL (sep.map Char.toNat) (xs.map (List.map Char.toNat)) = (joinC sep xs).map Char.toNat
  | [] => rfl
  | [x] => rfl
  | x :: y :: r => by
    show x.map Char.toNat ++ (sep.map Char.toNat ++ joinL (sep.map Char.toNat) ((y :: r).map (List.map Char.toNat))) = (x ++ sep ++ joinC sep (y :: r)).map Char.toNat
    rw [join_tl sep (y :: r)]
    simp
theorem join_S (sep : String) (xs : List String) : Txt.join (S sep) (xs.map S) = S (joinS sep xs) := by
  apply ext_tl
  rw [join_eq, tl_join]
  unfold joinS
  rw [S_ofList, S_tl, ← join_tl, List.map_map, List.map_map]
  congr 1
  exact List.map_congr_left fun s _ => S_tl s
def mJoin : DMF := fun G x xs => match x, xs with
  | .str a, [d] => match asQ G d with
    | some ys => match allS ys with
      | some zs => if (zs.map String.length).sum + zs.length * a.length ≤ 16000000 then some (.str (joinS a zs), G) else none
      | none => none
    | none => none
  | _, _ => none
def pyIntS (G : DG) : List D → Option D
  | [.str s] => if s.length ≤ 640 then (PySem.intText? (S s)).map .int else none
  | xs => pyInt1 G xs
def pyStr (_ : DG) : List D → Option D
  | [.int i] => if i.natAbs < 2 ^ 1000 then some (.str (toString i)) else none
  | [.str s] => some (.str s)
  | _ => none
section
variable {X : Cx}
theorem mt_mJoin : MtR X "str.join" (rDM X.K T mJoin) := by
  rintro pins s σ H x xs v us Q I rx rs ⟨F, G, d, ds, z, G', hg, r1, r2, e, q⟩
  unfold mJoin at e
  split at e
  · rename_i a d
    split at e
    · rename_i ys ey
      split at e
      · rename_i zs ez
        split at e
        · rename_i hl
          cases e
          obtain ⟨w, rfl, rw'⟩ := r2.one
          obtain ⟨p, vs, rfl, h, k⟩ := asQ_ok hg rw' ey
          rw [allS_eq ez] at k
          have ev := k.strs
          rw [show (zs.map fun s => V.str (S s)) = (zs.map S).map V.str by rw [List.map_map]; rfl] at ev
          rw [ev] at h
          refine mt_join pins s σ H x _ v us Q I rx rs ⟨S a, p, zs.map S, r1, rfl, h, ?_, by rw [join_S]; exact q F _ H Step.refl hg rfl⟩
          rw [List.map_map, List.length_map, S_len]
          rw [show (fun x : Str => x.length) ∘ S = String.length from funext fun s => S_len s]
          exact Nat.le_trans hl (by decide)
        · cases e
      · cases e
    · cases e
  · cases e
theorem call_pyIntS : CallR X (.type "int") (rDB X.K T pyIntS) := by
  rintro pins s σ H xs us Q I rs ⟨F, G, ds, z, hg, r, e, q⟩
  unfold pyIntS at e
  split at e
  · rename_i t
    split at e
    · rename_i hl
      obtain ⟨n, en, rfl⟩ := Option.map_eq_some_iff.mp e
      obtain ⟨v, rfl, rv⟩ := r.one
      exact call_int_str pins s σ H _ us Q I rs ⟨S t, n, by rw [show v = _ from rv], en, by rw [S_len]; exact hl, q _ _ H Step.refl hg rfl⟩
    · cases e
  · exact call_pyInt1 (T := T) pins s σ H xs us Q I rs ⟨F, G, _, z, hg, r, e, q⟩
theorem call_pyStr : CallR X (.type "str") (rDB X.K T pyStr) := by
  rintro pins s σ H xs us Q I rs ⟨F, G, ds, z, hg, r, e, q⟩
  unfold pyStr at e
  split at e
  · split at e
    · rename_i hl
      cases e
      obtain ⟨v, rfl, rv⟩ := r.one
      refine call_str_int pins s σ H _ us Q I rs ⟨_, by rw [show v = _ from rv], ?_, q _ _ H Step.refl hg rfl⟩
      rename_i i
      by_cases h0 : i.natAbs = 0
      · rw [h0]; decide
      · have := (Nat.log2_lt h0).mpr hl
        omega
    · cases e
  · cases e
    obtain ⟨v, rfl, rv⟩ := r.one
    exact SkE.call_str_str pins s σ H _ us Q I rs ⟨_, by rw [show v = _ from rv], q _ _ H Step.refl hg rfl⟩
  · cases e
end
end DL

namespace DL
open PySem PySem.Spec PyProof.Rows L2 LamX HotX L2H
variable {T : LT}
/-! ### while an exception is handled: comprehensions over a list -/
abbrev QIQ (X : Cx) (T : LT) (W : WX) (tg e : Expr) (t : DTI) : Prop := PIQ X tg e (liftI X.K T W t)
def dIterL (te : DTE) : DTI := fun E env G Q => te E env G fun d G1 => ∃ xs, asL G1 d = some xs ∧ Q xs (fun G' => asL G' d = some xs) G1
section
variable {X : Cx} {W : WX} {elt tg iter e : Expr} {ifs : List Expr} {scope : Scope} {pos : Pos} {wi : DTI} {g : Tg} {tt : DTT} {te : DTE}
theorem qiq_it (he : QE X T W e te) : QIQ X T W tg e (dIterL te) := fun pins s σ H R I ⟨env, F, G, E, P, hg, hs, hx, ht, hq⟩ => by
  refine piq_list he pins s σ H R I ⟨env, F, G, E, _, hg, hs, hx, ht, fun d F1 G1 v1 H1 ⟨ds, ed, p⟩ s1 g1 r1 => ?_⟩
  obtain ⟨a, vs, rfl, h, k⟩ := asL_ok g1 r1 ed
  refine ⟨a, rfl, ⟨vs, .inl h⟩, hq ds _ F1 G1 H1 _ p s1 g1 fun i F2 G2 H2 s2 g2 gd => ?_⟩
  obtain ⟨a', vs2, ea, h2, k2⟩ := asL_ok g2 (RelD.step s2 d r1) gd
  cases ea
  constructor
  · intro d' e'
    obtain ⟨x, ex, rx⟩ := k2.get e'
    refine ⟨⟨vs2, x, .inl h2, ex⟩, ?_⟩
    rintro y H3 ⟨rfl, hy⟩
    have := hy vs2 (.inl h2)
    rw [ex] at this
    cases this
    exact ⟨F2, Step.refl, g2, rx⟩
  · intro e'
    exact ⟨vs2, .inl h2, by rw [e', k2.length]; exact Nat.le_refl _⟩
theorem q_lcQ (own : List (Str × Nat)) (hot : LN.HotC X) (hN : X.N.Nodup) (hi : QIQ X T W tg iter wi) (ok : BlkOk X.N X.env.scope scope own) (hv : tgIn g (own.map (·.2)) = true)
    (hg : ∀ (s : Shared) (H : Hp) (C : Addr) (cl : List (Str × Addr)) (fp : List Addr), PG (X.blk s H scope (compEnvC scope cl C X.env) fp) tg (vTg X.K g)) (ht : ∀ (s : Shared) (H : Hp) (C : Addr) (cl : List (Str × Addr)) (fp : List Addr), QTs (X.blk s H scope (compEnvC scope cl C X.env) fp) T WF ifs tt)
    (he : ∀ (s : Shared) (H : Hp) (C : Addr) (cl : List (Str × Addr)) (fp : List Addr), QE (X.blk s H scope (compEnvC scope cl C X.env) fp) T WF elt te) (hs : ∀ x, foldedSetIterable iter X.env x = pure x := by intro _; rfl) :
    QE X T W (.ListComp elt [⟨tg, iter, ifs, 0⟩] scope pos) (dLc wi g tt te (own.map (·.2))) := PE.imp (pe_lcQ hot hN hi ok hg ht he hs) fun σ H Q h => lc_lift hv h
end
/-! ### the refusals -/
structure ToldK (K : PySem.W.Frag) : Prop where
  exc : ∀ c ∈ refusals, ExcC K (He.ga K (S c))
  kit : ∀ c ∈ refusals, ∀ c' ∈ kinds13, PySem.W.kitOne K (.ref (He.ga K (S c))) (.ref (He.ga K (S c'))) = some (c == c')
  kitV : ∀ c ∈ refusals, PySem.W.kitOne K (.ref (He.ga K (S c))) (.type "ValueError") = some true
  exmT : ∀ c ∈ refusals, PySem.W.exmOne K (.ref (He.ga K (S c))) (.ref (He.ga K (S "TooMuch"))) = some false
  exmC : ∀ c ∈ refusals, PySem.W.exmOne K (.ref (He.ga K (S c))) (.ref (He.ga K (S "CageError"))) = some true
theorem excB_ok {K : PySem.W.Frag} {D : Addr} (h : excB K D = true) : ExcC K D := by
  unfold excB at h
  simp only [Bool.and_eq_true, decide_eq_true_eq] at h
  exact ⟨h.1, h.2.1, h.2.2.1, h.2.2.2.1, h.2.2.2.2.1, h.2.2.2.2.2.1, h.2.2.2.2.2.2.1, h.2.2.2.2.2.2.2⟩
theorem toldB_ok {K : PySem.W.Frag} (h : toldB K = true) : ToldK K := by
  unfold toldB at h
  rw [List.all_eq_true] at h
  have g := fun c hc => by
    have := h c hc
    simp only [Bool.and_eq_true, decide_eq_true_eq, List.all_eq_true] at this
    exact this
  exact ⟨fun c hc => excB_ok (g c hc).1, fun c hc c' hc' => (g c hc).2.1 c' hc', fun c hc => (g c hc).2.2.1, fun c hc => (g c hc).2.2.2.1, fun c hc => (g c hc).2.2.2.2⟩
/-! isinstance(e, C) of the handled exception at a -/
def dIsE (i : Nat) (a : Addr) (b : Bool) : DTE := fun _ env G Q => env[i]? = some (some (.ref a)) ∧ Q (.bl b) G
section
variable {X : Cx} {W : WX} {a D : Addr} {oe : Obj} {e : Str} {i : Nat} {p1 p2 p3 pos : Pos} {b : Bool}
theorem q_isE {x : Str} {cv : Value} {c : V} (C : ExcC X.K D) (hz : Zc (.ref D) none oe) (hf : ∃ vs, oe.data = .fields vs) (hp : (a, oe) ∈ X.pn) (hg : Gl X "isinstance") (hm : X.mg "isinstance" = none) (hN : X.N[i]? = some e) (hv : Vis X.env.scope e)
    (hc : PE X (.Name x p3) (tC c)) (hcv : ∀ u, RelV c u → u = cv) (hk : PySem.W.kitOne X.K (.ref D) cv = some b) (hd : (e == ("__debug__" : Str)) = false := by decide) (hcd : (e == ("__classdict__" : Str)) = false := by decide) :
    QE X T W (.Call (.Name "isinstance" p1) [.Name e p2, .Name x p3] [] pos) (dIsE i a b) :=
  PE.imp (pe_callB (call_isP C hz hf hp) hg hm PyProof.Rows.boot_isinstance (pa_cons (pe_var hN hv hd hcd) (pa_cons hc pa_nil))) fun σ H Q ⟨env, F, G, E, P, hg, hs, hx, ⟨ht, p⟩, hq⟩ => by
    obtain ⟨v, ev, rv⟩ := hs.get ht
    exact ⟨v, ev, c, cv, b, by rw [show v = V.ref a from rv], hcv, hk, hq _ F G _ H p Step.refl hg rfl⟩
end
end DL

namespace DL
open PySem PySem.Spec PyProof.Rows L2 LamX HotX L2H
variable {T : LT}
/-! ### told -/
/-- what the def term promises of the handled exception p -/
def spTerm (K : PySem.W.Frag) (T : LT) : SpT := fun p vs H Q => ∃ F G c, RelG K T F G H ∧ vs = [.ref p.1] ∧ Zc (.ref (He.ga K (S c))) none p.2 ∧ (∃ fs, p.2.data = .fields fs) ∧ c ∈ refusals ∧
  ∀ F' v H', Step F G H F' G H' → RelG K T F' G H' → RelD K F' H' (.tup [.str "refused", .str c]) v → Q v H'
structure DTerm (P : Program) (w : World) (K : PySem.W.Frag) (T : LT) (mg : Str → Option Value) (base : Heap) (k : Nat) : Prop where
  ok : ∃ fd, FnT P w K mg base k (He.ga K "_law_term") fd ["e"] (spTerm K T) ∧ L2.Binds K fd ["e"] []
  mg : mg "_law_term" = some (.ref (He.ga K "_law_term"))
  kp : PySem.W.keepIn K (.ref (He.ga K "_law_term")) = true
/-- the promise from the body's derivation, p held fast -/
theorem dterm_of {P : Program} {w : World} {K : PySem.W.Frag} {mg : Str → Option Value} {base : Heap} {k : Nat} {params : Arguments} {body : List Stmt} {scope : Scope} {fd : FuncData} {N : List Str} {t : Addr → String → DTS}
    (F : FunD K "_law_term" "_law_term" params body scope [] [] (He.ga K "_law_term") fd) (hmg : mg "_law_term" = some (.ref (He.ga K "_law_term"))) (Sc : FnScope N ["e"] scope)
    (hb : ∀ (kV doc pm : Value) (an : Option Addr) (cdv ct : Value) (us : List Value), us.length = 1 → bindArgs (PySem.W.fnOf "_law_term" "_law_term" params body scope .none kV doc pm an cdv ct) ⟨us, []⟩ = pure ((["e"] : List Str).zip us))
    (hbody : ∀ (cdv : Value) (A : Around) (outer : List Env) (s : Shared) (H : Hp) (p : Addr × Obj) (l : LN.Chain) (c : String), LN.HotL A p l → RoomH k (A.deeper (envOfC "_law_term" scope s.heap.objs.size (He.ga K "_law_term") cdv)) → Zc (.ref (He.ga K (S c))) none p.2 → (∃ fs, p.2.data = .fields fs) → c ∈ refusals →
      QSs (LN.cxL C8.CX0 P w K mg base N "_law_term" scope (He.ga K "_law_term") cdv A outer s H C8.E0 p l) T WF body (t p.1 c))
    (hsp : ∀ a c G (Q : DK), c ∈ refusals → Q (.tup [.str "refused", .str c]) G → t a c EF { nx := fun _ G' => Q .non G', rt := Q } (dstart N [.ref a]) G) : DTerm P w K T mg base (k + 1) := by
  refine ⟨⟨fd, fnT_of F Sc ?_ ?_, F.bindsN hb⟩, hmg, F.kp⟩
  · rintro p vs H Q ⟨F, G, c, _, rfl, _⟩
    rfl
  · rintro cdv A outer s H vs Q p l hot hr ⟨F, G, c, hg, rfl, hz, hf, hc, hq⟩
    refine ⟨_, hbody cdv A outer s H p l c hot hr hz hf hc, dstart N [.ref p.1], F, G, EF, { nx := fun _ G' => G' = G ∧ False, rt := fun d G' => d = .tup [.str "refused", .str c] ∧ G' = G }, hg, relSt_start ⟨_, _, rfl, rfl, rfl⟩, fun _ _ _ _ _ _ _ _ z => z.elim, ?_, fun _ _ _ _ _ z => z.2.elim, ?_⟩
    · exact hsp p.1 c G (fun d G' => d = .tup [.str "refused", .str c] ∧ G' = G) hc ⟨rfl, rfl⟩ |> fun h => by
        have e : (fun (_ : DSt) (G' : DG) => (fun (d : D) (G' : DG) => d = .tup [.str "refused", .str c] ∧ G' = G) .non G') = fun _ G' => G' = G ∧ False := by
          funext _ G'
          simp
        rw [e] at h
        exact h
    · rintro d F' G' v H' ⟨rfl, rfl⟩ st g r
      exact hq F' v H' st g r
def toldX (P : DK) : DXK := fun x _ G => ∃ c, x = (c, none) ∧ c ∈ refusals ∧ P (.tup [.str "refused", .str c]) G
def dTold (te : DTE) : DTE := fun _ env G Q => te (toldX Q) env G Q
/-- the tables' growth leaves the rest -/
theorem extN_step {F : FS} {G : DG} {H H1 : Hp} (e : ExtN H H1) (hg : ∀ a, F a → ∃ o, H a = some o ∧ isDat (strip o) = true) : Step F G H F G H1 := by
  refine ⟨fun a o f h => ⟨f, o, e a o h fun ps z => ?_, .inl rfl⟩, fun a o f g h pl => ⟨f, g, e a o h fun ps z => ?_⟩⟩
  · obtain ⟨o', h', d⟩ := hg a f
    rw [h] at h'
    cases h'
    rw [z] at d
    cases d
  · rw [z] at pl
    cases pl
theorem extN_relG {K : PySem.W.Frag} {F : FS} {G : DG} {H H1 : Hp} (e : ExtN H H1) (t : Tabs T H1) (hg : RelG K T F G H) : RelG K T F G H1 := by
  have st := extN_step (G := G) e fun a f => (hg.fz a f).2
  refine hg.to st (fun a f => .inl f) t fun a o ga => ?_
  obtain ⟨u, hu, pu⟩ := hg.obj ga
  rw [hu]
  exact e a u hu fun ps z => by rw [z] at pu; cases pu
/-- told's own reading -/
def TTold (K : PySem.W.Frag) (T : LT) : (XK → Hp → VK → Prop) → Hp → VK → Prop := fun tl H Q =>
  tl (fun cls d H' => ∃ F G c, c ∈ refusals ∧ cls = .ref (He.ga K (S c)) ∧ d = none ∧ RelG K T F G H' ∧ ∀ F' v H'', Step F G H' F' G H'' → RelG K T F' G H'' → RelD K F' H'' (.tup [.str "refused", .str c]) v → Q v H'') H Q
section
variable {X : Cx}
theorem told_gives {sg : Scope} {g : Addr} {cdg : Value} {q : Str} {k : Nat} {b1 : Stmt} {p1 p2 p3 p4 p5 p6 p7 p8 p9 p10 p11 : Pos} (tk : ToldK X.K) (FT : DTerm X.prog X.w X.K T X.mg X.base k)
    (hge : sg.names.lookup ("e" : Str) = some .local) (hgm : sg.names.lookup ("TooMuch" : Str) = some .globalImplicit) (hgc : sg.names.lookup ("CageError" : Str) = some .globalImplicit) (hgt : sg.names.lookup ("_law_term" : Str) = some .globalImplicit)
    (hmm : X.mg "TooMuch" = some (.ref (He.ga X.K (S "TooMuch")))) (hmc : X.mg "CageError" = some (.ref (He.ga X.K (S "CageError")))) :
    Gives X ["deed", "e"] "_law_told" sg g cdg [.Try [.Return (some (.Call (.Name "deed" p1) [] [] p2)) p3]
      [.ExceptHandler (some (.Name "TooMuch" p4)) (some "e") [b1] p5, .ExceptHandler (some (.Name "CageError" p6)) (some "e") [.Return (some (.Call (.Name "_law_term" p7) [.Name "e" p8] [] p9)) p10] p11] [] [] pos] "deed" q (TTold X.K T) k := by
  intro f c' s H Q tl hr act hc h
  obtain ⟨fd, F1, B⟩ := FT.ok
  have hn : (["deed", "e"] : List Str).Nodup := by decide
  refine ⟨_, pss_one (ps_tryN (X := (DefX X ["deed", "e"] "_law_told" sg g cdg s H).nox) (n := "e") (i := 1) (Wo := WF)
      (l := [(.ref (He.ga X.K (S "TooMuch")), fun _ _ _ _ _ _ => False), (.ref (He.ga X.K (S "CageError")), fun a cls d D σ H => (σ.length = 2 → σ[1]? = some (some (.ref a))) ∧ ∃ F G c, c ∈ refusals ∧ cls = .ref (He.ga X.K (S c)) ∧ d = none ∧ RelG X.K T F G H ∧
        ∀ F' v H', Step F G H F' G H' → RelG X.K T F' G H' → RelD X.K F' H' (.tup [.str "refused", .str c]) v → D.rt v H')])
      (tb := fun W D σ H => ∃ Ech : XK, (∀ cls d σ' H', Ech cls d H' → W cls d σ' H') ∧ σ[0]? = some (some (.ref f)) ∧ H c' = some (CodeO c' q) ∧ tl Ech H D.rt)
      rfl rfl hn rfl hge ?wo ?body (.cons ⟨hgm, by decide, .inl hmm⟩ ?s1 (.cons ⟨hgc, by decide, .inl hmc⟩ ?s2 .nil))), ?run⟩
  case wo =>
    rintro u s' ⟨_, _, _, _, _, _, _, _, _, _, _, _, _, _, _, _, _, _, z⟩
    exact z.elim
  case body =>
    intro W pn xe tk' _
    constructor
    rintro pins s' σ H' D I ⟨Ech, hW, h1, h2, h3⟩
    exact (pss_one (ps_ret (pos := p3) (act W pn xe Ech p1 p2 tk' hW))).run pins s' σ H' D I ⟨h1, h2, h3⟩
  case s1 =>
    intro a oe cls d l pn hz hf _ _
    exact ⟨fun pins s σ H D I z => z.elim⟩
  case s2 =>
    intro a oe cls d l pn hz hf hot hpn
    obtain ⟨fs, hfs⟩ := hf
    have hpn : ∀ q ∈ (a, oe) :: l, q ∈ (a, oe) :: pn := fun q hq => (List.mem_cons.mp hq).elim (fun z => z ▸ List.mem_cons_self) fun z => List.mem_cons_of_mem _ (hpn q z)
    have hr' : RoomH k ((DefX X ["deed", "e"] "_law_told" sg g cdg s H).nox.suite a ((a, oe) :: pn)).A := roomH_mark (hr.mono (Nat.le_succ k)) _
    have run := (pss_one (ps_ret (pos := p10) (pe_callT (q := p7) (pos := p9) (X := (DefX X ["deed", "e"] "_law_told" sg g cdg s H).nox.suite a ((a, oe) :: pn)) (p := (a, oe)) F1 hr' hot hpn hgt FT.mg FT.kp B (pa_cons (pe_var (pos := p8) (i := 1) (x := "e") rfl (Or.inl hge)) pa_nil))))
    constructor
    rintro pins s' σ H' D I ⟨hσ, F, G, c, hcr, rfl, rfl, hg, hq⟩
    exact run.run pins s' σ H' D I ⟨.ref a, hσ I.len, F, G, c, hg, rfl, hz, ⟨fs, hfs⟩, hcr, hq⟩
  case run =>
    refine ⟨_, fun cls d σ' H' hE => ?_, rfl, hc, h⟩
    obtain ⟨F, G, c, hcr, rfl, rfl, hg, hq⟩ := hE
    refine ⟨false, tk.exmT c hcr, fun z => (Bool.false_ne_true z).elim, fun _ => ⟨true, tk.exmC c hcr, fun _ a ha => ⟨fun hl => ?_, F, G, c, hcr, rfl, rfl, hg, hq⟩, fun z => (Bool.noConfusion z)⟩⟩
    rw [List.length_set] at hl
    exact List.getElem?_set_self (by omega)
/-- the tables of lambdas -/
structure LamT (X : Cx) (T : LT) : Prop where
  ex : ∃ c P, TabB X.base X.mg c P ∧ X.env.code = .ref c ∧ (P, X.env.qual ++ "<lambda>") ∈ T ∧ ∀ p ∈ T, p.1 = P → p.2 = X.env.qual ++ "<lambda>"
/-- told as the top has left it -/
structure DTold (P : Program) (w : World) (K : PySem.W.Frag) (T : LT) (mg : Str → Option Value) (base : Heap) (k : Nat) : Prop where
  mgt : mg "_law_told" = some (.ref (He.ga K "_law_told"))
  gv : ∀ X : Cx, X.prog = P → X.w = w → X.K = K → X.mg = mg → X.base = base → ∃ (pg : Arguments) (bg : List Stmt) (sg : Scope) (dV kV doc pm cdv ct oc : Value) (an od : Option Addr) (osl : Array (Option Value)),
    K.lookup (He.ga K "_law_told") = some ⟨oc, od, .func (PySem.W.fnOf "_law_told" "_law_told" pg bg sg dV kV doc pm an cdv ct), osl⟩ ∧ PySem.W.codeIn K cdv "_law_told" = true ∧ L2.Binds K (PySem.W.fnOf "_law_told" "_law_told" pg bg sg dV kV doc pm an cdv ct) ["deed"] [] ∧ FnScope ["deed", "e"] ["deed"] sg ∧ Vis sg "deed" ∧
      ∀ q, Gives X ["deed", "e"] "_law_told" sg (He.ga K "_law_told") cdv bg "deed" q (TTold K T) k
  kp : PySem.W.keepIn K (.ref (He.ga K "_law_told")) = true
theorem dtold_of {P : Program} {w : World} {K : PySem.W.Frag} {mg : Str → Option Value} {base : Heap} {k : Nat} {params : Arguments} {scope : Scope} {fd : FuncData} {b1 : Stmt} {p1 p2 p3 p4 p5 p6 p7 p8 p9 p10 p11 p12 : Pos}
    (F : FunD K "_law_told" "_law_told" params [.Try [.Return (some (.Call (.Name "deed" p1) [] [] p2)) p3]
      [.ExceptHandler (some (.Name "TooMuch" p4)) (some "e") [b1] p5, .ExceptHandler (some (.Name "CageError" p6)) (some "e") [.Return (some (.Call (.Name "_law_term" p7) [.Name "e" p8] [] p9)) p10] p11] [] [] p12] scope [] [] (He.ga K "_law_told") fd) (hmg : mg "_law_told" = some (.ref (He.ga K "_law_told"))) (Sc : FnScope ["deed", "e"] ["deed"] scope)
    (hb : ∀ (body : List Stmt) (kV doc pm : Value) (an : Option Addr) (cdv ct : Value) (us : List Value), us.length = 1 → bindArgs (PySem.W.fnOf "_law_told" "_law_told" params body scope .none kV doc pm an cdv ct) ⟨us, []⟩ = pure ((["deed"] : List Str).zip us))
    (tk : ToldK K) (FT : DTerm P w K T mg base k) (hvd : Vis scope "deed")
    (hge : scope.names.lookup ("e" : Str) = some .local) (hgm : scope.names.lookup ("TooMuch" : Str) = some .globalImplicit) (hgc : scope.names.lookup ("CageError" : Str) = some .globalImplicit) (hgt : scope.names.lookup ("_law_term" : Str) = some .globalImplicit)
    (hmm : mg "TooMuch" = some (.ref (He.ga K (S "TooMuch")))) (hmc : mg "CageError" = some (.ref (He.ga K (S "CageError")))) : DTold P w K T mg base k := by
  have bd := F.bindsN (ps := ["deed"]) (fun kV doc pm an cdv ct us hl => hb _ kV doc pm an cdv ct us hl)
  refine ⟨hmg, ?_, F.kp⟩
  rintro X rfl rfl rfl rfl rfl
  obtain ⟨oc, od, dV, kV, doc, pm, an, cdv, ct, osl, rfl, lk, hcd, _, _⟩ := F.ex
  exact ⟨_, _, _, dV, kV, doc, pm, cdv, ct, oc, an, od, osl, lk, hcd, bd, Sc, hvd, fun q => told_gives tk FT hge hgm hgc hgt hmm hmc⟩
theorem q_told {W : WX} {params : Arguments} {body : Expr} {scope : Scope} {te : DTE} {p lpos pos : Pos} {k j : Nat} (FT : DTold X.prog X.w X.K T X.mg X.base k) (LTb : LamT X T) (hg : Gl X "_law_told") (hr : Room j X.A) (hj : k + 2 ≤ j) (L : LamS X.env.scope scope)
    (hbody : ∀ (A : Around) (outer : List Env) (s : Shared) (H : Hp) (E : XK) (f c' : Addr), Room k (A.deeper (lamEnv X scope s.heap.objs.size f c')) → QE (lamN X A outer s H E scope f c') T (fun cls d _ H' => E cls d H') body te)
    (hdef : defaultsOf params X.env = ([], []) := by rfl)
    (hbind : ∀ (q : Str) (cl : List (Str × Addr)) (pm cv ctv : Value), bindArgs (PySem.W.kla_fn "<lambda>" q params body scope cl pm cv ctv) ⟨[], []⟩ = pure [] := by intros; rfl) :
    QE X T W (.Call (.Name "_law_told" p) [.Lambda params body scope lpos] [] pos) (dTold te) := by
  obtain ⟨pg, bg, sg, dV, kV, doc, pm, cdv, ct, oc, an, od, osl, lk, hcg, hb, Sg, hva, gv⟩ := FT.gv X rfl rfl rfl rfl rfl
  obtain ⟨c, P, TB, hcode, hmT, hu⟩ := LTb.ex
  refine PE.imp (pe_lamto (t := fun E => liftE X.K T (fun cls d _ H' => E cls d H') te) hg FT.mgt FT.kp lk hcg hb Sg rfl hva (gv _) TB hcode hmT hu (hr.mono hj) L hdef hbind hbody (by decide) (by decide) (by decide)) ?_
  rintro σ H Q ⟨env, F, G, E, Pk, hG, hs, hx, ht, hq⟩
  refine ⟨hG.tb, fun H1 eN T1 => ?_⟩
  have st := extN_step (G := G) eN fun a f => (hG.fz a f).2
  have g1 := extN_relG eN T1 hG
  refine ⟨env, F, G, toldX Pk, Pk, g1, hs.step st, ?_, ht, fun d F' G' v H' p s' g' r' => hq d F' G' v H' p (st.trans s') g' r'⟩
  rintro x env' F' G' cls d σ' H' ⟨c0, rfl, hc0, p⟩ s' g' rs ⟨rfl, rfl⟩
  exact ⟨F', G', c0, hc0, rfl, rfl, g', fun F2 v H2 s2 g2 r2 => hq _ F2 G' v H2 p (st.trans (s'.trans s2)) g2 r2⟩
end
end DL

namespace DL
open PySem PySem.Spec PyProof.Rows L2 LamX HotX L2H
variable {T : LT}
/-! ### for the printed walk -/
def spOf (N : List Str) (n : Nat) (t : DTS) : DSp := fun ds G Q E => ds.length = n ∧ t (fun x _ G' => E x G') { nx := fun _ G' => Q .non G', rt := Q } (dstart N ds) G
theorem takesF {X : Cx} : LN.Takes X WF := fun _ _ x => by
  obtain ⟨_, _, _, _, _, _, _, _, _, _, _, _, _, _, _, _, _, _, z⟩ := x
  exact z.elim
structure XcK (K : PySem.W.Frag) (mg : Str → Option Value) (c : String) : Prop where
  ok : (He.Fa.exc (S c)).ok K = true
  mg : mg (S c) = some (.ref (He.ga K (S c)))
theorem dxc {X : Cx} {c : String} (x : XcK X.K X.mg c) : DXc X c := by
  obtain ⟨h1, h2, h3, h4⟩ := He.exc_ok x.ok
  exact ⟨h1, x.mg, h2, raises_own h3 h4⟩
theorem hotu {k : Nat} {A : Around} (r : RoomH k A) : A.units + 64 < cLine := by have := r.un; omega
theorem hotu1 {k : Nat} {A : Around} (r : RoomH k A) : A.units + 1 < cLine := by have := r.un; omega
section
variable {P : Program} {w : World} {K : PySem.W.Frag} {mg : Str → Option Value} {base : Heap} {k : Nat} {x : Str} {params : Arguments} {body : List Stmt} {scope : Scope} {fd : FuncData} {N ps : List Str} {t : DTS}
end
theorem DTerm.mono {P : Program} {w : World} {K : PySem.W.Frag} {mg : Str → Option Value} {base : Heap} {j k : Nat} (h : DTerm P w K T mg base j) (hjk : j ≤ k) : DTerm P w K T mg base k := by
  obtain ⟨fd, F, B⟩ := h.ok
  exact ⟨⟨fd, ⟨F.len, fun p A outer s H args us vs Q hr => F.run p A outer s H args us vs Q (hr.mono hjk)⟩, B⟩, h.mg, h.kp⟩
/-! the law itself -/
def G0 : DG := fun _ => none
theorem relG_start {K : PySem.W.Frag} {H : Hp} {a : Addr} {ns : List Int} (hT : Tabs T H) (hS : SqL K H a (ns.map V.int)) : ∃ F, RelG K T F G0 H ∧ RelDs K F H [.scr ns] [.ref a] := by
  rcases hS with h | h
  · have hr : ∃ o, H a = some o ∧ strip o = .lst (ns.map V.int) := by
      rcases h with h | ⟨o, h⟩
      · exact ⟨_, h, rfl⟩
      · exact ⟨_, h, rfl⟩
    obtain ⟨o, ho, es⟩ := hr
    refine ⟨fun b => b = a, ⟨fun b hb => ⟨rfl, o, by rw [hb]; exact ho, by rw [es]; rfl⟩, hT, fun b o e => by cases e⟩, _, _, rfl, ⟨a, rfl, .inl ⟨⟨o, ho, es⟩, rfl⟩⟩, rfl⟩
  · exact ⟨fun _ => False, ⟨fun b hb => hb.elim, hT, fun b o e => by cases e⟩, _, _, rfl, ⟨a, rfl, .inr h⟩, rfl⟩
theorem law_sp {K : PySem.W.Frag} {sp : DSp} {H : Hp} {a : Addr} {ns : List Int} (hT : Tabs T H) (hS : SqL K H a (ns.map V.int)) (h : sp [.scr ns] G0 (fun d _ => d = .bl true) fun _ _ => False) : liftSp K T sp [.ref a] H (fun v _ => v = .bl true) fun _ _ _ => False := by
  obtain ⟨F, hg, hr⟩ := relG_start hT hS
  exact ⟨_, F, G0, _, _, hg, hr, h, fun d F' G' v H' e _ _ r => by rw [e] at r; exact r, fun _ _ _ _ _ _ z _ _ _ => z⟩
end DL

namespace DL
open PySem PySem.Spec PyProof.Rows L2
/-! ### readings that can be run: values without tracked objects -/
abbrev Ev (α : Type) := DSt → Option (Except DX α)
def endE (E : DXK) (env : DSt) (G : DG) {α : Type} (Q : α → DG → Prop) : Except DX α → Prop
  | .ok d => Q d G
  | .error x => E x env G
def bindE {α β : Type} (a : Option (Except DX α)) (f : α → Option (Except DX β)) : Option (Except DX β) := match a with
  | some (.ok x) => f x
  | some (.error x) => some (.error x)
  | none => none
def EvE (t : DTE) (e : Ev D) : Prop := ∀ env r, e env = some r → ∀ E G Q, endE E env G Q r → t E env G Q
def EvT (t : DTT) (e : Ev Bool) : Prop := ∀ env r, e env = some r → ∀ E G Q, endE E env G Q r → t E env G Q
def EvA (t : DTA) (e : Ev (List D)) : Prop := ∀ env r, e env = some r → ∀ E G Q, endE E env G Q r → t E env G Q
def EvO (t : DTO) (e : Ev (Option Int)) : Prop := ∀ env r, e env = some r → ∀ E G Q, endE E env G Q r → t E env G Q
def EvI (t : DTI) (e : Ev (List D)) : Prop := ∀ env r, e env = some r → ∀ E G Q, endE E env G (fun xs G => ∀ g : DG → Prop, (∀ G', g G') → Q xs g G) r → t E env G Q
inductive SR where
  | nx (env : DSt) | rt (d : D) | ex (x : DX) (env : DSt)
abbrev EvX := DSt → Option SR
def endS (E : DXK) (DE : DEnds) (G : DG) : SR → Prop
  | .nx env => DE.nx env G
  | .rt d => DE.rt d G
  | .ex x env => E x env G
def EvS (t : DTS) (e : EvX) : Prop := ∀ env r, e env = some r → ∀ E DE G, endS E DE G r → t E DE env G
theorem bind_ok {α β : Type} {a : Option (Except DX α)} {f : α → Option (Except DX β)} {r : Except DX β} (h : bindE a f = some r) : (∃ x, a = some (.ok x) ∧ f x = some r) ∨ ∃ x, a = some (.error x) ∧ r = .error x := by
  unfold bindE at h
  split at h
  · exact .inl ⟨_, rfl, h⟩
  · cases h; exact .inr ⟨_, rfl, rfl⟩
  · cases h
/-- what is read of values that know no tracked object is read so everywhere -/
def Mono1 (f : DG → D → Option D) : Prop := ∀ G x z, f G0 x = some z → f G x = some z
def Mono2 (f : DG → D → D → Option D) : Prop := ∀ G x y z, f G0 x y = some z → f G x y = some z
def MonoB (f : DG → List D → Option D) : Prop := ∀ G xs z, f G0 xs = some z → f G xs = some z
def MonoM (f : DMF) : Prop := ∀ G x xs z G', f G0 x xs = some (z, G') → f G x xs = some (z, G)
section
variable {t ta tb tc : DTE} {e ea eb ec : Ev D}
def eVar (i : Nat) : Ev D := fun env => match env[i]? with
  | some (some d) => some (.ok d)
  | _ => none
theorem ev_var (i : Nat) : EvE (dVar i) (eVar i) := fun env r h E G Q q => by
  unfold eVar at h
  split at h
  · rename_i d hd
    cases h
    exact ⟨d, hd, q⟩
  · cases h
def eC {α : Type} (d : α) : Ev α := fun _ => some (.ok d)
theorem ev_c (d : D) : EvE (dC d) (eC d) := fun env r h E G Q q => by cases h; exact q
def okE {α : Type} : Option α → Option (Except DX α)
  | some z => some (.ok z)
  | none => none
theorem okE_eq {α : Type} {o : Option α} {r : Except DX α} (h : okE o = some r) : ∃ z, o = some z ∧ r = .ok z := by
  cases o with
  | none => cases h
  | some z => cases h; exact ⟨z, rfl, rfl⟩
def eOp (f : DG → D → D → Option D) (ea eb : Ev D) : Ev D := fun env => bindE (ea env) fun x => bindE (eb env) fun y => okE (f G0 x y)
theorem ev_op {f : DG → D → D → Option D} (m : Mono2 f) (ha : EvE ta ea) (hb : EvE tb eb) : EvE (dOp f ta tb) (eOp f ea eb) := fun env r h E G Q q => by
  rcases bind_ok h with ⟨x, hx, h⟩ | ⟨x, hx, rfl⟩
  · refine ha env _ hx E G _ ?_
    rcases bind_ok h with ⟨y, hy, h⟩ | ⟨y, hy, rfl⟩
    · refine hb env _ hy E G _ ?_
      obtain ⟨z, hz, rfl⟩ := okE_eq h
      exact ⟨z, m G x y z hz, q⟩
    · exact hb env _ hy E G _ q
  · exact ha env _ hx E G _ q
def eUn (f : DG → D → Option D) (ea : Ev D) : Ev D := fun env => bindE (ea env) fun x => okE (f G0 x)
theorem ev_un {f : DG → D → Option D} (m : Mono1 f) (ha : EvE ta ea) : EvE (dUn f ta) (eUn f ea) := fun env r h E G Q q => by
  rcases bind_ok h with ⟨x, hx, h⟩ | ⟨x, hx, rfl⟩
  · refine ha env _ hx E G _ ?_
    obtain ⟨z, hz, rfl⟩ := okE_eq h
    exact ⟨z, m G x z hz, q⟩
  · exact ha env _ hx E G _ q
def blOf : D → Option Bool
  | .bl b => some b
  | _ => none
theorem blOf_eq {d : D} {b : Bool} (h : blOf d = some b) : d = .bl b := by cases d <;> first | (cases h; rfl) | cases h
def blE (d : D) : Option (Except DX Bool) := okE (blOf d)
def eChain (f g : DG → D → D → Option D) (ea eb ec : Ev D) : Ev D := fun env => bindE (ea env) fun x => bindE (eb env) fun y => bindE (okE (f G0 x y)) fun d => bindE (blE d) fun b =>
  if b = true then bindE (ec env) fun z => okE (g G0 y z) else some (.ok (.bl false))
theorem ev_chain {f g : DG → D → D → Option D} (m : Mono2 f) (n : Mono2 g) (ha : EvE ta ea) (hb : EvE tb eb) (hc : EvE tc ec) : EvE (dChain f g ta tb tc) (eChain f g ea eb ec) := fun env r h E G Q q => by
  rcases bind_ok h with ⟨x, hx, h⟩ | ⟨x, hx, rfl⟩
  · refine ha env _ hx E G _ ?_
    rcases bind_ok h with ⟨y, hy, h⟩ | ⟨y, hy, rfl⟩
    · refine hb env _ hy E G _ ?_
      rcases bind_ok h with ⟨d, hd, h⟩ | ⟨d, hd, rfl⟩
      · obtain ⟨z, hz, ez⟩ := okE_eq hd
        cases ez
        rcases bind_ok h with ⟨b, hb', h4⟩ | ⟨b, hb', rfl⟩
        · obtain ⟨b', hb2, eb⟩ := okE_eq hb'
          cases eb
          cases blOf_eq hb2
          refine ⟨b, m G x y _ hz, ?_⟩
          cases b with
          | true =>
            rw [if_pos rfl] at h4 ⊢
            rcases bind_ok h4 with ⟨w, hw, h5⟩ | ⟨w, hw, rfl⟩
            · refine hc env _ hw E G _ ?_
              obtain ⟨u, hu, rfl⟩ := okE_eq h5
              exact ⟨u, n G y w u hu, q⟩
            · exact hc env _ hw E G _ q
          | false =>
            rw [if_neg Bool.false_ne_true] at h4 ⊢
            cases h4
            exact q
        · obtain ⟨b', hb2, eb⟩ := okE_eq hb'
          cases eb
      · obtain ⟨z, hz, ez⟩ := okE_eq hd
        cases ez
    · exact hb env _ hy E G _ q
  · exact ha env _ hx E G _ q
def eTest (ea : Ev D) : Ev Bool := fun env => bindE (ea env) blE
theorem ev_test (ha : EvE ta ea) : EvT (dTest ta) (eTest ea) := fun env r h E G Q q => by
  rcases bind_ok h with ⟨x, hx, h⟩ | ⟨x, hx, rfl⟩
  · refine ha env _ hx E G _ ?_
    obtain ⟨b, hb, rfl⟩ := okE_eq h
    exact ⟨b, blOf_eq hb, q⟩
  · exact ha env _ hx E G _ q
variable {tt uu : DTT} {et eu : Ev Bool}
def eOr (et eu : Ev Bool) : Ev Bool := fun env => bindE (et env) fun b => if b = true then some (.ok true) else eu env
theorem ev_or (ht : EvT tt et) (hu : EvT uu eu) : EvT (dOr tt uu) (eOr et eu) := fun env r h E G Q q => by
  rcases bind_ok h with ⟨x, hx, h⟩ | ⟨x, hx, rfl⟩
  · refine ht env _ hx E G _ ?_
    cases x with
    | false => exact hu env r h E G Q q
    | true => cases h; exact q
  · exact ht env _ hx E G _ q
def eNot (et : Ev Bool) : Ev Bool := fun env => bindE (et env) fun b => some (.ok (!b))
theorem ev_not (ht : EvT tt et) : EvT (dNot tt) (eNot et) := fun env r h E G Q q => by
  rcases bind_ok h with ⟨x, hx, h⟩ | ⟨x, hx, rfl⟩
  · refine ht env _ hx E G _ ?_
    cases h
    exact q
  · exact ht env _ hx E G _ q
def eAndV (ea eb : Ev D) : Ev D := fun env => bindE (ea env) fun x => bindE (blE x) fun b => if b = true then eb env else some (.ok (.bl false))
theorem ev_andV (ha : EvE ta ea) (hb : EvE tb eb) : EvE (dAndV ta tb) (eAndV ea eb) := fun env r h E G Q q => by
  rcases bind_ok h with ⟨x, hx, h⟩ | ⟨x, hx, rfl⟩
  · refine ha env _ hx E G _ ?_
    rcases bind_ok h with ⟨b, hb', h⟩ | ⟨b, hb', rfl⟩
    · obtain ⟨b', hb2, e'⟩ := okE_eq hb'
      cases e'
      refine ⟨b, blOf_eq hb2, ?_⟩
      cases b with
      | true => exact hb env r h E G Q q
      | false => cases h; exact q
    · obtain ⟨b', hb2, e'⟩ := okE_eq hb'
      cases e'
  · exact ha env _ hx E G _ q
def eNotV (ea : Ev D) : Ev D := fun env => bindE (ea env) fun x => bindE (blE x) fun b => some (.ok (.bl (!b)))
theorem ev_notV (ha : EvE ta ea) : EvE (dNotV ta) (eNotV ea) := fun env r h E G Q q => by
  rcases bind_ok h with ⟨x, hx, h⟩ | ⟨x, hx, rfl⟩
  · refine ha env _ hx E G _ ?_
    rcases bind_ok h with ⟨b, hb', h⟩ | ⟨b, hb', rfl⟩
    · obtain ⟨b', hb2, e'⟩ := okE_eq hb'
      cases e'
      cases h
      exact ⟨b, blOf_eq hb2, q⟩
    · obtain ⟨b', hb2, e'⟩ := okE_eq hb'
      cases e'
  · exact ha env _ hx E G _ q
variable {tr : DTA} {er : Ev (List D)}
theorem ev_nil : EvA dNil (eC []) := fun env r h E G Q q => by cases h; exact q
def eCons (ea : Ev D) (er : Ev (List D)) : Ev (List D) := fun env => bindE (ea env) fun x => bindE (er env) fun xs => some (.ok (x :: xs))
theorem ev_cons (ha : EvE ta ea) (hr : EvA tr er) : EvA (dCons ta tr) (eCons ea er) := fun env r h E G Q q => by
  rcases bind_ok h with ⟨x, hx, h⟩ | ⟨x, hx, rfl⟩
  · refine ha env _ hx E G _ ?_
    rcases bind_ok h with ⟨xs, hxs, h⟩ | ⟨xs, hxs, rfl⟩
    · refine hr env _ hxs E G _ ?_
      cases h
      exact q
    · exact hr env _ hxs E G _ q
  · exact ha env _ hx E G _ q
def eTup (er : Ev (List D)) : Ev D := fun env => bindE (er env) fun xs => if xs.length ≤ 16000000 then some (.ok (.tup xs)) else none
theorem ev_tup (hr : EvA tr er) : EvE (dTup tr) (eTup er) := fun env r h E G Q q => by
  rcases bind_ok h with ⟨x, hx, h⟩ | ⟨x, hx, rfl⟩
  · refine hr env _ hx E G _ ?_
    split at h
    · rename_i hl
      cases h
      exact ⟨hl, q⟩
    · cases h
  · exact hr env _ hx E G _ q
def eLst (er : Ev (List D)) : Ev D := fun env => bindE (er env) fun xs => if xs.length ≤ 16000000 then some (.ok (.lst xs)) else none
theorem ev_lst (hr : EvA tr er) : EvE (dLst tr) (eLst er) := fun env r h E G Q q => by
  rcases bind_ok h with ⟨x, hx, h⟩ | ⟨x, hx, rfl⟩
  · refine hr env _ hx E G _ ?_
    split at h
    · rename_i hl
      cases h
      exact ⟨hl, q⟩
    · cases h
  · exact hr env _ hx E G _ q
def eB (f : DG → List D → Option D) (er : Ev (List D)) : Ev D := fun env => bindE (er env) fun xs => okE (f G0 xs)
theorem ev_b {f : DG → List D → Option D} (m : MonoB f) (hr : EvA tr er) : EvE (dB f tr) (eB f er) := fun env r h E G Q q => by
  rcases bind_ok h with ⟨x, hx, h⟩ | ⟨x, hx, rfl⟩
  · refine hr env _ hx E G _ ?_
    obtain ⟨z, hz, rfl⟩ := okE_eq h
    exact ⟨z, m G x z hz, q⟩
  · exact hr env _ hx E G _ q
/-- a def -/
def EvF (sp : DSp) (e : List D → Option (Except DX D)) : Prop := ∀ ds r, e ds = some r → ∀ G Q (E : DX → DG → Prop), (match r with | .ok d => Q d G | .error x => E x G) → sp ds G Q E
def eCall (ef : List D → Option (Except DX D)) (er : Ev (List D)) : Ev D := fun env => bindE (er env) ef
theorem ev_call {sp : DSp} {ef : List D → Option (Except DX D)} (hf : EvF sp ef) (hr : EvA tr er) : EvE (dCall sp tr) (eCall ef er) := fun env r h E G Q q => by
  rcases bind_ok h with ⟨x, hx, h⟩ | ⟨x, hx, rfl⟩
  · refine hr env _ hx E G _ ?_
    refine hf x r h G Q _ ?_
    cases r with
    | ok d => exact q
    | error x => exact q
  · exact hr env _ hx E G _ q
def eMt (ty : String) (f : DMF) (ea : Ev D) (er : Ev (List D)) : Ev D := fun env => bindE (ea env) fun x => if tyM G0 x = some ty then bindE (er env) fun xs => okE ((f G0 x xs).map (·.1)) else none
theorem tyM_mono {G : DG} {x : D} {ty : String} (h : tyM G0 x = some ty) : tyM G x = some ty := by
  cases x <;> first | exact h | cases h
theorem ev_mt {ty : String} {f : DMF} (m : MonoM f) (ha : EvE ta ea) (hr : EvA tr er) : EvE (dMt ty f ta tr) (eMt ty f ea er) := fun env r h E G Q q => by
  rcases bind_ok h with ⟨x, hx, h⟩ | ⟨x, hx, rfl⟩
  · refine ha env _ hx E G _ ?_
    split at h
    · rename_i hty
      refine ⟨tyM_mono hty, ?_⟩
      rcases bind_ok h with ⟨xs, hxs, h⟩ | ⟨xs, hxs, rfl⟩
      · refine hr env _ hxs E G _ ?_
        obtain ⟨z, hz, rfl⟩ := okE_eq h
        obtain ⟨⟨z', G'⟩, hz', rfl⟩ := Option.map_eq_some_iff.mp hz
        exact ⟨_, G, m G x xs _ G' hz', q⟩
      · exact hr env _ hxs E G _ q
    · cases h
  · exact ha env _ hx E G _ q
theorem ev_noPart : EvO dNoPart (eC none) := fun env r h E G Q q => by cases h; exact q
def intOf : D → Option Int
  | .int i => some i
  | _ => none
def ePart (ea : Ev D) : Ev (Option Int) := fun env => bindE (ea env) fun x => okE ((intOf x).map some)
theorem intOf_eq {d : D} {i : Int} (h : intOf d = some i) : d = .int i := by cases d <;> first | (cases h; rfl) | cases h
theorem ev_part (ha : EvE ta ea) : EvO (dPart ta) (ePart ea) := fun env r h E G Q q => by
  rcases bind_ok h with ⟨x, hx, h⟩ | ⟨x, hx, rfl⟩
  · refine ha env _ hx E G _ ?_
    obtain ⟨z, hz, rfl⟩ := okE_eq h
    obtain ⟨i, hi, rfl⟩ := Option.map_eq_some_iff.mp hz
    exact ⟨i, intOf_eq hi, q⟩
  · exact ha env _ hx E G _ q
theorem asQ_mono {G : DG} {x : D} {xs : List D} (h : asQ G0 x = some xs) : asQ G x = some xs := by cases x <;> first | exact h | cases h
theorem iterD_mono {G : DG} {x : D} {xs : List D} (h : iterD G0 x = some xs) : iterD G x = some xs := by cases x <;> first | exact h | cases h
theorem slice_mono {G : DG} {x z : D} {lo hi : Option Int} (h : pySlice G0 x lo hi = some z) : pySlice G x lo hi = some z := by cases x <;> first | exact h | cases h
def eSlice (ea : Ev D) (l h : Ev (Option Int)) : Ev D := fun env => bindE (ea env) fun x => bindE (l env) fun lo => bindE (h env) fun hi => okE (pySlice G0 x lo hi)
theorem ev_slice {tl th : DTO} {el eh : Ev (Option Int)} (ha : EvE ta ea) (hl : EvO tl el) (hh : EvO th eh) : EvE (dSlice ta tl th) (eSlice ea el eh) := fun env r h E G Q q => by
  rcases bind_ok h with ⟨x, hx, h⟩ | ⟨x, hx, rfl⟩
  · refine ha env _ hx E G _ ?_
    rcases bind_ok h with ⟨lo, hlo, h⟩ | ⟨lo, hlo, rfl⟩
    · refine hl env _ hlo E G _ ?_
      rcases bind_ok h with ⟨hi, hhi, h⟩ | ⟨hi, hhi, rfl⟩
      · refine hh env _ hhi E G _ ?_
        obtain ⟨z, hz, rfl⟩ := okE_eq h
        exact ⟨z, slice_mono hz, q⟩
      · exact hh env _ hhi E G _ q
    · exact hl env _ hlo E G _ q
  · exact ha env _ hx E G _ q
/-! iterables -/
def eIter (ea : Ev D) : Ev (List D) := fun env => bindE (ea env) fun x => okE (iterD G0 x)
theorem ev_iter (ha : EvE ta ea) : EvI (dIter ta) (eIter ea) := fun env r h E G Q q => by
  rcases bind_ok h with ⟨x, hx, h⟩ | ⟨x, hx, rfl⟩
  · refine ha env _ hx E G _ ?_
    obtain ⟨z, hz, rfl⟩ := okE_eq h
    exact ⟨z, iterD_mono hz, q _ fun G' => iterD_mono hz⟩
  · exact ha env _ hx E G _ q
def eZip (er : Ev (List D)) : Ev (List D) := fun env => bindE (er env) fun xs => match xs with
  | [a, b] => match iterD G0 a, iterD G0 b with
    | some as, some bs => some (.ok (zipD as bs))
    | _, _ => none
  | _ => none
theorem ev_zip (hr : EvA tr er) : EvI (dZip tr) (eZip er) := fun env r h E G Q q => by
  rcases bind_ok h with ⟨x, hx, h⟩ | ⟨x, hx, rfl⟩
  · refine hr env _ hx E G _ ?_
    split at h
    · rename_i a b
      split at h
      · rename_i as bs ha hb
        cases h
        exact ⟨a, b, as, bs, rfl, iterD_mono ha, iterD_mono hb, q _ fun G' => ⟨iterD_mono ha, iterD_mono hb⟩⟩
      · cases h
    · cases h
  · exact hr env _ hx E G _ q
/-! comprehensions -/
def eTg : Tg → D → DSt → Option DSt
  | .n i, d, env => some (env.set i (some d))
  | .t is, .tup xs, env => if xs.length = is.length then some (setAll env is xs) else none
  | .t _, _, _ => none
theorem eTg_ok {tg : Tg} {d : D} {env env' : DSt} {P : DSt → Prop} (h : eTg tg d env = some env') (p : P env') : dTg tg d env P := by
  cases tg with
  | n i => cases h; exact p
  | t is =>
    cases d with
    | tup xs =>
      simp only [eTg] at h
      split at h
      · rename_i hl
        cases h
        exact ⟨xs, rfl, hl, p⟩
      · cases h
    | _ => cases h
def eLcL (tg : Tg) (et : Ev Bool) (ee : Ev D) (env : DSt) : List D → Option (List D)
  | [] => some []
  | d :: ds => match eTg tg d env with
    | some env1 => match et env1 with
      | some (.ok true) => match ee env1 with
        | some (.ok y) => match eLcL tg et ee env ds with
          | some ys => some (y :: ys)
          | none => none
        | _ => none
      | some (.ok false) => eLcL tg et ee env ds
      | _ => none
    | none => none
theorem eLcL_ok {tg : Tg} (ht : EvT tt et) (he : EvE t e) {guard : DG → Prop} (hg : ∀ G, guard G) {env : DSt} {G : DG} : ∀ {ds ys : List D} {Q : List D → DG → Prop}, eLcL tg et e env ds = some ys → Q ys G → dLcL tg tt t guard env ds G Q
  | [], ys, Q, h, q => by cases h; exact ⟨hg G, q⟩
  | d :: ds, ys, Q, h, q => by
    unfold eLcL at h
    split at h
    · rename_i env1 h1
      refine ⟨hg G, eTg_ok h1 ?_⟩
      split at h
      · rename_i h2
        refine ht env1 _ h2 EF G _ ?_
        simp only [endE, if_true]
        split at h
        · rename_i y h3
          refine he env1 _ h3 EF G _ ?_
          split at h
          · rename_i zs h4
            cases h
            exact eLcL_ok ht he hg h4 q
          · cases h
        · cases h
      · rename_i h2
        refine ht env1 _ h2 EF G _ ?_
        simp only [endE, Bool.false_eq_true, if_false]
        exact eLcL_ok ht he hg h q
      · cases h
    · cases h
theorem ev_yes : EvT dYes (eC true) := fun env r h E G Q q => by cases h; exact q
def eLc (ei : Ev (List D)) (tg : Tg) (et : Ev Bool) (ee : Ev D) (vs : List Nat) : Ev D := fun env => bindE (ei env) fun items => if items.length ≤ 16000000 then okE ((eLcL tg et ee (wipeD env vs) items).map .lst) else none
theorem ev_lc {wi : DTI} {ei : Ev (List D)} {tg : Tg} {vs : List Nat} (hi : EvI wi ei) (ht : EvT tt et) (he : EvE t e) : EvE (dLc wi tg tt t vs) (eLc ei tg et e vs) := fun env r h E G Q q => by
  rcases bind_ok h with ⟨x, hx, h⟩ | ⟨x, hx, rfl⟩
  · refine hi env _ hx E G _ fun g hg => ?_
    split at h
    · rename_i hl
      obtain ⟨z, hz, rfl⟩ := okE_eq h
      obtain ⟨ys, hy, rfl⟩ := Option.map_eq_some_iff.mp hz
      exact ⟨hl, eLcL_ok ht he hg hy q⟩
    · cases h
  · exact hi env _ hx E G _ q
end
/-! statements -/
section
variable {t u : DTS} {e f : EvX} {te : DTE} {ee : Ev D}
def exE {α : Type} (env : DSt) (a : Option (Except DX α)) (k : α → Option SR) : Option SR := match a with
  | some (.ok x) => k x
  | some (.error x) => some (.ex x env)
  | none => none
theorem exE_ok {α : Type} {env : DSt} {a : Option (Except DX α)} {k : α → Option SR} {r : SR} (h : exE env a k = some r) : (∃ x, a = some (.ok x) ∧ k x = some r) ∨ ∃ x, a = some (.error x) ∧ r = .ex x env := by
  unfold exE at h
  split at h
  · exact .inl ⟨_, rfl, h⟩
  · cases h; exact .inr ⟨_, rfl, rfl⟩
  · cases h
def xNext : EvX := fun env => some (.nx env)
theorem xv_next : EvS sNext xNext := fun env r h E DE G q => by cases h; exact q
def xSeq (e f : EvX) : EvX := fun env => match e env with
  | some (.nx env') => f env'
  | r => r
theorem xv_seq (h1 : EvS t e) (h2 : EvS u f) : EvS (sSeq t u) (xSeq e f) := fun env r h E DE G q => by
  unfold xSeq at h
  split at h
  · rename_i env' he
    exact h1 env _ he E _ G (h2 env' r h E DE G q)
  · rename_i he
    refine h1 env r h E _ G ?_
    cases r with
    | nx env' => exact absurd h (he env')
    | rt d => exact q
    | ex x env' => exact q
def xDrop (ee : Ev D) : EvX := fun env => exE env (ee env) fun _ => some (.nx env)
theorem xv_drop (he : EvE te ee) : EvS (sDrop te) (xDrop ee) := fun env r h E DE G q => by
  rcases exE_ok h with ⟨x, hx, h⟩ | ⟨x, hx, rfl⟩
  · cases h; exact he env _ hx E G _ q
  · exact he env _ hx E G _ q
def xRet (ee : Ev D) : EvX := fun env => exE env (ee env) fun d => some (.rt d)
theorem xv_ret (he : EvE te ee) : EvS (sRet te) (xRet ee) := fun env r h E DE G q => by
  rcases exE_ok h with ⟨x, hx, h⟩ | ⟨x, hx, rfl⟩
  · cases h; exact he env _ hx E G _ q
  · exact he env _ hx E G _ q
def xSet (i : Nat) (ee : Ev D) : EvX := fun env => exE env (ee env) fun d => some (.nx (env.set i (some d)))
theorem xv_set {i : Nat} (he : EvE te ee) : EvS (sSet i te) (xSet i ee) := fun env r h E DE G q => by
  rcases exE_ok h with ⟨x, hx, h⟩ | ⟨x, hx, rfl⟩
  · cases h; exact he env _ hx E G _ q
  · exact he env _ hx E G _ q
def xIf (et : Ev Bool) (e f : EvX) : EvX := fun env => exE env (et env) fun b => if b = true then e env else f env
theorem xv_if {tt : DTT} {et : Ev Bool} (ht : EvT tt et) (h1 : EvS t e) (h2 : EvS u f) : EvS (sIf tt t u) (xIf et e f) := fun env r h E DE G q => by
  rcases exE_ok h with ⟨x, hx, h⟩ | ⟨x, hx, rfl⟩
  · refine ht env _ hx E G _ ?_
    cases x with
    | true => exact h1 env r h E DE G q
    | false => exact h2 env r h E DE G q
  · exact ht env _ hx E G _ q
def xRaise (c : String) : EvX := fun env => some (.ex (c, none) env)
theorem xv_raise {c : String} : EvS (sRaise c) (xRaise c) := fun env r h E DE G q => by cases h; exact q
def xLoop (tg : Tg) (e : EvX) : List D → EvX
  | [], env => some (.nx env)
  | d :: ds, env => match eTg tg d env with
    | some env1 => match e env1 with
      | some (.nx env2) => xLoop tg e ds env2
      | r => r
    | none => none
theorem xLoop_ok {tg : Tg} (h1 : EvS t e) {guard : DG → Prop} (hg : ∀ G, guard G) {E : DXK} {DE : DEnds} {G : DG} : ∀ {ds : List D} {env : DSt} {r : SR}, xLoop tg e ds env = some r → endS E DE G r → dLoop E tg t DE guard ds env G
  | [], env, r, h, q => by cases h; exact ⟨hg G, q⟩
  | d :: ds, env, r, h, q => by
    unfold xLoop at h
    split at h
    · rename_i env1 h2
      refine ⟨hg G, eTg_ok h2 ?_⟩
      split at h
      · rename_i env2 h3
        exact h1 env1 _ h3 E _ G (xLoop_ok h1 hg h q)
      · rename_i h3
        refine h1 env1 r h E _ G ?_
        cases r with
        | nx env' => exact absurd h (h3 env')
        | rt d => exact q
        | ex x env' => exact q
    · cases h
def xFor (ei : Ev (List D)) (tg : Tg) (e : EvX) : EvX := fun env => exE env (ei env) fun items => xLoop tg e items env
theorem xv_for {wi : DTI} {ei : Ev (List D)} {tg : Tg} (hi : EvI wi ei) (h1 : EvS t e) : EvS (sFor wi tg t) (xFor ei tg e) := fun env r h E DE G q => by
  rcases exE_ok h with ⟨x, hx, h⟩ | ⟨x, hx, rfl⟩
  · exact hi env _ hx E G _ fun g hg => xLoop_ok h1 hg h q
  · exact hi env _ hx E G _ q
def fnE (N : List Str) (n : Nat) (e : EvX) (ds : List D) : Option (Except DX D) := if ds.length = n then match e (dstart N ds) with
    | some (.nx _) => some (.ok .non)
    | some (.rt d) => some (.ok d)
    | some (.ex x _) => some (.error x)
    | none => none
  else none
theorem evf {N : List Str} {n : Nat} (h1 : EvS t e) : EvF (spOf N n t) (fnE N n e) := fun ds r h G Q E q => by
  unfold fnE at h
  split at h
  · rename_i hl
    refine ⟨hl, ?_⟩
    split at h
    · rename_i env' h2
      cases h
      exact h1 _ _ h2 _ _ G q
    · rename_i d h2
      cases h
      exact h1 _ _ h2 _ _ G q
    · rename_i x env' h2
      cases h
      exact h1 _ _ h2 _ _ G q
    · cases h
  · cases h
end
end DL

namespace DL
open PySem PySem.Spec PyProof.Rows L2
theorem m_add : Mono2 pyAdd := fun G x y z h => by cases x <;> cases y <;> first | exact h | cases h
theorem m_lt : Mono2 pyLt := fun _ _ _ _ h => h
theorem m_gt : Mono2 pyGt := fun _ _ _ _ h => h
theorem m_le : Mono2 pyLe := fun _ _ _ _ h => h
theorem mapO_mono {f g : D → Option PyData} (h : ∀ d y, f d = some y → g d = some y) : ∀ {xs : List D} {ys : List PyData}, mapO f xs = some ys → mapO g xs = some ys
  | [], _, e => e
  | x :: xs, ys, e => by
    unfold mapO at e ⊢
    split at e
    · rename_i y zs e1 e2
      rw [h x y e1, mapO_mono h e2]
      exact e
    · cases e
theorem toPy_mono {G : DG} : ∀ (n : Nat) (d : D) (y : PyData), toPy G0 n d = some y → toPy G n d = some y := by
  intro n
  induction n with
  | zero => intro d y h; cases d <;> first | exact h | cases h
  | succ n ih =>
    intro d y h
    cases d with
    | tup xs => obtain ⟨ys, h1, h2⟩ := Option.map_eq_some_iff.mp h; exact Option.map_eq_some_iff.mpr ⟨ys, mapO_mono ih h1, h2⟩
    | lst xs => obtain ⟨ys, h1, h2⟩ := Option.map_eq_some_iff.mp h; exact Option.map_eq_some_iff.mpr ⟨ys, mapO_mono ih h1, h2⟩
    | scr xs => obtain ⟨ys, h1, h2⟩ := Option.map_eq_some_iff.mp h; exact Option.map_eq_some_iff.mpr ⟨ys, mapO_mono ih h1, h2⟩
    | ref a => cases h
    | _ => first | exact h | cases h
theorem eqB_mono {G : DG} {x y : D} {b : Bool} (h : pyEqB G0 x y = some b) : pyEqB G x y = some b := by
  unfold pyEqB at h ⊢
  split at h
  · exact h
  · exact h
  · rename_i h1 h2
    split at h
    · rename_i d e hd he
      rw [toPy_mono 40 _ _ hd, toPy_mono 40 _ _ he]
      exact h
    · cases h
theorem m_eq : Mono2 pyEq := fun G x y z h => by
  obtain ⟨b, hb, rfl⟩ := Option.map_eq_some_iff.mp h
  exact Option.map_eq_some_iff.mpr ⟨b, eqB_mono hb, rfl⟩
theorem m_ne : Mono2 pyNe := fun G x y z h => by
  obtain ⟨b, hb, rfl⟩ := Option.map_eq_some_iff.mp h
  exact Option.map_eq_some_iff.mpr ⟨b, eqB_mono hb, rfl⟩
theorem inB_mono {G : DG} {x y : D} {b : Bool} (h : pyInB G0 x y = some b) : pyInB G x y = some b := by
  cases y with
  | ref a => cases x <;> first | exact h | cases h | (simp [pyInB, asQ, asL, asD, G0, lstO, dctO] at h)
  | _ => cases x <;> first | exact h | cases h
theorem m_in : Mono2 pyIn := fun G x y z h => by
  obtain ⟨b, hb, rfl⟩ := Option.map_eq_some_iff.mp h
  exact Option.map_eq_some_iff.mpr ⟨b, inB_mono hb, rfl⟩
theorem m_item : Mono2 pyItem := fun G x y z h => by
  cases x with
  | ref a => cases y <;> first | exact h | cases h | (simp [pyItem, asQ, asL, asD, G0, lstO, dctO] at h)
  | _ => cases y <;> first | exact h | cases h
theorem m_isi {ty : String} : Mono1 (pyIsi ty) := fun G x z h => by cases x <;> first | exact h | cases h
theorem m_len : MonoB pyLen := fun G xs z h => by
  match xs, h with
  | [], h => exact h
  | [x], h => cases x <;> first | exact h | cases h
  | x :: y :: r, h => cases x <;> exact h
theorem m_all : MonoB pyAll := fun G xs z h => by
  match xs, h with
  | [], h => exact h
  | [x], h => cases x <;> first | exact h | cases h
  | _ :: _ :: _, h => cases h
theorem m_tup : MonoB pyTup := fun G xs z h => by
  match xs, h with
  | [], h => exact h
  | [x], h => cases x <;> first | exact h | cases h
  | _ :: _ :: _, h => cases h
theorem m_max2 : MonoB pyMax2 := fun _ _ _ h => h
theorem m_int : MonoB pyIntS := fun _ _ _ h => h
theorem m_str : MonoB pyStr := fun _ _ _ h => h
theorem m_join : MonoM mJoin := fun G x xs z G' h => by
  unfold mJoin at h ⊢
  split at h
  · split at h
    · rename_i ys hy
      split at h
      · rename_i zs hz
        split at h
        · rename_i hl
          cases h
          simp only [asQ_mono hy, hz, hl, if_true]
        · cases h
      · cases h
    · cases h
  · cases h
/-! sums as read -/
theorem mulS (G : DG) (x : Int) {y : Int} (hy : y.natAbs < 2 ^ 64) : pyMul G (.int x) (.int y) = some (.int (x * y)) := by
  show (if mulOk x y = true then _ else _) = _
  rw [if_pos (by unfold mulOk; simp only [Bool.or_eq_true, decide_eq_true_eq]; exact .inl (.inr hy))]
theorem mulW (G : DG) {x y : Int} (hx : x.natAbs < 2 ^ 600) (hy : y.natAbs < 2 ^ 600) : pyMul G (.int x) (.int y) = some (.int (x * y)) := by
  show (if mulOk x y = true then _ else _) = _
  rw [if_pos (by unfold mulOk; simp only [Bool.or_eq_true, Bool.and_eq_true, decide_eq_true_eq]; exact .inr ⟨hx, hy⟩)]
theorem modP (G : DG) (x : Int) {y : Int} (hy : 0 < y) : pyMod G (.int x) (.int y) = some (.int (x % y)) := by
  show (if 0 < y then _ else _) = _
  rw [if_pos hy]
theorem divP (G : DG) (x : Int) {y : Int} (hy : 0 < y) (h2 : y < 2 ^ 600) : pyDiv G (.int x) (.int y) = some (.int (x / y)) := by
  show (if 0 < y ∧ y < 2 ^ 600 then _ else _) = _
  rw [if_pos ⟨hy, h2⟩]
theorem bits_lt {x : Int} {n : Nat} (h0 : 0 ≤ x) (h : x < 2 ^ n) : x.natAbs < 2 ^ n := by
  have : (x.natAbs : Int) < ((2 ^ n : Nat) : Int) := by
    rw [Int.natAbs_of_nonneg h0]
    simpa using h
  exact Int.ofNat_lt.mp this
theorem pow_600 {m : Nat} (h : m ≤ 600) {x : Nat} (hx : x < 2 ^ m) : x < 2 ^ 600 := Nat.lt_of_lt_of_le hx (Nat.pow_le_pow_right (by decide) h)
end DL

namespace DL
open PySem PySem.Spec PyProof.Rows L2
/-! ### from the head -/
end DL

namespace DL
open PySem PySem.Spec PyProof.Rows L2
variable {T : LT}
/-! ### dict displays -/
def mergeD (kvs : List (D × D)) : List (D × D) → List (D × D)
  | [] => kvs
  | (k, v) :: r => mergeD (dput kvs k v) r
def keysOk (ps : List (D × D)) : Bool := ps.all fun p => (keyOf p.1).isSome
def dDct0B : DTE := fun _ _ G Q => ∀ p, G p = none → Q (.ref p) (gset G p (some (.dct [])))
def RelPs (K : PySem.W.Frag) (F : FS) (H : Hp) : List (D × D) → List (V × V) → Prop
  | [], vs => vs = []
  | (k, x) :: r, vs => ∃ a b t, vs = (a, b) :: t ∧ RelD K F H k a ∧ RelD K F H x b ∧ RelPs K F H r t
theorem RelPs.keys {K : PySem.W.Frag} {F : FS} {H : Hp} : ∀ {ps : List (D × D)} {vs : List (V × V)}, RelPs K F H ps vs → keysOk ps = true → ∃ kvs : List (Key × V), vs = kvs.map (fun kv => (kV kv.1, kv.2)) ∧ kvs.length = ps.length ∧
    ∀ (acc : List (D × D)) (ws : List (Key × V)), RelKs K F H acc ws → RelKs K F H (mergeD acc ps) (mergeK ws kvs)
  | [], vs, h, _ => ⟨[], by rw [show vs = [] from h]; rfl, rfl, fun acc ws r => r⟩
  | (k, x) :: r, _, ⟨a, b, t, rfl, ra, rb, rr⟩, hk => by
    unfold keysOk at hk
    rw [List.all_cons, Bool.and_eq_true] at hk
    obtain ⟨key, ek⟩ := Option.isSome_iff_exists.mp hk.1
    obtain ⟨kvs, e1, e2, e3⟩ := RelPs.keys rr hk.2
    refine ⟨(key, b) :: kvs, ?_, by simp [e2], fun acc ws ha => ?_⟩
    · rw [List.map_cons, e1, keyOf_rel ek ra]
    · exact e3 _ _ (RelKs.put ek rb ha)
section
variable {X : Cx} {W : WX} {pos : Pos}
theorem q_dct0B : QE X T W (.Dict [] [] pos) dDct0B := PE.imp pe_dnewK fun σ H Q ⟨env, F, G, E, P, hg, hs, hx, ht, hq⟩ p hp =>
  hq _ F _ _ _ (ht p (hg.free hp)) (Step.set hg (.inl hp)) (hg.set (.inl hp) ⟨[], rfl, rfl⟩) rfl
end
/-! run -/
end DL

namespace DL
open PySem PySem.Spec PyProof.Rows L2 LamX HotX L2H
variable {T : LT}
/-! ### what is never reached -/
section
variable {X : Cx} {W : WX}
end
/-! ### defs by where they stand -/
structure DFa (P : Program) (w : World) (K : PySem.W.Frag) (T : LT) (mg : Str → Option Value) (base : Heap) (k : Nat) (p : Str × Option Str) (ps : List Str) (sp : DSp) : Prop where
  ok : ∃ fd, FnOk P w K mg base (LN.CX P w) k (He.fAd K p) fd ps (liftSp K T sp) ∧ Binds K fd ps []
  kp : PySem.W.keepIn K (.ref (He.fAd K p)) = true
section
variable {P : Program} {w : World} {K : PySem.W.Frag} {mg : Str → Option Value} {base : Heap} {k : Nat} {p : Str × Option Str} {x qual : Str} {params : Arguments} {body : List Stmt} {scope : Scope} {kws : List (Str × V)} {fd : FuncData} {N ps : List Str} {t : DTS}
theorem fna_of (F : FunD K x qual params body scope [] kws (He.fAd K p) fd) (Sc : FnScope N ps scope)
    (hbody : ∀ (cdv : Value) (A : Around) (outer : List Env) (s : Shared) (H : Hp) (E : XK), cdv = .ref (He.codeOf K p) → Room k (A.deeper (envOfC qual scope s.heap.objs.size (He.fAd K p) cdv)) →
      QSs (cxOf (LN.CX P w) P w K mg base N qual scope (He.fAd K p) cdv A outer s H E) T (fun cls d _ H' => E cls d H') body t) :
    FnOk P w K mg base (LN.CX P w) (k + 1) (He.fAd K p) fd ps (liftSp K T (spOf N ps.length t)) := by
  obtain ⟨oc, od, dV, kV, doc, pm, an, cdv, ct, osl, rfl, lk, hcd, _, _⟩ := F.ex
  obtain ⟨c, rfl⟩ := He.codeIn_ref hcd
  have ec : He.codeOf K p = c := He.codeOf_eq (p := p) lk rfl
  refine fn_of lk hcd Sc (fun vs H Q E h => ?_) fun A outer s H vs Q E hr h => ⟨_, hbody (.ref c) A outer s H E (by rw [ec]) hr, ?_⟩
  · obtain ⟨ds, F, G, P, Ed, hg, hr, hs, _⟩ := h
    rw [← hr.length]
    exact hs.1
  · obtain ⟨ds, F, G, P, Ed, hg, hr, hs, hq, hx⟩ := h
    exact ⟨dstart N ds, F, G, _, _, hg, relSt_start hr, fun x env' F' G' cls d σ' H' p s g r rx => hx x _ G' cls d H' p s g rx, hs.2, fun env' F' G' σ' H' p s g r => hq .non F' G' .non H' p s g rfl, hq⟩
theorem dfa_of (F : ∃ fd, FunD K x qual params body scope [] kws (He.fAd K p) fd) (Sc : FnScope N ps scope)
    (hb : ∀ (kV doc pm : Value) (an : Option Addr) (cdv ct : Value) (us : List Value), us.length = ps.length → bindArgs (PySem.W.fnOf x qual params body scope .none kV doc pm an cdv ct) ⟨us, []⟩ = pure (ps.zip us))
    (hbody : ∀ (cdv : Value) (A : Around) (outer : List Env) (s : Shared) (H : Hp) (E : XK), cdv = .ref (He.codeOf K p) → Room k (A.deeper (envOfC qual scope s.heap.objs.size (He.fAd K p) cdv)) →
      QSs (cxOf (LN.CX P w) P w K mg base N qual scope (He.fAd K p) cdv A outer s H E) T (fun cls d _ H' => E cls d H') body t) :
    DFa P w K T mg base (k + 1) p ps (spOf N ps.length t) := by
  obtain ⟨fd, F⟩ := F
  exact ⟨⟨fd, fna_of F Sc hbody, F.bindsN hb⟩, F.kp⟩
/-- a global def by its name -/
theorem DFa.fn {y : Str} {sp : DSp} (h : DFa P w K T mg base k (y, none) ps sp) (hmg : mg y = some (.ref (He.ga K y))) : DFn P w K T mg base k y ps sp := ⟨h.ok, hmg, h.kp⟩
end
/-! ### instances -/
def putD (f : String) (v : D) : List (String × D) → List (String × D)
  | [] => [(f, v)]
  | (g, x) :: r => if g = f then (g, v) :: r else (g, x) :: putD f v r
section
variable {K : PySem.W.Frag} {F : FS} {G : DG} {H : Hp}
theorem RelFs.lookup {f : String} : ∀ {fs : List (String × D)} {ws : List (Str × V)}, RelFs K F H fs ws → (∀ d, fs.lookup f = some d → ∃ v, ws.lookup (S f) = some v ∧ RelD K F H d v) ∧ (fs.lookup f = none → ws.lookup (S f) = none)
  | [], ws, h => by
    rw [show ws = [] from h]
    exact ⟨fun d e => (by cases e), fun _ => rfl⟩
  | (g, x) :: r, ws, ⟨v, ws', e, h, t⟩ => by
    rw [e]
    have ih := RelFs.lookup (f := f) t
    simp only [List.lookup_cons]
    by_cases q : f = g
    · have q2 : (S f == S g) = true := by rw [q]; simp
      have q3 : (f == g) = true := by rw [q]; simp
      rw [q2, q3]
      exact ⟨fun d e => by cases e; exact ⟨v, rfl, h⟩, fun e => by cases e⟩
    · have q3 : (f == g) = false := by simpa using q
      have q2 : (S f == S g) = false := by rw [S_beq]; exact q3
      rw [q2, q3]
      exact ih
theorem RelFs.put {f : String} {x : D} {v : V} (rx : RelD K F H x v) : ∀ {fs : List (String × D)} {ws : List (Str × V)}, RelFs K F H fs ws → RelFs K F H (putD f x fs) (putF (S f) v ws)
  | [], ws, h => by
    rw [show ws = [] from h]
    exact ⟨v, [], rfl, rx, rfl⟩
  | (g, y) :: r, ws, ⟨u, ws', e, h, t⟩ => by
    rw [e]
    unfold putD putF
    by_cases q : g = f
    · rw [if_pos q, if_pos (by rw [q])]
      exact ⟨v, ws', rfl, rx, t⟩
    · rw [if_neg q, if_neg fun z => q (S_inj z)]
      exact ⟨u, _, rfl, h, RelFs.put rx t⟩
theorem RelFs.length : ∀ {fs : List (String × D)} {ws : List (Str × V)}, RelFs K F H fs ws → fs.length = ws.length
  | [], ws, h => by rw [show ws = [] from h]; rfl
  | (g, y) :: r, ws, ⟨u, ws', e, h, t⟩ => by rw [e, List.length_cons, List.length_cons, RelFs.length t]
theorem RelG.ins {a : Addr} {c : String} {fs : List (String × D)} (hg : RelG K T F G H) (e : G a = some (.ins c fs)) : ∃ dx ws, H a = some (.ins (He.ga K (S c)) dx ws) ∧ G dx = none ∧ ¬ F dx ∧ (∃ b, H dx = some (.own b)) ∧ RelFs K F H fs ws := hg.ob a _ e
/-- an attribute is written -/
theorem RelG.fld {a dx : Addr} {c f : String} {fs : List (String × D)} {ws : List (Str × V)} {y : D} {v : V} (hg : RelG K T F G H) (e : G a = some (.ins c fs)) (ea : H a = some (.ins (He.ga K (S c)) dx ws)) (r : RelFs K F H fs ws) (gd : G dx = none) (fd : ¬ F dx) (od : ∃ b, H dx = some (.own b)) (ry : RelD K F H y v) :
    Step F G H F (gset G a (some (.ins c (putD f y fs)))) (upd H a (.ins (He.ga K (S c)) dx (putF (S f) v ws))) ∧ RelG K T F (gset G a (some (.ins c (putD f y fs)))) (upd H a (.ins (He.ga K (S c)) dx (putF (S f) v ws))) := by
  have hs : H a = none ∨ G a ≠ none := .inr (by rw [e]; simp)
  have s : Step F G H F (gset G a (some (.ins c (putD f y fs)))) (upd H a (.ins (He.ga K (S c)) dx (putF (S f) v ws))) := Step.set hg hs
  have hda : dx ≠ a := fun z => by rw [z, e] at gd; cases gd
  refine ⟨s, hg.set hs ⟨dx, _, rfl, by rw [gset_ne hda]; exact gd, fd, ?_, RelFs.put (RelD.step s y ry) (RelFs.step s fs r)⟩⟩
  obtain ⟨b, q⟩ := od
  exact ⟨b, by rw [upd_ne hda]; exact q⟩
/-- a new instance -/
theorem RelG.made {x dx : Addr} {c : String} (hg : RelG K T F G H) (hx : H x = none) (hd : H dx = none) (hne : dx ≠ x) :
    Step F G H F (gset G x (some (.ins c []))) (upd (upd H dx (.own x)) x (.ins (He.ga K (S c)) dx [])) ∧ RelG K T F (gset G x (some (.ins c []))) (upd (upd H dx (.own x)) x (.ins (He.ga K (S c)) dx [])) := by
  have g1 : RelG K T F G (upd H dx (.own x)) := hg.priv hd
  have s1 : Step F G H F G (upd H dx (.own x)) := Step.priv hd
  have hx1 : (upd H dx (.own x)) x = none := by rw [upd_ne (Ne.symm hne)]; exact hx
  have s2 : Step F G (upd H dx (.own x)) F (gset G x (some (.ins c []))) (upd (upd H dx (.own x)) x (.ins (He.ga K (S c)) dx [])) := Step.set g1 (.inl hx1)
  refine ⟨s1.trans s2, g1.set (.inl hx1) ⟨dx, [], rfl, ?_, ?_, ⟨x, ?_⟩, rfl⟩⟩
  · rw [gset_ne hne]; exact hg.free hd
  · exact hg.nof hd
  · rw [upd_ne hne, upd_same]
end
def sFldS (cs : List String) (f : String) (to tv : DTE) : DTS := fun E DE env G => tv E env G fun y G1 => to E env G1 fun x G2 => ∃ a c fs, x = .ref a ∧ G2 a = some (.ins c fs) ∧ c ∈ cs ∧ fs.length < 1000 ∧ DE.nx env (gset G2 a (some (.ins c (putD f y fs))))
def dMake (c : String) (sp : DSp) (ta : DTA) : DTE := fun E env G Q => ta E env G fun xs G1 => ∀ p, G1 p = none → sp (.ref p :: xs) (gset G1 p (some (.ins c []))) (fun v G2 => v = .non ∧ Q (.ref p) G2) fun x G' => E x env G'
inductive MsOk (P : Program) (w : World) (K : PySem.W.Frag) (T : LT) (mg : Str → Option Value) (base : Heap) (j : Nat) (m : String) : List (String × DSp) → Prop
  | nil : MsOk P w K T mg base j m []
  | cons {c : String} {sp : DSp} {ms : List (String × DSp)} {k : Nat} {ps : List Str} (F : DFa P w K T mg base k (S c, some (S m)) ps sp) (hk : k ≤ j) (cl : Cls K (He.ga K (S c))) (hm : Meth K (He.ga K (S c)) (S m) (He.fAd K (S c, some (S m)))) (r : MsOk P w K T mg base j m ms) : MsOk P w K T mg base j m ((c, sp) :: ms)
theorem MsOk.get {P : Program} {w : World} {K : PySem.W.Frag} {mg : Str → Option Value} {base : Heap} {j : Nat} {m c : String} {sp : DSp} : ∀ {ms : List (String × DSp)}, MsOk P w K T mg base j m ms → ms.lookup c = some sp → (∃ k ps, k ≤ j ∧ DFa P w K T mg base k (S c, some (S m)) ps sp) ∧ Cls K (He.ga K (S c)) ∧ Meth K (He.ga K (S c)) (S m) (He.fAd K (S c, some (S m)))
  | _, .cons (c := c') F hk cl hm r, e => by
    rw [List.lookup_cons] at e
    by_cases q : c = c'
    · rw [q] at e ⊢
      simp at e
      rw [← e]
      exact ⟨⟨_, _, hk, F⟩, cl, hm⟩
    · rw [show (c == c') = false by simpa using q] at e
      exact r.get e
section
variable {X : Cx} {W : WX} {e o value : Expr} {es : List Expr} {to tv : DTE} {ta tk : DTA} {pos pos' apos p : Pos} {cs : List String} {f m : String} {j : Nat}
theorem qs_fld (ho : QE X T W o to) (hv : QE X T W value tv) (hc : ∀ c ∈ cs, Cls X.K (He.ga X.K (S c)) ∧ NoAttr X.K (He.ga X.K (S c)) (S f)) (hs : swapsWith value (some (.Attribute o (Str.ofString f) pos')) pos.line X.env = pure false := by rfl) :
    QS X T W (.Assign [.Attribute o (Str.ofString f) pos'] value pos) (sFldS cs f to tv) := by
  refine PS.imp (ps_fld ho hv hs) fun Dn σ H ⟨env, F, G, E, DE, hg, hst, hx, ht, hn, hr⟩ => ?_
  refine ⟨env, F, G, E, _, hg, hst, hx, ht, fun y F1 G1 v H1 pk s1 g1 r1 => ?_⟩
  refine ⟨env, F1, G1, E, _, g1, hst.step s1, hx.step s1, pk, fun d F2 G2 u H2 pk2 s2 g2 r2 => ?_⟩
  obtain ⟨a, c, fs, rfl, ea, hcs, hl, hp⟩ := pk2
  obtain ⟨dx, ws, eh, gd, fd, od, rf⟩ := g2.ins ea
  obtain ⟨s3, g3⟩ := g2.fld (f := f) ea eh rf gd fd od (RelD.step s2 y r1)
  exact ⟨a, _, dx, ws, r2, eh, (hc c hcs).1, (hc c hcs).2, by rw [← rf.length]; exact hl, hn _ _ _ _ _ hp ((s1.trans s2).trans s3) g3 (hst.step ((s1.trans s2).trans s3))⟩
end
end DL

namespace DL
open PySem PySem.Spec PyProof.Rows L2 LamX HotX L2H
variable {T : LT}
/-! ### instances are made; keywords -/
section
variable {X : Cx} {CX : CXT} {k n : Nat} {f C : Addr} {fd : FuncData} {ps ks : List Str} {sp : Sp} {E : XK} {g : List Value → List Value → List Value} {gV : List V → List V → List V} {pins : List (Addr × Obj)} {σ : L2.St} {H : Hp} {s : Shared} {Q : VK} {us ws : List Value} {vs zs : List V}
theorem mk_end {I2x : Hp} {t : Shared} (I2 : Inv X pins σ I2x t) (hx : PassesAt CX X σ E) {x : Addr} {r : Except Value (Flow)} {s' : Shared} (hq' : CR CX X.stack X.prog X.w I2x t (fun v H2 => v = .non ∧ Q (.ref x) H2) E r s') :
    (match r with
      | .ok (.ret u) => u = .none ∧ EP X pins σ Q (.ref x) s'
      | .error e => X.xe e s'
      | _ => False) := by
  cases r with
  | error e => exact hx pins _ _ e s' I2 hq'
  | ok fl => cases fl with
    | ret u =>
      obtain ⟨v, H', I3, rv, ev, q3⟩ := I2.after hq'
      subst ev
      exact ⟨rv, ⟨V.ref x, H', I3, rfl, q3⟩⟩
    | next => exact hq'.elim
    | brk => exact hq'.elim
    | cont => exact hq'.elim
theorem mk_run0 (M : Mk X.K C f) (F : FnOk X.prog X.w X.K X.mg X.base CX k f fd ps sp) (hr : Room (k + 1) X.A) (hb : Binds X.K fd ps []) (hx : PassesAt CX X σ E) (I : Inv X pins σ H s) (r : Vals vs us)
    (h : ∀ x dx, H x = none → H dx = none → dx ≠ x → sp (.ref x :: vs) (upd (upd H dx (.own x)) x (.ins C dx [])) (fun v H2 => v = .non ∧ Q (.ref x) H2) E) : wpAny (model X.prog X.w) X.A (call (.ref C) us) (EP X pins σ Q) X.xe s := by
  have hq := h (s.heap.objs.size + 1) s.heap.objs.size (I.hok.fresh (Nat.le_succ _)) (I.hok.fresh (Nat.le_refl _)) (Nat.ne_of_lt (Nat.lt_succ_self _))
  have I2 := Inv.made (C := C) I
  have r1 : Vals (V.ref (s.heap.objs.size + 1) :: vs) (Value.ref (s.heap.objs.size + 1) :: us) := .cons rfl r
  have hl : (Value.ref (s.heap.objs.size + 1) :: us).length = ps.length := by rw [← r1.length]; exact F.len _ _ _ _ hq
  have b := hb _ (Value.ref (s.heap.objs.size + 1) :: us) I2.kIn (by rw [List.append_nil]; exact hl)
  rw [List.append_nil] at b
  refine wpAny_call (make_map (f := f) I.kIn M.makes M.init (beq_iff_eq.mp M.fn) (codeAny_mono (F.run _ X.stack _ _ ⟨Value.ref (s.heap.objs.size + 1) :: us, []⟩ _ _ _ E (hr.make C us []) (I2.env0.make C us []) b r1 hq) fun r s' hq' => ?_))
  have z := mk_end I2 hx hq'
  cases r with
  | error e => exact z
  | ok fl => cases fl <;> exact z
end
theorem PK.imp {X : Cx} {kws : List Keyword} {t t' : TA} (h : PK X kws t) (k : ∀ σ H Q, t' σ H Q → t σ H Q) : PK X kws t' := ⟨fun pos pins s σ H Q I w => h.run pos pins s σ H Q I (k σ H Q w)⟩
section
variable {X : Cx} {W : WX} {e o : Expr} {es : List Expr} {to te : DTE} {ta tk : DTA} {pos apos p kpos : Pos} {m c : String} {j k n : Nat} {ps ks : List Str} {sp : DSp} {gD : List D → List D → List D} {kws : List Keyword} {nm : Option Str}
/-- C(e, ..) -/
theorem q_make (M : Mk X.K (He.ga X.K (S c)) (He.fAd X.K (S c, some "__init__"))) (DF : DFa X.prog X.w X.K T X.mg X.base k (S c, some "__init__") ps sp) (hr : Room j X.A) (hj : k + 1 ≤ j) (tkx : LN.Takes X W) (hg : Gl X (Str.ofString c)) (hm : X.mg (S c) = some (.ref (He.ga X.K (S c)))) (ha : QA X T W (e :: es) ta)
    (hdb : (Str.ofString c == ("__debug__" : Str)) = false := by decide) (he : starEach (e :: es) X.env = (false, eval e X.env) :: starEach es X.env := by rfl) (hpl : (backTo pos (starEach es X.env)).any (·.1) = false := by rfl) :
    QE X T W (.Call (.Name (Str.ofString c) p) (e :: es) [] pos) (dMake c sp ta) := by
  obtain ⟨fd, F2, B⟩ := DF.ok
  refine ⟨fun pins s σ H Q I hw => ?_⟩
  obtain ⟨env, F, G, E, P, hg', hs, hx, hta, hq⟩ := hw
  refine wpAny_Call_Name_kw (ld_glob I hg hm ?_ hdb)
  refine PySem.W.callWith_K (h₀ := X.base) I.ok.mod.kin M.kp (thn (ha.run pos pins s σ H (fun vs H1 => ∀ x dx, H1 x = none → H1 dx = none → dx ≠ x → liftSp X.K T sp (.ref x :: vs) (upd (upd H1 dx (.own x)) x (.ins (He.ga X.K (S c)) dx [])) (fun v H2 => v = .non ∧ Q (.ref x) H2) (WE W σ)) I
    ⟨env, F, G, E, _, hg', hs, hx, hta, fun xs F1 G1 vs H1 pk s1 g1 r1 x dx h1 h2 h3 => ?_⟩) fun us s1 ⟨vs, H1, I1, r, q⟩ => ⟨I1.kIn, mk_run0 M F2 (hr.mono hj) B (LN.passAt tkx σ) I1 r q⟩) he hpl
  obtain ⟨s2, g2⟩ := g1.made (c := c) h1 h2 h3
  refine ⟨.ref x :: xs, F1, _, _, _, g2, ⟨V.ref x, vs, rfl, rfl, RelDs.step s2 xs r1⟩, pk x (g1.free h1), fun d F' G' v H' p2 s3 g3 r3 => ?_, fun y F' G' cls d H' p2 s3 g3 r3 => hx y env _ G' cls d σ H' p2 ((s1.trans s2).trans s3) g3 (hs.step ((s1.trans s2).trans s3)) r3⟩
  obtain ⟨rfl, p3⟩ := p2
  exact ⟨r3, hq _ _ _ _ _ p3 ((s1.trans s2).trans s3) g3 rfl⟩
/-- C() -/
theorem q_make0 (M : Mk X.K (He.ga X.K (S c)) (He.fAd X.K (S c, some "__init__"))) (DF : DFa X.prog X.w X.K T X.mg X.base k (S c, some "__init__") ps sp) (hr : Room j X.A) (hj : k + 1 ≤ j) (tkx : LN.Takes X W) (hg : Gl X (Str.ofString c)) (hm : X.mg (S c) = some (.ref (He.ga X.K (S c))))
    (hdb : (Str.ofString c == ("__debug__" : Str)) = false := by decide) : QE X T W (.Call (.Name (Str.ofString c) p) [] [] pos) (dMake c sp dNil) := by
  obtain ⟨fd, F2, B⟩ := DF.ok
  refine ⟨fun pins s σ H Q I hw => ?_⟩
  obtain ⟨env, F, G, E, P, hg', hs, hx, hta, hq⟩ := hw
  refine wpAny_Call_Name_kw (ld_glob I hg hm ?_ hdb)
  refine PySem.W.callWith_K0 I.kIn M.kp (mk_run0 (us := []) (vs := []) M F2 (hr.mono hj) B (LN.passAt tkx σ) I .nil fun x dx h1 h2 h3 => ?_)
  obtain ⟨s2, g2⟩ := hg'.made (c := c) h1 h2 h3
  refine ⟨[.ref x], F, _, _, _, g2, ⟨V.ref x, [], rfl, rfl, rfl⟩, hta x (hg'.free h1), fun d F' G' v H' p2 s3 g3 r3 => ?_, fun y F' G' cls d H' p2 s3 g3 r3 => hx y env _ G' cls d σ H' p2 (s2.trans s3) g3 (hs.step (s2.trans s3)) r3⟩
  obtain ⟨rfl, p3⟩ := p2
  exact ⟨r3, hq _ _ _ _ _ p3 (s2.trans s3) g3 rfl⟩
end
end DL

namespace DL
open PySem PySem.Spec PyProof.Rows L2 LamX HotX L2H
variable {T : LT}
/-! ### tuples of the module -/
mutual
theorem relKB_ok {K : PySem.W.Frag} : ∀ (d : D) (u : Value), relKB K d u = true → ∃ v, L2.RelV v u ∧ ∀ F H, RelD K F H d v
  | .non, u, h => by
    cases u <;> first | exact ⟨.non, rfl, fun _ _ => rfl⟩ | (simp [relKB] at h)
  | .bl a, u, h => by
    cases u with
    | bool b =>
      have : a = b := by simpa [relKB] using h
      exact ⟨.bl b, rfl, fun _ _ => by rw [this]; rfl⟩
    | _ => simp [relKB] at h
  | .int i, u, h => by
    cases u with
    | int j t =>
      have : i = j := by simpa [relKB] using h
      exact ⟨.int j, ⟨t, rfl⟩, fun _ _ => by rw [this]; rfl⟩
    | _ => simp [relKB] at h
  | .str s, u, h => by
    cases u with
    | str y t =>
      have : y = S s := by simpa [relKB] using h
      exact ⟨.str y, ⟨t, rfl⟩, fun _ _ => by rw [this]; rfl⟩
    | _ => simp [relKB] at h
  | .tup ds, u, h => by
    cases u with
    | ref a =>
      unfold relKB at h
      split at h
      · rename_i c od its n sl hk
        rw [Bool.and_eq_true, Bool.and_eq_true, decide_eq_true_eq, decide_eq_true_eq] at h
        obtain ⟨vs, rv, rd⟩ := relKBs_ok ds its.toList h.2.2
        exact ⟨.ref a, rfl, fun F H => ⟨a, vs, rfl, .inr ⟨_, its, n, hk, by rw [h.1], rfl, h.2.1, rv⟩, rd F H⟩⟩
      · cases h
    | _ => simp [relKB] at h
  | .lst _, u, h => by cases u <;> simp [relKB] at h
  | .dct _, u, h => by cases u <;> simp [relKB] at h
  | .ref _, u, h => by cases u <;> simp [relKB] at h
  | .scr _, u, h => by cases u <;> simp [relKB] at h
theorem relKBs_ok {K : PySem.W.Frag} : ∀ (ds : List D) (us : List Value), relKBs K ds us = true → ∃ vs, Vals vs us ∧ ∀ F H, RelDs K F H ds vs
  | [], us, h => by
    cases us with
    | nil => exact ⟨[], .nil, fun _ _ => rfl⟩
    | cons u us => simp [relKBs] at h
  | d :: ds, us, h => by
    cases us with
    | nil => simp [relKBs] at h
    | cons u us =>
      have h2 : relKB K d u = true ∧ relKBs K ds us = true := by simpa [relKBs] using h
      obtain ⟨v, r1, r2⟩ := relKB_ok d u h2.1
      obtain ⟨vs, r3, r4⟩ := relKBs_ok ds us h2.2
      exact ⟨v :: vs, .cons r1 r3, fun F H => ⟨v, vs, rfl, r2 F H, r4 F H⟩⟩
end
structure TupG (K : PySem.W.Frag) (mg : Str → Option Value) (x : String) (d : D) : Prop where
  ok : ∃ u v, mg (S x) = some u ∧ L2.RelV v u ∧ ∀ F H, RelD K F H d v
theorem tupG_of {K : PySem.W.Frag} {mg : Str → Option Value} {x : String} {d : D} (hmg : mg (S x) = some (.ref (He.ga K (S x)))) (h : tupGB K x d = true) : TupG K mg x d := by
  obtain ⟨v, r1, r2⟩ := relKB_ok d _ h
  exact ⟨_, v, hmg, r1, r2⟩
theorem q_gtup {X : Cx} {W : WX} {x : String} {d : D} {pos : Pos} (hg : Gl X (Str.ofString x)) (h : TupG X.K X.mg x d) (hd : (Str.ofString x == ("__debug__" : Str)) = false := by decide) : QE X T W (.Name (Str.ofString x) pos) (dC d) := by
  obtain ⟨u, v, hm, r, rd⟩ := h.ok
  exact q_con (pe_glob hg hm r hd) rd
end DL

namespace DL
open PySem PySem.Spec PyProof.Rows L2 LamX HotX L2H
variable {T : LT}
/-! ### keys of dicts -/
section
variable {K : PySem.W.Frag} {F : FS} {G : DG} {H : Hp}
theorem RelKs.get : ∀ {kvs : List (D × D)} {ws : List (Key × V)} {i : Nat} {p : D × D}, RelKs K F H kvs ws → kvs[i]? = some p → ∃ key v, ws[i]? = some (key, v) ∧ keyOf p.1 = some key ∧ RelD K F H p.2 v
  | (k, x) :: r, _, 0, p, ⟨key, v, ws', e, ek, rv, t⟩, h => by
    cases h
    rw [e]
    exact ⟨key, v, rfl, ek, rv⟩
  | (k, x) :: r, _, i + 1, p, ⟨key, v, ws', e, ek, rv, t⟩, h => by
    rw [e]
    exact RelKs.get (i := i) t (by simpa using h)
end
section
variable {K : PySem.W.Frag} {F : FS} {G : DG} {H : Hp}
theorem RelG.lck {a : Addr} {kvs : List (D × D)} (hg : RelG K T F G H) (e : G a = some (.dct kvs)) : ∃ ws, H a = some (.dK ws) ∧ ∀ od, Step F G H F (gset G a (some (.lck kvs (.frz od (.dK ws))))) (upd H a (.frz od (.dK ws))) ∧ RelG K T F (gset G a (some (.lck kvs (.frz od (.dK ws))))) (upd H a (.frz od (.dK ws))) := by
  obtain ⟨ws, eh, r⟩ := hg.ob a _ e
  refine ⟨ws, eh, fun od => ?_⟩
  have hs : H a = none ∨ G a ≠ none := .inr (by rw [e]; simp)
  have s := Step.set (o := some (.lck kvs (.frz od (.dK ws)))) (u := .frz od (.dK ws)) hg hs
  exact ⟨s, hg.set hs ⟨od, ws, rfl, rfl, RelKs.step s kvs r⟩⟩
end
section
variable {X : Cx} {W : WX} {e tg : Expr} {te t : DTE} {st : Stmt} {ts : DTS}
end
end DL

namespace DL
open PySem PySem.Spec PyProof.Rows L2 LamX HotX L2H
variable {T : LT}
/-! ### new lists and dicts that are written later -/
section
variable {K : PySem.W.Frag} {F : FS} {G : DG} {H : Hp}
end
section
variable {X : Cx} {W : WX} {a b e o fx : Expr} {es : List Expr} {ta tb to tk tx : DTE} {tr : DTA} {pos apos cpos : Pos}
end
/-! ### methods of dicts -/
section
variable {X : Cx} {W : WX} {e o fx : Expr} {to tk tx : DTE} {apos cpos : Pos}
end
end DL

namespace DL
open PySem PySem.Spec PyProof.Rows L2 LamX HotX L2H
variable {T : LT}
/-! ### dicts by comprehension -/
section
variable {X : Cx} {W : WX} {kx vx tg iter : Expr} {ifs : List Expr} {scope : Scope} {own : List (Str × Nat)} {pos : Pos} {wi : DTI} {g : Tg} {tt : DTT} {tk tv : DTE}
end
end DL

namespace DL
open PySem PySem.Spec PyProof.Rows L2 LamX HotX L2H
variable {T : LT}
/-! ### targets of any kind -/
abbrev DTG := D → DXK → DSt → DG → (DSt → DG → Prop) → Prop
theorem PG.imp {X : Cx} {tg : Expr} {t t' : TG} (h : PG X tg t) (k : ∀ v σ H Q, t' v σ H Q → t v σ H Q) : PG X tg t' := ⟨fun pins s σ H v u Q I r w => h.run pins s σ H v u Q I r (k v σ H Q w)⟩
section
variable {X : Cx} {W : WX} {o i : Expr} {to ti : DTE} {pos : Pos}
end
/-! ### a table's get with a default -/
section
variable {X : Cx} {W : WX} {e fx : Expr} {te tx : DTE} {x : String} {tab : List (String × D)} {p apos pos : Pos}
end
end DL

namespace DL
open PySem PySem.Spec PyProof.Rows L2
/-! ### twins of locks and keys -/
end DL

namespace DL
open PySem PySem.Spec PyProof.Rows L2
variable {T : LT}
/-! ### a, b, c = x, y, z -/
section
variable {X : Cx} {W : WX} {pos : Pos}
end
/-! ### a slice of a list that will be written -/
section
variable {X : Cx} {W : WX} {pos p2 : Pos} {a : Expr} {lo hi : Option Expr} {ta : DTE} {tl th : DTO}
end
end DL

namespace DL
open PySem PySem.Spec PyProof.Rows L2
theorem m_sortedSet : MonoB pySortedSet := fun G xs z h => by
  match xs, h with
  | [], h => exact h
  | [x], h => cases x <;> first | exact h | cases h
  | _ :: _ :: _, h => cases h
end DL

/-! name = {..: .. for .. in ..} on one line, the name a local -/
namespace DL
open PySem PySem.Spec PyProof.Rows L2
variable {T : LT}
section
variable {X : Cx} {kx vx tg iter : Expr} {ifs : List Expr} {scope : Scope} {own : List (Str × Nat)} {pos spos py : Pos} {i : Nat} {y : Str}
variable {W : WX} {wi : DTI} {g : Tg} {tt : DTT} {tk tv : DTE}
end
end DL

namespace DL
open PySem PySem.Spec PyProof.Rows L2
variable {T : LT}
/-! ### try: a body that raises nothing -/
end DL

namespace DL
open PySem PySem.Spec PyProof.Rows L2 TL PySem.StrLaws
variable {T : LT}
/-! ### a text so many times -/
def repS (s : String) (k : Nat) : String := String.ofList (List.replicate k s.toList).flatten
section
variable {X : Cx}
/-! ### how often a sign stands in a text -/
end
end DL

namespace PySem.W
open PySem PySem.Spec PySem.Calls PyProof.Rows
section
variable {prog : Program} {w : World} {A : Around} {E : Value → Shared → Prop} {s : Shared} {K : Frag} {x D : Addr} {ox od : Obj}
end
end PySem.W
namespace DL
open PySem PySem.Spec PyProof.Rows L2 LamX HotX L2H
variable {T : LT}
/-! ### TooMuch: what its class says -/
/-! ### it is made -/
section
variable {X : Cx} {e : Expr} {es : List Expr} {ta : TA} {p p1 p2 pos : Pos}
end
/-! ### it is raised -/
section
variable {X : Cx} {W : WX} {e : Expr} {te : DTE} {p p3 pos : Pos} {k : Nat} {fd : FuncData}
end
end DL

namespace DL
open PySem PySem.Spec PyProof.Rows L2 LamX HotX L2H
variable {T : LT}
/-! ### TooMuch handled: its dict is tracked -/
def XdAt (G : DG) (dd : Addr) : Prop := ∃ x v, G dd = some (.xdo x v)
section
variable {X : Cx} {W : WX} {a D dd : Addr} {oe : Obj} {e : Str} {i : Nat} {p1 p2 p3 pos : Pos} {b : Bool}
end
/-! ### _law_term of TooMuch -/
def tmTup : D := .tup [.str "refused", .str "TooMuch"]
def spTermX (K : PySem.W.Frag) (T : LT) : SpT := fun p vs H Q => ∃ F G dd, RelG K T F G H ∧ vs = [.ref p.1] ∧ Zc (.ref (tmA K)) (some dd) p.2 ∧ (∃ fs, p.2.data = .fields fs) ∧ XdAt G dd ∧
  ∀ F' v H', Step F G H F' G H' → RelG K T F' G H' → RelD K F' H' tmTup v → Q v H'
structure DTermX (P : Program) (w : World) (K : PySem.W.Frag) (T : LT) (mg : Str → Option Value) (base : Heap) (k : Nat) : Prop where
  ok : ∃ fd, FnT P w K mg base k (He.ga K "_law_term") fd ["e"] (spTermX K T) ∧ L2.Binds K fd ["e"] []
  mg : mg "_law_term" = some (.ref (He.ga K "_law_term"))
  kp : PySem.W.keepIn K (.ref (He.ga K "_law_term")) = true
theorem DTermX.mono {P : Program} {w : World} {K : PySem.W.Frag} {mg : Str → Option Value} {base : Heap} {j k : Nat} (h : DTermX P w K T mg base j) (hjk : j ≤ k) : DTermX P w K T mg base k := by
  obtain ⟨fd, F, B⟩ := h.ok
  exact ⟨⟨fd, ⟨F.len, fun p A outer s H args us vs Q hr => F.run p A outer s H args us vs Q (hr.mono hjk)⟩, B⟩, h.mg, h.kp⟩
end DL

namespace DL
open PySem PySem.Spec PyProof.Rows L2 LamX HotX L2H
variable {T : LT}
section
variable {X : Cx} {W : WX} {a dd : Addr} {oe : Obj} {e : Str} {i k : Nat} {q p1 p2 pos : Pos} {pn : List (Addr × Obj)}
end
/-! ### told -/
section
variable {X : Cx}
end
end DL

/-! isinstance of an own class; in, of lists of deep things -/
namespace DL
open PySem PySem.Spec PyProof.Rows L2
variable {T : LT}
/-! ### isinstance(x, C), C an own class -/
/-! ### in, of lists of deep things -/
def pyInTB (G : DG) (x y : D) : Option Bool := match toPy G 40 x, toPy G 40 y with
  | some d, some (.list ds) => some (ds.any fun z => PyData.eqv z d)
  | _, _ => none
def pyInT (G : DG) (x y : D) : Option D := (pyInTB G x y).map .bl
def pyNotInT (G : DG) (x y : D) : Option D := (pyInTB G x y).map fun b => .bl (!b)
section
variable {X : Cx}
theorem op_pyInT (hu : X.A.units + 65 < cLine) : OpR X (compareOp .In) (rD X.K T pyInT) := by
  intro pins s σ H x y v u Q I rx ry ⟨F, G, dx, dy, z, hg, r1, r2, e, q⟩
  obtain ⟨b, e', rfl⟩ := Option.map_eq_some_iff.mp e
  clear e
  unfold pyInTB at e'
  split at e'
  · rename_i d ds h1 h2
    cases e'
    obtain ⟨a1, a2, a3⟩ := toPy_ok hg 40 _ _ _ r1 h1
    obtain ⟨b1, b2, b3⟩ := toPy_ok hg 40 _ _ _ r2 h2
    exact op_inD hu pins s σ H x y v u Q I rx ry ⟨d, ds, a1, b1, shaped_of a2 a3, shaped_of b2 b3, q _ _ H Step.refl hg rfl⟩
  · cases e'
theorem op_pyNotInT (hu : X.A.units + 65 < cLine) : OpR X (compareOp .NotIn) (rD X.K T pyNotInT) := by
  intro pins s σ H x y v u Q I rx ry ⟨F, G, dx, dy, z, hg, r1, r2, e, q⟩
  obtain ⟨b, e', rfl⟩ := Option.map_eq_some_iff.mp e
  clear e
  unfold pyInTB at e'
  split at e'
  · rename_i d ds h1 h2
    cases e'
    obtain ⟨a1, a2, a3⟩ := toPy_ok hg 40 _ _ _ r1 h1
    obtain ⟨b1, b2, b3⟩ := toPy_ok hg 40 _ _ _ r2 h2
    exact op_notInD hu pins s σ H x y v u Q I rx ry ⟨d, ds, a1, b1, shaped_of a2 a3, shaped_of b2 b3, q _ _ H Step.refl hg rfl⟩
  · cases e'
end
theorem hu65 {k : Nat} {A : Around} (r : Room k A) : A.units + 65 < cLine := by have := r.un; omega
/-! ### list(d), d a dict -/
section
variable {X : Cx} {W : WX} {e : Expr} {es : List Expr} {tr : DTA} {pos : Pos}
end
/-! ### t.index(x), texts -/
section
variable {X : Cx}
end
/-! ### a method of a constant tuple -/
section
variable {X : Cx} {W : WX} {e : Expr} {es : List Expr} {ta : DTA} {name : Str} {p1 apos cpos : Pos} {id x : String} {f : DMF} {d : D}
end
end DL

/-! tuple(a text), sorted(a text) -/
namespace DL
open PySem PySem.Spec PyProof.Rows L2 SrtO DZ
variable {T : LT}
theorem vals_at : ∀ {vs : List V} {us : List Value}, us.length = vs.length → (∀ (i : Nat) (v : V), vs[i]? = some v → ∃ u, us[i]? = some u ∧ RelV v u) → Vals vs us
  | [], us, l, _ => by
    rw [List.eq_nil_of_length_eq_zero l]
    exact .nil
  | k :: ks, [], l, _ => by cases l
  | k :: ks, u :: us, l, h => by
    refine .cons ?_ (vals_at (by rw [List.length_cons, List.length_cons] at l; omega) fun i k' e => h (i + 1) k' e)
    obtain ⟨u', e, is⟩ := h 0 k rfl
    cases e
    exact is
theorem items_signs {x : Str} {acc : Array Value} (h : ItemsOf (SignAt x) acc x.cps.size) : Vals (signV x) acc.toList := by
  refine vals_at (by unfold signV; rw [List.length_map, Array.length_toList, Array.length_toList]; exact h.1) fun i v e => ?_
  unfold signV at e
  rw [List.getElem?_map, Array.getElem?_toList] at e
  obtain ⟨c, ec, rfl⟩ := Option.map_eq_some_iff.mp e
  have li : i < acc.size := by
    rw [h.1]
    exact (Array.getElem?_eq_some_iff.mp ec).1
  obtain ⟨c', u, e1, e2⟩ := h.2 i acc[i] (Array.getElem?_eq_getElem li)
  rw [ec] at e1
  cases e1
  exact ⟨acc[i], by rw [Array.getElem?_toList, Array.getElem?_eq_getElem li], u, e2⟩
theorem signV_len (s : String) : (S s).cps.size = s.length := by
  have h : (S s).cps.toList.length = s.toList.length := by rw [S_cps, List.length_map]
  rw [Array.length_toList] at h
  exact h
theorem le_size : 1000 ≤ sizeLine := by decide +kernel
def pyTupS (G : DG) : List D → Option D
  | [.str s] => if s.length ≤ 1000 then some (.tup (signsD s)) else none
  | _ => none
section
variable {X : Cx}
theorem call_pyTupS (hc : X.calm = true) : CallR X (.type "tuple") (rDB X.K T pyTupS) := by
  rintro pins s σ H xs us Q I rs ⟨F, G, ds, z, hg, r, e, q⟩
  unfold pyTupS at e
  split at e
  · rename_i x
    obtain ⟨v, rfl, rv⟩ := r.one
    by_cases hl : x.length ≤ 1000
    · rw [if_pos hl] at e
      cases e
      obtain rfl : v = .str (S x) := rv
      obtain ⟨u, rfl, t, rfl⟩ := vals1 rs
      have hd : X.A.handled = none := I.ok.hd hc
      have hz := le_size
      have hs := signV_len x
      refine call_tuple_str hd (S x) t (fun h' tk acc kp it => ?_) (by omega)
      have r' := items_signs it
      have I1 : Inv X pins σ H { s with heap := h', toks := tk } := I.kept (t' := tk) kp
      have I2 : Inv X pins σ (upd H h'.objs.size (.tup (signV (S x)))) { s with heap := h'.push { cls := .type "tuple", data := .seq acc }, toks := tk } :=
        I1.laid (t' := tk) (fun b o e => Heap.get?_push_of_some _ e) (Nat.le_refl _) (show ObjOk X.prog X.w _ _ _ (.tup (signV (S x))) from ⟨by rw [r'.length, Array.length_toList, it.1]; omega, acc.toList, r', IsTup.new _ _⟩)
      have hp := I1.hok.fresh (Nat.le_refl h'.objs.size)
      exact ⟨.ref h'.objs.size, _, I2, rfl, q _ _ _ (Step.new hp) (hg.new hp) (relD_newTup hg hp (relDs_signs x))⟩
    · rw [if_neg hl] at e
      cases e
  · cases e
end
end DL

/-! a list slice with a step: all of it, forwards or backwards -/
namespace DL
open PySem PySem.Spec PyProof.Rows L2
variable {T : LT}
section
variable {X : Cx} {W : WX} {a : Expr} {st : Expr} {ta ts : DTE} {p3 pos : Pos}
end
end DL

/-! for x, (y, ..) in ..: a target in a target -/
namespace DL
open PySem PySem.Spec PyProof.Rows L2
variable {T : LT}
section
variable {X : Cx} {W : WX} {pos : Pos}
end
end DL

/-! sorted(xs, key=lambda x: ..) -/
namespace DZ
open PySem PySem.Spec PyProof.Rows L2 SrtO
section
variable {P : Program} {w : World} {A : Around} {E : Value → Shared → Prop} {s : Shared}
end
end DZ

/-! a lambda of one parameter, called by a built-in function -/
namespace DL
open PySem PySem.Spec PyProof.Rows L2 LamX
structure LamS1 (sc scope : Scope) (a : Str) : Prop where
  kind : scope.kind = .function
  co : scope.isCoroutine = false
  gen : scope.isGenerator = false
  own : ∀ y ∈ scope.names, y.2 ≠ .cell ∧ (y.2 = .local → y.1 = a)
  par : scope.names.lookup a = some .local
  free : ∀ y ∈ scope.names, y.2 = .free → sc.names.lookup y.1 = some .cell ∨ sc.names.lookup y.1 = some .free
section
variable {X : Cx} {pins : List (Addr × Obj)} {σ : L2.St} {H : Hp} {s : Shared} {scope : Scope} {a : Str}
theorem LamS1.cells (L : LamS1 X.env.scope scope a) (ok : X.Ok) : (∀ {y c}, (cloFrom X.env.cells scope.names []).lookup y = some c → X.env.cells.lookup y = some c) ∧ ∀ {y}, scope.names.lookup y = some .free → ∃ c, (cloFrom X.env.cells scope.names []).lookup y = some c := by
  constructor
  · intro y c e
    rcases cloFrom_mem (PySem.mem_of_lookup e) with m | ⟨m, e2⟩
    · cases m
    · have hk := L.free _ m rfl
      obtain ⟨c1, e1⟩ : ∃ c1, X.env.cells.lookup y = some c1 := ok.has y (hk.imp id id)
      subst e2
      show X.env.cells.lookup y = some ((X.env.cells.lookup y).getD 0)
      rw [e1]
      rfl
  · intro y e
    have m : (y, NameKind.free) ∈ scope.names := PySem.mem_of_lookup e
    exact mem_lookup (cloFrom_has (acc := []) (cells := X.env.cells) m)
/-- the code object at c' stands in the table at P -/
def CodeT (H : Hp) (P : Addr) (pos : Pos) (c' : Addr) : Prop := ∃ ps : Array Value, H P = some (.tbl ps) ∧ codeAmong pos ps.toList = some (.ref c')
theorem among_more {pos : Pos} {cv : Value} {m : List Value} : ∀ {l : List Value}, codeAmong pos l = some cv → codeAmong pos (l ++ m) = some cv := by
  intro l
  fun_induction codeAmong pos l with
  | case1 line t col u c rest hb =>
    intro h
    simp only [List.cons_append, codeAmong, hb, if_true]
    exact h
  | case2 line t col u c rest hb ih =>
    intro h
    simp only [List.cons_append, codeAmong]
    rw [if_neg hb]
    exact ih h
  | case3 l hl =>
    intro h
    cases h
theorem CodeT.more {H H' : Hp} {P c' : Addr} {pos : Pos} (h : CodeT H P pos c') (m : ∀ b ps, H b = some (.tbl ps) → ∃ more, H' b = some (.tbl (ps ++ more))) : CodeT H' P pos c' := by
  obtain ⟨ps, e, q⟩ := h
  obtain ⟨more, e2⟩ := m P ps e
  refine ⟨_, e2, ?_⟩
  rw [Array.toList_append]
  exact among_more q
theorem CodeT.at' {T : LT} {H : Hp} {P c' : Addr} {pos : Pos} {q : Str} (h : CodeT H P pos c') (t : Tabs T H) (m : (P, q) ∈ T) : H c' = some (CodeO c' q) := by
  obtain ⟨ps, e, a1⟩ := h
  obtain ⟨ps2, e2, _, all⟩ := t _ m
  have e2 : H P = some (.tbl ps2) := e2
  rw [e] at e2
  cases e2
  obtain ⟨c, ec, hc⟩ := all pos _ a1
  cases ec
  exact hc
end
end DL

/-! sorted(xs, key=lambda x: ..) over deep values -/
namespace DL
open PySem PySem.Spec PyProof.Rows L2 LamX SrtO DZ
section
variable {X : Cx} {pins : List (Addr × Obj)} {σ : L2.St} {H : Hp} {s : Shared} {h' : Heap}
end
section
variable {X : Cx} {T : LT} {F : FS} {G : DG} {H : Hp} {ds : List D} {vs : List V} {us : List Value} {l : List Bool}
end
end DL

namespace DL
open PySem PySem.Spec PyProof.Rows L2 LamX SrtO DZ
section
variable {X : Cx} {T : LT} {F : FS} {G : DG} {H : Hp} {ds ks : List D} {vs : List V} {us : List Value} {pins : List (Addr × Obj)} {σ : L2.St} {s : Shared} {scope : Scope} {a : Str} {env : DSt} {tb : DTE}
end
end DL

namespace DL
open PySem PySem.Spec PyProof.Rows L2 LamX SrtO DZ
section
variable {X : Cx} {T : LT}
end
/-! max of a list -/
end DL

namespace DL
open PySem PySem.Spec PyProof.Rows L2 LamX HotX L2H TL
variable {T : LT}
/-! ### str(..) of lists, tuples, dicts -/
abbrev PT := PyData × String
/-- what is known of a thing's text -/
def PT.Ok (n : Nat) (p : PT) : Prop := p.1.shown = S p.2 ∧ p.1.showable = true ∧ p.1.depth ≤ n
/-! ### the heap's object as the kit reads it -/
section
variable {P : Program} {w : World} {K : PySem.W.Frag} {F : FS} {G : DG} {H : Hp} {h : Heap}
end
section
variable {X : Cx}
end
end DL

namespace DL
open PySem PySem.Spec PyProof.Rows L2 LamX HotX L2H
/-! ### a law that runs outside of any guard -/
section
variable {K : PySem.W.Frag} {ts : List Addr} {a b : Addr} {o : Obj} {vs : List V}
end
/-! ### the law's own body -/
section
variable {P : Program} {w : World} {K : PySem.W.Frag} {T : LT} {mg : Str → Option Value} {base : Heap} {k : Nat} {p : Str × Option Str} {x qual : Str} {params : Arguments} {body : List Stmt} {scope : Scope} {kws : List (Str × V)} {fd : FuncData} {N ps : List Str} {t : DTS}
end
end DL

namespace DL
open PySem PySem.Spec PyProof.Rows L2
variable {T : LT}
/-! ### try: .. except CageError: raise C('m') from None -/
end DL

namespace DL
open PySem PySem.Spec PyProof.Rows L2
variable {T : LT}
/-! ### dict(xs) of a list of pairs -/
end DL

/-! isinstance(x, tuple), x data or an instance of C -/
namespace DL
open PySem PySem.Spec PyProof.Rows L2
variable {T : LT}
end DL

/-! exceptions that are caught and told on as values -/
namespace DL
open PySem PySem.Spec PyProof.Rows L2 LamX HotX L2H
variable {T : LT}
section
variable {X : Cx} {pins : List (Addr × Obj)} {σ : L2.St} {H : Hp} {s : Shared}
end
section
variable {X : Cx} {body : List Stmt} {pos p1 p2 p3 p4 : Pos} {tb : WX → TS} {Wo : WX} {n x : Str} {c : Value} {i : Nat}
end
/-! ### _law_met -/
section
variable {X : Cx}
end
section
variable {X : Cx}
end
/-! ### isinstance and the field of what was caught -/
section
variable {X : Cx} {W : WX} {e : Expr} {te : DTE} {p p2 pos : Pos} {c : String}
end
end DL

/-! sorted(set(a list of rows)) -/
namespace DL
open PySem PySem.Spec PyProof.Rows L2 SrtO DZ
variable {T : LT}
mutual
/-- what a deep value is as a key -/
def nkD : D → Option NestedKey
  | .int i => some (.num i)
  | .str s => some (.text (S s))
  | .tup xs => match nkDs xs with
    | some ks => some (.tup ks)
    | none => none
  | _ => none
def nkDs : List D → Option (List NestedKey)
  | [] => some []
  | x :: xs => match nkD x, nkDs xs with
    | some k, some ks => some (k :: ks)
    | _, _ => none
end
theorem nkDs_cons {x : D} {xs : List D} {l : List NestedKey} (h : nkDs (x :: xs) = some l) : ∃ k ks, l = k :: ks ∧ nkD x = some k ∧ nkDs xs = some ks := by
  simp only [nkDs] at h
  split at h
  · rename_i k ks e1 e2
    exact ⟨k, ks, (Option.some.inj h).symm, e1, e2⟩
  · cases h
theorem nkD_tup {xs : List D} {k : NestedKey} (h : nkD (.tup xs) = some k) : ∃ ks, k = .tup ks ∧ nkDs xs = some ks := by
  simp only [nkD] at h
  split at h
  · rename_i ks e
    exact ⟨ks, (Option.some.inj h).symm, e⟩
  · cases h
mutual
theorem nkD_inj : ∀ (x y : D) (k : NestedKey), nkD x = some k → nkD y = some k → x = y
  | .int i, y, k, hx, hy => by
    simp only [nkD] at hx
    cases hx
    cases y with
    | int j =>
      simp only [nkD, Option.some.injEq, NestedKey.num.injEq] at hy
      rw [hy]
    | str t => simp [nkD] at hy
    | tup ys =>
      obtain ⟨_, e, _⟩ := nkD_tup hy
      cases e
    | _ => simp [nkD] at hy
  | .str s, y, k, hx, hy => by
    simp only [nkD] at hx
    cases hx
    cases y with
    | int j => simp [nkD] at hy
    | str t =>
      simp only [nkD, Option.some.injEq, NestedKey.text.injEq] at hy
      rw [S_inj hy]
    | tup ys =>
      obtain ⟨_, e, _⟩ := nkD_tup hy
      cases e
    | _ => simp [nkD] at hy
  | .tup xs, y, k, hx, hy => by
    obtain ⟨ks, rfl, e⟩ := nkD_tup hx
    cases y with
    | tup ys =>
      obtain ⟨ks', e1, e2⟩ := nkD_tup hy
      cases e1
      rw [nkDs_inj xs ys ks e e2]
    | _ => simp [nkD] at hy
  | .non, _, _, hx, _ => by simp [nkD] at hx
  | .bl _, _, _, hx, _ => by simp [nkD] at hx
  | .lst _, _, _, hx, _ => by simp [nkD] at hx
  | .dct _, _, _, hx, _ => by simp [nkD] at hx
  | .ref _, _, _, hx, _ => by simp [nkD] at hx
  | .scr _, _, _, hx, _ => by simp [nkD] at hx
theorem nkDs_inj : ∀ (xs ys : List D) (ks : List NestedKey), nkDs xs = some ks → nkDs ys = some ks → xs = ys
  | [], ys, ks, hx, hy => by
    simp only [nkDs] at hx
    cases hx
    cases ys with
    | nil => rfl
    | cons y ys =>
      obtain ⟨_, _, e, _⟩ := nkDs_cons hy
      cases e
  | x :: xs, ys, ks, hx, hy => by
    obtain ⟨k, ks', rfl, h1, h2⟩ := nkDs_cons hx
    cases ys with
    | nil => simp [nkDs] at hy
    | cons y ys =>
      obtain ⟨k', ks2, e, g1, g2⟩ := nkDs_cons hy
      cases e
      rw [nkD_inj x y k h1 g1, nkDs_inj xs ys ks' h2 g2]
end
section
variable {X : Cx}
mutual
theorem nest_of {pins : List (Addr × Obj)} {σ : L2.St} {H : Hp} {s : Shared} {F : FS} (I : Inv X pins σ H s) : ∀ (d : D) {v : V} {u : Value} {k : NestedKey}, RelD X.K F H d v → RelV v u → nkD d = some k → NestedIs s.heap k u
  | .int i, v, u, k, r, q, e => by
    simp only [nkD] at e
    cases e
    rw [show v = _ from r] at q
    obtain ⟨t, rfl⟩ := q
    exact .int i t
  | .str x, v, u, k, r, q, e => by
    simp only [nkD] at e
    cases e
    rw [show v = _ from r] at q
    obtain ⟨t, rfl⟩ := q
    exact .text _ t
  | .tup ds, v, u, k, ⟨a, vs, ev, t, kr⟩, q, e => by
    subst ev
    obtain ⟨its, rv, ⟨o, ho, hc, n, hd⟩, _⟩ := I.tuple t.sq
    obtain rfl : u = Value.ref a := q
    obtain ⟨ks, ek, e2⟩ := nkD_tup e
    subst ek
    exact .tup ho hc hd (nests_of I ds kr rv e2)
  | .non, _, _, _, _, _, e => by simp [nkD] at e
  | .bl _, _, _, _, _, _, e => by simp [nkD] at e
  | .lst _, _, _, _, _, _, e => by simp [nkD] at e
  | .dct _, _, _, _, _, _, e => by simp [nkD] at e
  | .ref _, _, _, _, _, _, e => by simp [nkD] at e
  | .scr _, _, _, _, _, _, e => by simp [nkD] at e
theorem nests_of {pins : List (Addr × Obj)} {σ : L2.St} {H : Hp} {s : Shared} {F : FS} (I : Inv X pins σ H s) : ∀ (ds : List D) {vs : List V} {us : List Value} {ks : List NestedKey}, RelDs X.K F H ds vs → Vals vs us → nkDs ds = some ks → NestedAll s.heap ks us
  | [], vs, us, ks, r, q, e => by
    simp only [nkDs] at e
    cases e
    rw [show vs = [] from r] at q
    cases q
    exact .nil
  | d :: ds, _, us, ks, ⟨v, vs, rfl, r, rs⟩, q, e => by
    cases q with
    | cons q qs =>
      obtain ⟨k, ks', rfl, e1, e2⟩ := nkDs_cons e
      exact .cons (nest_of I d r q e1) (nests_of I ds rs qs e2)
end
/-- a row that can be a key -/
def okN : D → Bool
  | .tup xs => match nkD (.tup xs) with
    | some k => decide (k.depth ≤ 8)
    | none => false
  | _ => false
theorem okN_some {d : D} (h : okN d = true) : ∃ xs k, d = .tup xs ∧ nkD d = some k ∧ k.depth ≤ 8 := by
  cases d with
  | tup xs =>
    simp only [okN] at h
    split at h
    · rename_i k e
      exact ⟨xs, k, rfl, e, of_decide_eq_true h⟩
    · cases h
  | _ => cases h
def eqN (x y : D) : Bool := decide (nkD x = nkD y)
def nubN : List D → List D
  | [] => []
  | x :: xs => if xs.any (eqN x) = true then nubN xs else x :: nubN xs
def pySortedSetN (G : DG) : List D → Option D
  | [x] => match asL G x with
    | some xs => if (xs.all okN) = true ∧ homD xs = true ∧ xs.length < 64 then some (.lst (sortD (nubN xs))) else none
    | none => none
  | _ => none
theorem eqN_iff {x y : D} (hx : okN x = true) : eqN x y = true ↔ x = y := by
  obtain ⟨xs, k, _, e, _⟩ := okN_some hx
  unfold eqN
  rw [decide_eq_true_eq]
  exact ⟨fun h => nkD_inj x y k e (h ▸ e), fun h => by rw [h]⟩
theorem nubN_mem : ∀ {xs : List D}, (∀ x ∈ xs, okN x = true) → ∀ y, y ∈ nubN xs ↔ y ∈ xs
  | [], _, y => Iff.rfl
  | x :: xs, h, y => by
    have hx := h x List.mem_cons_self
    have ih := nubN_mem (xs := xs) (fun z m => h z (List.mem_cons_of_mem _ m)) y
    unfold nubN
    by_cases c : xs.any (eqN x) = true
    · rw [if_pos c, ih, List.mem_cons]
      obtain ⟨z, mz, ez⟩ := List.any_eq_true.mp c
      have e := (eqN_iff hx).mp ez
      exact ⟨.inr, fun q => q.elim (fun q => by rw [q, e]; exact mz) id⟩
    · rw [if_neg c, List.mem_cons, List.mem_cons, ih]
theorem nubN_nodup : ∀ {xs : List D}, (∀ x ∈ xs, okN x = true) → (nubN xs).Nodup
  | [], _ => List.nodup_nil
  | x :: xs, h => by
    have h' : ∀ z ∈ xs, okN z = true := fun z m => h z (List.mem_cons_of_mem _ m)
    unfold nubN
    by_cases c : xs.any (eqN x) = true
    · rw [if_pos c]
      exact nubN_nodup h'
    · rw [if_neg c]
      refine List.nodup_cons.mpr ⟨fun m => c ?_, nubN_nodup h'⟩
      have m' := (nubN_mem h' x).mp m
      exact List.any_eq_true.mpr ⟨x, m', (eqN_iff (h x List.mem_cons_self)).mpr rfl⟩
/-- a deep value, where it lies, which key it is -/
abbrev Trp := D × Addr × NestedKey
def TrpOk (K : PySem.W.Frag) (F : FS) (H : Hp) (t : Trp) : Prop := nkD t.1 = some t.2.2 ∧ t.2.2.depth ≤ 8 ∧ RelD K F H t.1 (V.ref t.2.1)
theorem trps_of {K : PySem.W.Frag} {F : FS} {H : Hp} : ∀ {ds : List D} {vs : List V}, (∀ d ∈ ds, okN d = true) → RelDs K F H ds vs → ∃ tr : List Trp, tr.map (·.1) = ds ∧ vs = tr.map (fun t => V.ref t.2.1) ∧ ∀ t ∈ tr, TrpOk K F H t
  | [], _, _, r => ⟨[], rfl, r, fun t m => by cases m⟩
  | d :: ds, _, h, ⟨v, vs, rfl, r, rs⟩ => by
    obtain ⟨tr, e1, e2, q⟩ := trps_of (fun x m => h x (List.mem_cons_of_mem _ m)) rs
    obtain ⟨xs, k, rfl, e, dk⟩ := okN_some (h d List.mem_cons_self)
    obtain ⟨a, ws, rfl, t, kr⟩ := r
    refine ⟨(.tup xs, a, k) :: tr, by rw [List.map_cons, e1], by rw [List.map_cons, e2], fun t' m => ?_⟩
    rcases List.mem_cons.mp m with m | m
    · rw [m]
      exact ⟨e, dk, a, ws, rfl, t, kr⟩
    · exact q t' m
theorem vals_refs : ∀ {tr : List Trp} {us : List Value}, Vals (tr.map fun t => V.ref t.2.1) us → us = tr.map fun t => Value.ref t.2.1
  | [], us, h => by
    cases h
    rfl
  | t :: tr, us, h => by
    cases h with
    | cons r rs =>
      rw [vals_refs rs]
      rw [show _ = Value.ref t.2.1 from r]
      rfl
theorem refs_vals : ∀ (L : List Addr), Vals (L.map V.ref) (L.map Value.ref)
  | [] => .nil
  | a :: L => .cons rfl (refs_vals L)
/-- the set at p of these keys -/
def SetNO (w : World) (p : Addr) (ks : List (Addr × NestedKey)) : HO := .ext fun h => HasN w h p ks ks.length
def rSetN (X : Cx) : List V → Hp → VK → Prop := fun xs H Q => ∃ (a : Addr) (F : FS) (tr : List Trp), xs = [V.ref a] ∧ SqL X.K H a (tr.map fun t => V.ref t.2.1) ∧ tr.length < 64 ∧ (∀ t ∈ tr, TrpOk X.K F H t) ∧ ∀ p, H p = none → Q (.ref p) (upd H p (SetNO X.w p (tr.map (·.2))))
theorem call_setN (hc : X.calm = true) (hu : X.A.units + 64 < cLine) : CallR X (.type "set") (rSetN X) := by
  rintro pins s σ H xs us Q I rs ⟨a, F, tr, rfl, h, hl, ok, q⟩
  obtain rfl : us = [Value.ref a] := Vals.ref1 rs
  obtain ⟨its, r', pl, hz⟩ := I.list h
  have ei := vals_refs r'
  refine call_set_listN (tr.map (·.2)) (I.ok.hd hc) pl.isList (by rw [ei, List.map_map] <;> rfl) (fun p m => ?_) (by rw [List.length_map]; exact hl) (by omega) fun h' tk M kp => ?_
  · obtain ⟨t, mt, rfl⟩ := List.mem_map.mp m
    obtain ⟨e, dk, r⟩ := ok t mt
    exact ⟨nest_of I t.1 r rfl e, dk⟩
  · have ⟨L, o, es, ep, t, S, _⟩ := M
    exact ⟨.ref _, upd H s.heap.objs.size (SetNO X.w s.heap.objs.size (tr.map (·.2))), I.laid (t' := tk) kp (Nat.le_refl _) ⟨M, ⟨o, S.ob⟩, fun h1 h2 p k => HasN.at p k⟩, rfl, q _ (I.hok.fresh (Nat.le_refl _))⟩
theorem choose_trp {tr : List Trp} : ∀ {L : List (Addr × NestedKey)}, (∀ p ∈ L, p ∈ tr.map (·.2)) → ∃ ts : List Trp, (∀ t ∈ ts, t ∈ tr) ∧ ts.map (·.2) = L
  | [], _ => ⟨[], fun e m => (by cases m), rfl⟩
  | p :: L, h => by
    obtain ⟨ts, h1, h2⟩ := choose_trp fun v m => h v (List.mem_cons_of_mem _ m)
    obtain ⟨t, mt, et⟩ := List.mem_map.mp (h p List.mem_cons_self)
    refine ⟨t :: ts, fun e m => ?_, by rw [List.map_cons, h2, et]⟩
    rcases List.mem_cons.mp m with m | m
    · rw [m]
      exact mt
    · exact h1 e m
theorem rel_trps {K : PySem.W.Frag} {F : FS} {H : Hp} : ∀ {ts : List Trp}, (∀ t ∈ ts, TrpOk K F H t) → RelDs K F H (ts.map (·.1)) (ts.map fun t => V.ref t.2.1)
  | [], _ => rfl
  | t :: ts, h => ⟨_, _, rfl, (h t List.mem_cons_self).2.2, rel_trps fun x m => h x (List.mem_cons_of_mem _ m)⟩
def rSortN (X : Cx) (T : LT) : List V → Hp → VK → Prop := fun xs H Q => ∃ (p : Addr) (tr : List Trp) (F : FS) (G : DG), xs = [V.ref p] ∧ H p = some (SetNO X.w p (tr.map (·.2))) ∧ RelG X.K T F G H ∧ (∀ t ∈ tr, TrpOk X.K F H t ∧ okN t.1 = true) ∧ homD (tr.map (·.1)) = true ∧ tr.length < 64 ∧
  ∀ F' v H', Step F G H F' G H' → RelG X.K T F' G H' → RelD X.K F' H' (.lst (sortD (nubN (tr.map (·.1))))) v → Q v H'
theorem call_sortN (hc : X.calm = true) : CallR X (.builtin "sorted") (rSortN X T) := by
  rintro pins s σ H xs us Q I rs ⟨p, tr, F, G, rfl, hp, hg, ok, hom, hl, q⟩
  obtain rfl : us = [Value.ref p] := Vals.ref1 rs
  have hd : X.A.in1.handled = none := by simp [I.ok.hd hc]
  obtain ⟨M, _, _⟩ := I.hok p _ hp
  obtain ⟨L, o, es, ep, t, S, h1, h2, h3⟩ := M
  have sz := len_en S.en
  have fw := S.fw
  have hsz : es.size < scanBound := by
    rw [sz]
    unfold scanBound
    omega
  refine sortedV (collect_set hd ⟨o, S.ob, S.ex.1, S.dt⟩ S.fits hsz S.tb.ris S.ld fun s' out kp _ hgn hos pm => ?_)
  have I1 : Inv X pins σ H s' := I.call' (ch := []) hos (Un.kept kp) (I.hok.kept kp) (by rw [hgn]; exact I.bare) (fun _ z => nomatch z)
  obtain ⟨ts0, c1, c2⟩ := choose_trp h1
  have e0 : (ts0.map fun t => Value.ref t.2.1) = es.toList.map (·.2) := by
    rw [S.en, ← c2, List.map_map, List.map_map] <;> rfl
  obtain ⟨ts, pt, et⟩ := perm_pull (f := fun t : Trp => Value.ref t.2.1) pm ts0 e0
  have tin : ∀ t ∈ ts, t ∈ tr := fun t m => c1 t (pt.mem_iff.mp m)
  have inj : ∀ t ∈ tr, ∀ t' ∈ tr, t.1 = t'.1 → t.2.2 = t'.2.2 := fun t m t' m' e => by
    have a := (ok t m).1.1
    have b := (ok t' m').1.1
    rw [e, b] at a
    exact (Option.some.inj a).symm
  have nk : (ts.map (·.2.2)).Nodup := by
    refine (pt.map (·.2.2)).nodup_iff.mpr ?_
    have z := S.nd
    rw [← c2, List.map_map] at z
    exact z
  have cn : (ts.map (·.1)).Nodup := by
    refine List.pairwise_map.mpr ?_
    have z := List.pairwise_map.mp nk
    refine List.Pairwise.imp_of_mem (fun {a b} ma mb n e => n (inj a (tin a ma) b (tin b mb) e)) z
  have allk : ∀ x ∈ tr.map (·.1), okN x = true := fun x m => by
    obtain ⟨t, mt, rfl⟩ := List.mem_map.mp m
    exact (ok t mt).2
  have cp : (ts.map (·.1)).Perm (nubN (tr.map (·.1))) := perm_of cn (nubN_nodup allk) fun x => by
    rw [nubN_mem allk x]
    refine ⟨fun m => ?_, fun m => ?_⟩
    · obtain ⟨t, mt, rfl⟩ := List.mem_map.mp m
      exact List.mem_map.mpr ⟨t, tin t mt, rfl⟩
    · obtain ⟨t, mt, rfl⟩ := List.mem_map.mp m
      have z := h2 t.2 (List.mem_map.mpr ⟨t, mt, rfl⟩)
      rw [← c2, List.map_map] at z
      obtain ⟨t', mt', et'⟩ := List.mem_map.mp z
      have mt2 : t' ∈ ts := pt.mem_iff.mpr mt'
      refine List.mem_map.mpr ⟨t', mt2, ?_⟩
      have a := (ok t mt).1.1
      have b := (ok t' (tin t' mt2)).1.1
      rw [show t'.2.2 = t.2.2 from et'] at b
      exact nkD_inj _ _ _ b a
  obtain ⟨l, hsh⟩ := homD_sh hom
  have csh : ∀ c ∈ ts.map (·.1), shD c = some l := fun c m => by
    obtain ⟨t, mt, rfl⟩ := List.mem_map.mp m
    exact hsh _ (List.mem_map.mpr ⟨t, tin t mt, rfl⟩)
  have nsh : ∀ c ∈ nubN (tr.map (·.1)), shD c = some l := fun c m => csh c (cp.mem_iff.mpr m)
  have eq : sortD (ts.map (·.1)) = sortD (nubN (tr.map (·.1))) := rise_eq (((sortD_perm _).trans cp).trans (sortD_perm _).symm) (fun x m => csh x ((sortD_perm _).mem_iff.mp m)) (sortD_rise csh) (sortD_rise nsh)
  have vals : Vals (ts.map fun t => V.ref t.2.1) out := by
    rw [← et]
    have z := refs_vals (ts.map fun t => t.2.1)
    rw [List.map_map, List.map_map] at z
    exact z
  refine rdy_of (s := s) hg I1 (rel_trps fun t m => (ok t (tin t m)).1) vals ?_ (homD_of csh) fun F' v H' s2 g2 r2 => q F' v H' s2 g2 (by rw [← eq]; exact r2)
  rw [List.length_map]
  have z : ts.length = L.length := by rw [pt.length_eq, ← c2, List.length_map]
  rw [z, sizeLine_eq]
  omega
theorem q_sortedSetN {W : WX} {e : Expr} {te : DTE} {p p2 pos pos2 : Pos} (hc : X.calm = true) (hu : X.A.units + 64 < cLine) (hg : Gl X "sorted") (hm : X.mg "sorted" = none) (hg2 : Gl X "set") (hm2 : X.mg "set" = none) (he : QE X T W e te)
    (hs1 : starEach [e] X.env = [(false, eval e X.env)] := by rfl) (hs2 : starEach [.Call (.Name "set" p2) [e] [] pos2] X.env = [(false, eval (.Call (.Name "set" p2) [e] [] pos2) X.env)] := by rfl) :
    QE X T W (.Call (.Name "sorted" p) [.Call (.Name "set" p2) [e] [] pos2] [] pos) (dB pySortedSetN (dCons te dNil)) :=
  PE.imp (pe_callB (call_sortN (T := T) hc) hg hm PyProof.Rows.boot_sorted (pa_cons (pe_callTy (call_setN hc hu) hg2 hm2 PyProof.Rows.boot_set (pa_cons he pa_nil hs1) (he := hs1)) pa_nil hs2) (he := hs2)) fun σ H Q ⟨env, F, G, E, P, hg, hs, hx, ht, hq⟩ =>
    ⟨env, F, G, E, _, hg, hs, hx, ht, fun x F1 G1 v1 H1 h1 s1 g1 r1 => by
      obtain ⟨z, ez, pz⟩ := h1
      simp only [pySortedSetN] at ez
      cases e1 : asL G1 x with
      | none =>
        rw [e1] at ez
        cases ez
      | some ds =>
        rw [e1] at ez
        dsimp only at ez
        by_cases c : (ds.all okN) = true ∧ homD ds = true ∧ ds.length < 64
        · rw [if_pos c] at ez
          cases ez
          obtain ⟨a, vs, rfl, h, k⟩ := asL_ok g1 r1 e1
          have al : ∀ d ∈ ds, okN d = true := List.all_eq_true.mp c.1
          obtain ⟨tr, t1, t2, tok⟩ := trps_of al k
          subst t2
          have tl : tr.length = ds.length := by rw [← t1, List.length_map]
          refine ⟨a, F1, tr, rfl, .inl h, by rw [tl]; exact c.2.2, tok, fun p hp => ?_⟩
          have s2 : Step F1 G1 H1 F1 G1 (upd H1 p (SetNO X.w p (tr.map (·.2)))) := Step.priv hp
          refine ⟨p, tr, F1, G1, rfl, upd_same, g1.priv hp, fun t m => ?_, by rw [t1]; exact c.2.1, by rw [tl]; exact c.2.2, fun F' v H' s3 g3 r3 => hq _ F' G1 v H' pz (s1.trans (s2.trans s3)) g3 (by rw [t1] at r3; exact r3)⟩
          obtain ⟨o1, o2, o3⟩ := tok t m
          exact ⟨⟨o1, o2, RelD.step s2 _ o3⟩, al _ (by rw [← t1]; exact List.mem_map.mpr ⟨t, m, rfl⟩)⟩
        · rw [if_neg c] at ez
          cases ez⟩
theorem hu64 {k : Nat} {A : Around} (r : Room k A) : A.units + 64 < cLine := by have := r.un; omega
end
end DL

/-! sorted of rows (a text, an atom), where rows of one text have atoms of one kind -/
namespace DZ
open PySem PySem.Spec PyProof.Rows L2 SrtO
section
variable {P : Program} {w : World} {A : Around} {E : Value → Shared → Prop} {s : Shared}
/-- as far as they are alike, of one kind -/
def CmpK : List Key → List Key → Prop
  | [], [] => True
  | k :: ks, k' :: ks' => sortK k = sortK k' ∧ (k = k' → CmpK ks ks')
  | _, _ => False
theorem CmpK.len : ∀ {ks ks' : List Key}, ks.length = ks'.length → True := fun _ => trivial
theorem lex_cmp {b : Bool} : ∀ {ks ks' : List Key} {vs vs' : List Value} {i : Nat} {Q : Bool → Shared → Prop}, KsAre ks vs → KsAre ks' vs' → ks.length = ks'.length → CmpK ks ks' → Q (ltR ks ks') s →
    PySem.W.KatLex P w A b (decide (ks.length + i < ks'.length + i)) Q (vs.zip vs') i s
  | [], [], vs, vs', i, Q, h, h', _, _, q => by
    obtain rfl : vs = [] := h
    refine PySem.W.kat_nil ?_
    rw [show decide (([] : List Key).length + i < ([] : List Key).length + i) = false from decide_eq_false (Nat.lt_irrefl _)]
    exact q
  | [], _ :: _, _, _, _, _, _, _, e, _, _ => by cases e
  | _ :: _, [], _, _, _, _, _, _, e, _, _ => by cases e
  | k :: ks, k' :: ks', vs, vs', i, Q, ⟨v, r, e, hk, hr⟩, ⟨v', r', e', hk', hr'⟩, hl, hs, q => by
    subst e e'
    refine PySem.W.kat_cons ((mixKind P w).eqBool (a := k) (b := k') hk hk' ?_)
    have ef : decide ((k :: ks).length + i < (k' :: ks').length + i) = decide (ks.length + (i + 1) < ks'.length + (i + 1)) := by
      rw [List.length_cons, List.length_cons]
      exact decide_eq_decide.mpr (by omega)
    unfold ltR at q
    by_cases c : k = k'
    · rw [if_pos c] at q
      rw [decide_eq_true c, ef]
      exact PySem.W.kat_yes (lex_cmp hr hr' (Nat.succ.inj hl) (hs.2 c) q)
    · rw [if_neg c] at q
      rw [decide_eq_false c]
      exact PySem.W.kat_no (one_lt hk hk' hs.1 q)
theorem tups_txt {h : Heap} {kf : Value → List Key} : ∀ {vs : List Value}, (∀ v ∈ vs, Flat h v (kf v) ∧ ∃ x r, kf v = Sum.inr x :: r) → ∃ fs : List Value, PySem.W.KatTups h vs fs ∧ fs.length = vs.length ∧ ∀ f ∈ fs, ∃ x t, f = Value.str x t
  | [], _ => ⟨[], .nil, rfl, fun f m => by cases m⟩
  | v :: vs, hv => by
    obtain ⟨fs, t, l, c⟩ := tups_txt (fun u m => hv u (List.mem_cons_of_mem _ m))
    obtain ⟨⟨a, o, xs, n, ev, ho, hc, hd, ka⟩, y, r, ek⟩ := hv v List.mem_cons_self
    rw [ek] at ka
    obtain ⟨f, r, ex, hk, _⟩ := ka
    have x0 : xs[0]? = some f := by
      rw [← Array.getElem?_toList, ex]
      rfl
    subst ev
    refine ⟨f :: fs, .cons ho hc hd x0 t, by rw [List.length_cons, List.length_cons, l], fun g m => ?_⟩
    rcases List.mem_cons.mp m with m | m
    · subst m
      rcases keyIs_shape hk with ⟨i, t, e3, e4⟩ | ⟨x, t, e3, e4⟩
      · cases e3
      · exact ⟨x, t, e4⟩
    · exact c g m
theorem sortable_mix {a : Addr} {vs : List Value} {kf : Value → List Key} (hv : ∀ v ∈ vs, Flat s.heap v (kf v) ∧ ∃ x r, kf v = Sum.inr x :: r) (hc : ∀ u ∈ vs, ∀ v ∈ vs, (kf u).length = (kf v).length ∧ CmpK (kf u) (kf v)) (h2 : 2 ≤ vs.length)
    (ha : ∀ o, s.heap.get? a = some o → o.cls ≠ .type "tuple") : SortableO P w A s a vs fun u v => ltR (kf u) (kf v) := by
  intro h' keep
  have hv' : ∀ v ∈ vs, Flat h' v (kf v) ∧ ∃ x r, kf v = Sum.inr x :: r := fun v m => by
    obtain ⟨⟨b, o, xs, n, e, ho, hc, r1, r2⟩, q⟩ := hv v m
    exact ⟨⟨b, o, xs, n, e, keep b o (fun z => by subst z; exact ha o ho hc) ho, hc, r1, r2⟩, q⟩
  obtain ⟨fs, t, l, c⟩ := tups_txt hv'
  refine ⟨tuples' true, fun Q E hq => ?_, fun p q hp hq => ?_⟩
  · have hl : 0 < fs.length := by omega
    refine PySem.W.kat_kind (T := .type "str") t hl (fun f m => ?_) (by rfl) ?_
    · obtain ⟨x, u, rfl⟩ := c f m
      exact PySem.W.Looks.now
    · rw [show (Value.type "str" != Value.type "tuple") = true from by decide]
      exact hq
  · obtain ⟨⟨a1, o1, xs1, n1, e1, ho1, hc1, hd1, k1⟩, s1⟩ := hv' _ hp
    obtain ⟨⟨a2, o2, xs2, n2, e2, ho2, hc2, hd2, k2⟩, s2⟩ := hv' _ hq
    have cc := hc _ hp _ hq
    show wpAny (model P w) A (keyLt' (tuples' true) p.1 q.1) (fun r s' => s' = _ ∧ r = ltR (kf p.1) (kf q.1)) (fun _ _ => False) _
    rw [e1, e2] at cc
    rw [e1] at k1
    rw [e2] at k2
    rw [e1, e2]
    refine PySem.W.kat_lt ho1 hd1 ho2 hd2 ?_
    have z := lex_cmp (P := P) (w := w) (A := A) (s := { s with heap := h' }) (b := true) (i := 0) (Q := fun r s' => s' = { s with heap := h' } ∧ r = ltR (kf (.ref a1)) (kf (.ref a2))) k1 k2 cc.1 cc.2 ⟨rfl, rfl⟩
    rw [k1.len, k2.len, Array.length_toList, Array.length_toList] at z
    exact z
end
end DZ
namespace DL
open PySem PySem.Spec PyProof.Rows L2 SrtO DZ
variable {T : LT}
/-- comparable -/
def Cmp (x y : D) : Prop := ltD x y = ltR (rowD x) (rowD y) ∧ (rowD x = rowD y → x = y)
theorem insD_riseC {x : D} : ∀ {ys : List D}, (∀ y ∈ ys, Cmp y x) → Rise ys → Rise (insD x ys)
  | [], _, _ => List.pairwise_singleton _ _
  | y :: ys, hy, r => by
    obtain ⟨r1, r2⟩ := List.pairwise_cons.mp r
    have e := (hy y List.mem_cons_self).1
    unfold insD
    by_cases c : ltD y x = true
    · rw [if_pos c]
      refine List.pairwise_cons.mpr ⟨fun z m => ?_, insD_riseC (fun z m => hy z (List.mem_cons_of_mem _ m)) r2⟩
      rcases List.mem_cons.mp ((insD_perm x ys).mem_iff.mp m) with m | m
      · rw [m]
        exact (swoR rowD).asym y x (e ▸ c)
      · exact r1 z m
    · rw [if_neg c]
      have c' : ltR (rowD y) (rowD x) = false := by
        rw [← e]
        exact Bool.eq_false_iff.mpr c
      refine List.pairwise_cons.mpr ⟨fun z m => ?_, r⟩
      rcases List.mem_cons.mp m with m | m
      · rw [m]
        exact c'
      · exact (swoR rowD).tr x y z c' (r1 z m)
theorem sortD_riseC : ∀ {xs : List D}, (∀ x ∈ xs, ∀ y ∈ xs, Cmp x y) → Rise (sortD xs)
  | [], _ => List.Pairwise.nil
  | x :: xs, h => insD_riseC (fun y m => h y (List.mem_cons_of_mem _ ((sortD_perm xs).mem_iff.mp m)) x List.mem_cons_self) (sortD_riseC fun y m z m' => h y (List.mem_cons_of_mem _ m) z (List.mem_cons_of_mem _ m'))
theorem rise_eqC : ∀ {xs ys : List D}, xs.Perm ys → (∀ x ∈ xs, ∀ y ∈ xs, Cmp x y) → Rise xs → Rise ys → xs = ys
  | [], ys, p, _, _, _ => (List.nil_perm.mp p).symm
  | x :: xs, [], p, _, _, _ => absurd p (fun z => by cases List.perm_nil.mp z)
  | x :: xs, y :: ys, p, h, rx, ry => by
    obtain ⟨x1, x2⟩ := List.pairwise_cons.mp rx
    obtain ⟨y1, y2⟩ := List.pairwise_cons.mp ry
    have mx : x ∈ y :: ys := p.mem_iff.mp List.mem_cons_self
    have my : y ∈ x :: xs := p.mem_iff.mpr List.mem_cons_self
    have e : x = y := by
      rcases List.mem_cons.mp mx with m | m
      · exact m
      rcases List.mem_cons.mp my with m' | m'
      · exact m'.symm
      exact (h x List.mem_cons_self y my).2 (ltR_tri (y1 x m) (x1 y m'))
    subst e
    rw [rise_eqC ((List.perm_cons x).mp p) (fun z m z' m' => h z (List.mem_cons_of_mem _ m) z' (List.mem_cons_of_mem _ m')) x2 y2]
/-- a row (a text, an atom) -/
def pairD : D → Option (String × Bool)
  | .tup [.str s, x] => (atK x).map fun b => (s, b)
  | _ => none
def mixD (xs : List D) : Bool := xs.all fun x => match pairD x with
  | some p => xs.all fun y => match pairD y with
    | some q => decide (p.1 = q.1 → p.2 = q.2)
    | none => false
  | none => false
theorem pairD_some {x : D} {p : String × Bool} (h : pairD x = some p) : ∃ d, x = .tup [.str p.1, d] ∧ atK d = some p.2 := by
  unfold pairD at h
  split at h
  · rename_i s d
    obtain ⟨b, e, rfl⟩ := Option.map_eq_some_iff.mp h
    exact ⟨d, rfl, e⟩
  · cases h
theorem mixD_at {xs : List D} (h : mixD xs = true) : ∀ x ∈ xs, ∃ p, pairD x = some p ∧ ∀ y ∈ xs, ∃ q, pairD y = some q ∧ (p.1 = q.1 → p.2 = q.2) := fun x m => by
  have z := List.all_eq_true.mp h x m
  cases e : pairD x with
  | none =>
    rw [e] at z
    cases z
  | some p =>
    rw [e] at z
    refine ⟨p, rfl, fun y m' => ?_⟩
    have z2 := List.all_eq_true.mp z y m'
    cases e2 : pairD y with
    | none =>
      rw [e2] at z2
      cases z2
    | some q =>
      rw [e2] at z2
      exact ⟨q, rfl, of_decide_eq_true z2⟩
theorem pair_row {s : String} {d : D} {b : Bool} (h : atK d = some b) : shK [.str s, d] = some [false, b] ∧ shD (.tup [.str s, d]) = some [false, false, b] := by
  rcases atK_some h with ⟨i, rfl, rfl⟩ | ⟨t, rfl, rfl⟩ <;> exact ⟨rfl, rfl⟩
theorem cmp_pair {s t : String} {d e : D} {b c : Bool} (hd : atK d = some b) (he : atK e = some c) (h : s = t → b = c) : Cmp (.tup [.str s, d]) (.tup [.str t, e]) ∧ CmpK (rowD (.tup [.str s, d])) (rowD (.tup [.str t, e])) := by
  by_cases q : s = t
  · subst q
    obtain rfl := h rfl
    refine ⟨ltD_row (pair_row hd).2 (pair_row he).2, rfl, fun _ => ⟨?_, fun _ => trivial⟩⟩
    rcases atK_some hd with ⟨i, rfl, rfl⟩ | ⟨x, rfl, rfl⟩
    · rcases atK_some he with ⟨j, rfl, _⟩ | ⟨y, rfl, z⟩
      · rfl
      · cases z
    · rcases atK_some he with ⟨j, rfl, z⟩ | ⟨y, rfl, _⟩
      · cases z
      · rfl
  · have n : ¬ (Sum.inr (S s) : Key) = Sum.inr (S t) := fun z => q (S_inj (Sum.inr.inj z))
    have k := (ltA_key (x := .str s) (y := .str t) (b := false) rfl rfl).1
    refine ⟨⟨?_, fun z => absurd (List.cons.inj z).1 n⟩, rfl, fun z => absurd z n⟩
    show (if eqA (.str s) (.str t) = true then ltT [d] [e] else ltA (.str s) (.str t)) = (if (Sum.inr (S s) : Key) = Sum.inr (S t) then ltR [keyA d] [keyA e] else ltK (Sum.inr (S s)) (Sum.inr (S t)))
    rw [if_neg n, if_neg (show ¬ eqA (.str s) (.str t) = true from fun z => q (of_decide_eq_true z))]
    exact k
theorem cmp_mix {xs : List D} (h : mixD xs = true) : ∀ x ∈ xs, ∀ y ∈ xs, Cmp x y ∧ CmpK (rowD x) (rowD y) := fun x m y m' => by
  obtain ⟨p, e, k⟩ := mixD_at h x m
  obtain ⟨q, e2, k2⟩ := k y m'
  obtain ⟨d, rfl, hd⟩ := pairD_some e
  obtain ⟨d', rfl, hd'⟩ := pairD_some e2
  exact cmp_pair hd hd' k2
def pySortedX (G : DG) : List D → Option D
  | [x] => match asL G x with
    | some xs => if mixD xs = true then some (.lst (sortD xs)) else none
    | none => none
  | _ => none
section
variable {X : Cx}
theorem rdy_mix {pins : List (Addr × Obj)} {σ : L2.St} {H : Hp} {s s1 : Shared} {F : FS} {G : DG} {ds : List D} {vs : List V} {us : List Value} {Q : VK} (hg : RelG X.K T F G H) (I : Inv X pins σ H s1)
    (r : RelDs X.K F H ds vs) (rv : Vals vs us) (hz : vs.length ≤ sizeLine) (hom : mixD ds = true) (q : ∀ p vs', H p = none → RelDs X.K F H (sortD ds) vs' → Q (.ref p) (upd H p (.lst vs'))) :
    Rdy X.prog X.w X.A (EP X pins σ Q) us s1 := by
  obtain ⟨ps, p1, p2, p3, pr⟩ := triples r rv
  have len : us.length = vs.length := rv.length.symm
  have inn : ∀ p ∈ ps, p.1 ∈ ds := fun p m => p1 ▸ List.mem_map.mpr ⟨p, m, rfl⟩
  have flat : ∀ p ∈ ps, Flat s1.heap p.2.2 (rowD p.1) ∧ ∃ x r, rowD p.1 = Sum.inr x :: r := fun p m => by
    obtain ⟨rd, rq⟩ := pr p m
    obtain ⟨c, e, _⟩ := mixD_at hom p.1 (inn p m)
    obtain ⟨d, ed, hd⟩ := pairD_some e
    rw [ed] at rd ⊢
    exact ⟨(tup_flat I (pair_row hd).1 rd rq).1, _, _, rfl⟩
  have rows : ∀ p ∈ ps, kfH s1.heap p.2.2 = rowD p.1 := fun p m => kfH_flat (flat p m).1
  refine ⟨by rw [len]; exact hz, fun u v => ltR (kfH s1.heap u) (kfH s1.heap v), swoR _, fun h2 h₁ a ha keep => ?_, fun h' p c out k hp hc hs hb => ?_⟩
  · have un : ∀ u ∈ us, ∃ p ∈ ps, p.2.2 = u := fun u m => by
      rw [← p3] at m
      obtain ⟨p, m, e⟩ := List.mem_map.mp m
      exact ⟨p, m, e⟩
    refine sortable_mix (s := { s1 with heap := h₁ }) (kf := kfH s1.heap) (fun u mu => ?_) (fun u mu v mv => ?_) h2 fun o e c => ?_
    · obtain ⟨p, mp, rfl⟩ := un u mu
      obtain ⟨f, x, r, e⟩ := flat p mp
      rw [rows p mp]
      refine ⟨?_, x, r, e⟩
      obtain ⟨b, o, xs, k, e1, ho, hc, hd', ka⟩ := f
      exact ⟨b, o, xs, k, e1, (keep b o ho).2, hc, hd', ka⟩
    · obtain ⟨p, mp, rfl⟩ := un u mu
      obtain ⟨p', mp', rfl⟩ := un v mv
      rw [rows p mp, rows p' mp']
      refine ⟨?_, (cmp_mix hom _ (inn p mp) _ (inn p' mp')).2⟩
      obtain ⟨c, e, _⟩ := mixD_at hom p.1 (inn p mp)
      obtain ⟨d, ed, hd⟩ := pairD_some e
      obtain ⟨c', e', _⟩ := mixD_at hom p'.1 (inn p' mp')
      obtain ⟨d', ed', hd'⟩ := pairD_some e'
      rw [ed, ed']
      rfl
    · have e' : some o = some (seqObj "list" us.toArray 0) := e.symm.trans ha
      cases e'
      exact absurd (Value.type.inj c) (by decide)
  · have pm : out.Perm (ps.map (·.2.2)) := by
      rw [p3]
      exact hb.perm
    obtain ⟨qs, q1, q2⟩ := perm_pull pm ps rfl
    have qr : ∀ p ∈ qs, RelD X.K F H p.1 p.2.1 ∧ RelV p.2.1 p.2.2 := fun p m => pr p (q1.mem_iff.mp m)
    have qrow : ∀ p ∈ qs, kfH s1.heap p.2.2 = rowD p.1 := fun p m => rows p (q1.mem_iff.mp m)
    have sub : ∀ x ∈ qs.map (·.1), x ∈ ds := fun x m => by
      obtain ⟨p, mp, e⟩ := List.mem_map.mp m
      exact e ▸ inn p (q1.mem_iff.mp mp)
    have rise : Rise (qs.map (·.1)) := by
      refine List.pairwise_map.mpr ?_
      rw [← q2] at hs
      refine (List.pairwise_map.mp hs).imp_of_mem fun {x y} mx my e => ?_
      have e : ltR (kfH s1.heap y.2.2) (kfH s1.heap x.2.2) = false := e
      rw [qrow x mx, qrow y my] at e
      exact e
    have eq : qs.map (·.1) = sortD ds := by
      refine rise_eqC ?_ (fun x m y m' => (cmp_mix hom x (sub x m) y (sub y m')).1) rise (sortD_riseC fun x m y m' => (cmp_mix hom x m y m').1)
      have z := q1.map (·.1)
      rw [p1] at z
      exact z.trans (sortD_perm ds).symm
    obtain ⟨u1, u2⟩ := untriple qr
    rw [q2] at u2
    rw [eq] at u1
    have nf : H p = none := I.hok.fresh hp
    have l2 : (qs.map (·.2.1)).length ≤ sizeLine := by
      rw [List.length_map, q1.length_eq, ← List.length_map (f := fun p : D × V × Value => p.2.1), p2]
      exact hz
    refine ⟨.ref p, upd H p (.lst (qs.map (·.2.1))), I.laid (t' := s1.toks) k hp ⟨l2, out, c, u2, hc⟩, rfl, q _ _ nf u1⟩
theorem call_pySortedX (hc : X.calm = true) : CallR X (.builtin "sorted") (rDB X.K T pySortedX) := by
  rintro pins s σ H xs us Q I rs ⟨F, G, ds, z, hg, r, e, q⟩
  unfold pySortedX at e
  split at e
  · rename_i x
    obtain ⟨v, rfl, rv⟩ := r.one
    cases e1 : asL G x with
    | none =>
      rw [e1] at e
      cases e
    | some ys =>
      rw [e1] at e
      dsimp only at e
      by_cases hom : mixD ys = true
      · rw [if_pos hom] at e
        cases e
        have hd : X.A.in1.handled = none := by simp [I.ok.hd hc]
        obtain ⟨a, vs, rfl, h, k⟩ := asL_ok hg rv e1
        obtain rfl : us = [Value.ref a] := Vals.ref1 rs
        refine sortedV ?_
        obtain ⟨its, r', pl, hz⟩ := I.list (.inl h)
        obtain ⟨o, ho, hcl, n, hdt⟩ := pl.isList
        refine wpAny_collect_seq a (.inl rfl) ho hcl hdt (fun h' kp => ?_) (by rw [List.size_toArray, ← r'.length]; exact hz)
        exact rdy_mix (s := s) hg (I.kept (t' := s.toks) kp) k r' hz hom fun p vs' nf u1 => q _ _ _ (Step.new nf) (hg.new nf) (relD_newLst hg nf u1)
      · rw [if_neg hom] at e
        cases e
  · cases e
end
end DL

open PySem in
theorem DL.bootVE : bootBuiltins "ValueError" = some (.type "ValueError") := by decide +kernel
namespace K03
open PySem PySem.Spec PyProof.Rows L2 LamX HotX L2H DL
structure Fx (P : Program) (w : World) (K : PySem.W.Frag) (T : LT) (mg : Str → Option Value) (base : Heap) : Prop where
  free : ∀ x ∈ ["ValueError", "all", "bool", "enumerate", "int", "isinstance", "len", "max", "min", "range", "set", "sorted", "str", "sum", "tuple", "zip"], mg (Str.ofString x) = none
  gi_MOST_ROOM : ∃ t, mg "MOST_ROOM" = some (.int 60 t)
  gs_SIGNS : ∃ t, mg "SIGNS" = some (.str (Str.ofString "?!<>") t)
  gs_SMALL : ∃ t, mg "SMALL" = some (.str (Str.ofString "abcdefghijklmnopqrstuvwxyz") t)
  tu_SORTS : TupG K mg "SORTS" (.tup [(.str "ask"), (.str "tell"), (.str "look"), (.str "mark")])
  xc_BadRights : XcK K mg "BadRights"
  cl_Cage : Cls K (He.ga K (S "Cage"))
  cl_Shared : Cls K (He.ga K (S "Shared"))
  mk_Cage : Mk K (He.ga K (S "Cage")) (He.fAd K (S "Cage", some "__init__"))
  mg_Cage : mg (S "Cage") = some (.ref (He.ga K (S "Cage")))
  mk_Shared : Mk K (He.ga K (S "Shared")) (He.fAd K (S "Shared", some "__init__"))
  mg_Shared : mg (S "Shared") = some (.ref (He.ga K (S "Shared")))
  fl_boxes : ∀ c ∈ ["Shared"], Cls K (He.ga K (S c)) ∧ NoAttr K (He.ga K (S c)) (S "boxes")
  fl_given : ∀ c ∈ ["Cage"], Cls K (He.ga K (S c)) ∧ NoAttr K (He.ga K (S c)) (S "given")
  fl_sheets : ∀ c ∈ ["Shared"], Cls K (He.ga K (S c)) ∧ NoAttr K (He.ga K (S c)) (S "sheets")
  fl_table : ∀ c ∈ ["Cage"], Cls K (He.ga K (S c)) ∧ NoAttr K (He.ga K (S c)) (S "table")
  fl_world : ∀ c ∈ ["Cage"], Cls K (He.ga K (S c)) ∧ NoAttr K (He.ga K (S c)) (S "world")
  fd__law_door_pool : ∃ fd, FunD K "_law_door_pool" "_law_door_pool" (defArgs s__law_door_pool) (defBody s__law_door_pool) (defScope s__law_door_pool) [] [] (He.fAd K ("_law_door_pool", none)) fd
  mg__law_door_pool : mg "_law_door_pool" = some (.ref (He.ga K "_law_door_pool"))
  fd__law_page_pool : ∃ fd, FunD K "_law_page_pool" "_law_page_pool" (defArgs s__law_page_pool) (defBody s__law_page_pool) (defScope s__law_page_pool) [] [] (He.fAd K ("_law_page_pool", none)) fd
  mg__law_page_pool : mg "_law_page_pool" = some (.ref (He.ga K "_law_page_pool"))
  fd__law_drawn : ∃ fd, FunD K "_law_drawn" "_law_drawn" (defArgs s__law_drawn) (defBody s__law_drawn) (defScope s__law_drawn) [] [] (He.fAd K ("_law_drawn", none)) fd
  mg__law_drawn : mg "_law_drawn" = some (.ref (He.ga K "_law_drawn"))
  fd__law_roll : ∃ fd, FunD K "_law_roll" "_law_roll" (defArgs s__law_roll) (defBody s__law_roll) (defScope s__law_roll) [] [] (He.fAd K ("_law_roll", none)) fd
  mg__law_roll : mg "_law_roll" = some (.ref (He.ga K "_law_roll"))
  fd__law_some_of : ∃ fd, FunD K "_law_some_of" "_law_some_of" (defArgs s__law_some_of) (defBody s__law_some_of) (defScope s__law_some_of) [] [] (He.fAd K ("_law_some_of", none)) fd
  mg__law_some_of : mg "_law_some_of" = some (.ref (He.ga K "_law_some_of"))
  fd__law_any_rights : ∃ fd, FunD K "_law_any_rights" "_law_any_rights" (defArgs s__law_any_rights) (defBody s__law_any_rights) (defScope s__law_any_rights) [] [] (He.fAd K ("_law_any_rights", none)) fd
  mg__law_any_rights : mg "_law_any_rights" = some (.ref (He.ga K "_law_any_rights"))
  fd__law_has : ∃ fd, FunD K "_law_has" "_law_has" (defArgs s__law_has) (defBody s__law_has) (defScope s__law_has) [] [] (He.fAd K ("_law_has", none)) fd
  mg__law_has : mg "_law_has" = some (.ref (He.ga K "_law_has"))
  fd_Shared___init__ : ∃ fd, FunD K "__init__" "Shared.__init__" (defArgs s_Shared___init__) (defBody s_Shared___init__) (defScope s_Shared___init__) [] [] (He.fAd K ("Shared", some "__init__")) fd
  fd_is_word : ∃ fd, FunD K "is_word" "is_word" (defArgs s_is_word) (defBody s_is_word) (defScope s_is_word) [] [] (He.fAd K ("is_word", none)) fd
  mg_is_word : mg "is_word" = some (.ref (He.ga K "is_word"))
  fd_is_row : ∃ fd, FunD K "is_row" "is_row" (defArgs s_is_row) (defBody s_is_row) (defScope s_is_row) [] [] (He.fAd K ("is_row", none)) fd
  mg_is_row : mg "is_row" = some (.ref (He.ga K "is_row"))
  fd_is_whole : ∃ fd, FunD K "is_whole" "is_whole" (defArgs s_is_whole) (defBody s_is_whole) (defScope s_is_whole) [] [] (He.fAd K ("is_whole", none)) fd
  mg_is_whole : mg "is_whole" = some (.ref (He.ga K "is_whole"))
  fd_is_rights : ∃ fd, FunD K "is_rights" "is_rights" (defArgs s_is_rights) (defBody s_is_rights) (defScope s_is_rights) [] [] (He.fAd K ("is_rights", none)) fd
  mg_is_rights : mg "is_rights" = some (.ref (He.ga K "is_rights"))
  fd_need_rights : ∃ fd, FunD K "need_rights" "need_rights" (defArgs s_need_rights) (defBody s_need_rights) (defScope s_need_rights) [] [] (He.fAd K ("need_rights", none)) fd
  mg_need_rights : mg "need_rights" = some (.ref (He.ga K "need_rights"))
  fd_Cage___init__ : ∃ fd, FunD K "__init__" "Cage.__init__" (defArgs s_Cage___init__) (defBody s_Cage___init__) (defScope s_Cage___init__) [] [] (He.fAd K ("Cage", some "__init__")) fd
  fd__law_term : ∃ fd, FunD K "_law_term" "_law_term" (defArgs s__law_term) (defBody s__law_term) (defScope s__law_term) [] [] (He.fAd K ("_law_term", none)) fd
  mg__law_term : mg "_law_term" = some (.ref (He.ga K "_law_term"))
  fd__law_told : ∃ fd, FunD K "_law_told" "_law_told" (defArgs s__law_told) (defBody s__law_told) (defScope s__law_told) [] [] (He.fAd K ("_law_told", none)) fd
  mg__law_told : mg "_law_told" = some (.ref (He.ga K "_law_told"))
  fd_excess_of : ∃ fd, FunD K "excess_of" "excess_of" (defArgs s_excess_of) (defBody s_excess_of) (defScope s_excess_of) [] [] (He.fAd K ("excess_of", none)) fd
  mg_excess_of : mg "excess_of" = some (.ref (He.ga K "excess_of"))
  fd_need_both : ∃ fd, FunD K "need_both" "need_both" (defArgs s_need_both) (defBody s_need_both) (defScope s_need_both) [] [] (He.fAd K ("need_both", none)) fd
  mg_need_both : mg "need_both" = some (.ref (He.ga K "need_both"))
  fd_beyond : ∃ fd, FunD K "beyond" "beyond" (defArgs s_beyond) (defBody s_beyond) (defScope s_beyond) [] [] (He.fAd K ("beyond", none)) fd
  mg_beyond : mg "beyond" = some (.ref (He.ga K "beyond"))
  fd_joined : ∃ fd, FunD K "joined" "joined" (defArgs s_joined) (defBody s_joined) (defScope s_joined) [] [] (He.fAd K ("joined", none)) fd
  mg_joined : mg "joined" = some (.ref (He.ga K "joined"))
  fd_met_of : ∃ fd, FunD K "met_of" "met_of" (defArgs s_met_of) (defBody s_met_of) (defScope s_met_of) [] [] (He.fAd K ("met_of", none)) fd
  mg_met_of : mg "met_of" = some (.ref (He.ga K "met_of"))
  fd_met : ∃ fd, FunD K "met" "met" (defArgs s_met) (defBody s_met) (defScope s_met) [] [] (He.fAd K ("met", none)) fd
  mg_met : mg "met" = some (.ref (He.ga K "met"))
  fd_rights_text : ∃ fd, FunD K "rights_text" "rights_text" (defArgs s_rights_text) (defBody s_rights_text) (defScope s_rights_text) [] [] (He.fAd K ("rights_text", none)) fd
  mg_rights_text : mg "rights_text" = some (.ref (He.ga K "rights_text"))
  fd_within : ∃ fd, FunD K "within" "within" (defArgs s_within) (defBody s_within) (defScope s_within) [] [] (He.fAd K ("within", none)) fd
  mg_within : mg "within" = some (.ref (He.ga K "within"))
  fd__law_rights_refused : ∃ fd, FunD K "_law_rights_refused" "_law_rights_refused" (defArgs s__law_rights_refused) (defBody s__law_rights_refused) (defScope s__law_rights_refused) [] [] (He.fAd K ("_law_rights_refused", none)) fd
  mg__law_rights_refused : mg "_law_rights_refused" = some (.ref (He.ga K "_law_rights_refused"))
  fd__law_cell : ∃ fd, FunD K "_law_cell" "_law_cell" (defArgs s__law_cell) (defBody s__law_cell) (defScope s__law_cell) [] [] (He.fAd K ("_law_cell", none)) fd
  mg__law_cell : mg "_law_cell" = some (.ref (He.ga K "_law_cell"))
  fd__law_rounds : ∃ fd, FunD K "_law_rounds" "_law_rounds" (defArgs s__law_rounds) (defBody s__law_rounds) (defScope s__law_rounds) [] [] (He.fAd K ("_law_rounds", none)) fd
  mg__law_rounds : mg "_law_rounds" = some (.ref (He.ga K "_law_rounds"))
  fd_law : ∃ fd, FunD K "law" "law" (defArgs s_law) (defBody s_law) (defScope s_law) [] [] (He.fAd K ("law", none)) fd
  mg_law : mg "law" = some (.ref (He.ga K "law"))
  told : ToldK K
  mgC : ∀ c ∈ kinds13 ++ ["CageError"], mg (Str.ofString c) = some (.ref (He.ga K (S c)))
  lamt_law : ∃ P, TabB base mg (He.codeOf K ("law", none)) P ∧ (P, Str.ofString "law.<locals>.<lambda>") ∈ T ∧ ∀ p ∈ T, p.1 = P → p.2 = Str.ofString "law.<locals>.<lambda>"
  lamt__law_rights_refused : ∃ P, TabB base mg (He.codeOf K ("_law_rights_refused", none)) P ∧ (P, Str.ofString "_law_rights_refused.<locals>.<lambda>") ∈ T ∧ ∀ p ∈ T, p.1 = P → p.2 = Str.ofString "_law_rights_refused.<locals>.<lambda>"
section
variable {P : Program} {w : World} {K : PySem.W.Frag} {T : LT} {mg : Str → Option Value} {base : Heap}
def t__law_door_pool : DTS := (sRet (dLst (dCons (dC (.str "bus")) (dCons (dC (.str "in")) (dCons (dC (.str "out")) dNil)))))
abbrev sp__law_door_pool : DSp := spOf [] 0 t__law_door_pool
def e__law_door_pool : List D → Option (Except DX D) := fnE [] 0 (xRet (eLst (eCons (eC (.str "bus")) (eCons (eC (.str "in")) (eCons (eC (.str "out")) (eC []))))))
theorem ev__law_door_pool : EvF sp__law_door_pool e__law_door_pool := evf (xv_ret (ev_lst (ev_cons (ev_c _) (ev_cons (ev_c _) (ev_cons (ev_c _) (ev_nil))))))
theorem sc__law_door_pool : FnScope [] [] (defScope s__law_door_pool) := ⟨rfl, rfl, rfl, by decide +kernel, rfl, by decide +kernel, by decide +kernel⟩
theorem _law_door_pool_fa (fx : Fx P w K T mg base) : DFa P w K T mg base 1 ("_law_door_pool", none) [] sp__law_door_pool :=
  dfa_of fx.fd__law_door_pool sc__law_door_pool (fun _ _ _ _ _ _ us hl => match us, hl with | [], _ => rfl) (fun cdv A outer s H E hcd hr => (qs_one (qs_ret (q_lst (qa_cons (q_str) (qa_cons (q_str) (qa_cons (q_str) qa_nil)))))))
theorem _law_door_pool_ok (fx : Fx P w K T mg base) : DFn P w K T mg base 1 "_law_door_pool" [] sp__law_door_pool := (_law_door_pool_fa fx).fn fx.mg__law_door_pool
def t__law_page_pool : DTS := (sRet (dLst (dCons (dC (.str "log")) (dCons (dC (.str "sky")) dNil))))
abbrev sp__law_page_pool : DSp := spOf [] 0 t__law_page_pool
def e__law_page_pool : List D → Option (Except DX D) := fnE [] 0 (xRet (eLst (eCons (eC (.str "log")) (eCons (eC (.str "sky")) (eC [])))))
theorem ev__law_page_pool : EvF sp__law_page_pool e__law_page_pool := evf (xv_ret (ev_lst (ev_cons (ev_c _) (ev_cons (ev_c _) (ev_nil)))))
theorem sc__law_page_pool : FnScope [] [] (defScope s__law_page_pool) := ⟨rfl, rfl, rfl, by decide +kernel, rfl, by decide +kernel, by decide +kernel⟩
theorem _law_page_pool_fa (fx : Fx P w K T mg base) : DFa P w K T mg base 1 ("_law_page_pool", none) [] sp__law_page_pool :=
  dfa_of fx.fd__law_page_pool sc__law_page_pool (fun _ _ _ _ _ _ us hl => match us, hl with | [], _ => rfl) (fun cdv A outer s H E hcd hr => (qs_one (qs_ret (q_lst (qa_cons (q_str) (qa_cons (q_str) qa_nil))))))
theorem _law_page_pool_ok (fx : Fx P w K T mg base) : DFn P w K T mg base 1 "_law_page_pool" [] sp__law_page_pool := (_law_page_pool_fa fx).fn fx.mg__law_page_pool
def t__law_drawn : DTS := (sSeq (sSet 2 (dOp pyMod (dOp pyAdd (dOp pyMul (dVar 0) (dC (.int 6364136223846793005))) (dOp pyMul (dOp pyAdd (dVar 1) (dC (.int 1))) (dC (.int 1442695040888963407)))) (dC (.int 340282366920938463463374607431768211507)))) (sSeq (sSet 2 (dOp pyMod (dOp pyMul (dVar 2) (dVar 2)) (dC (.int 340282366920938463463374607431768211297)))) (sSeq (sSet 2 (dOp pyMul (dOp pyMul (dOp pyAdd (dOp pyMod (dVar 2) (dC (.int 18446744073709551557))) (dC (.int 1))) (dOp pyAdd (dOp pyDiv (dVar 2) (dC (.int 18446744073709551557))) (dC (.int 1)))) (dVar 2))) (sRet (dOp pyMod (dVar 2) (dC (.int 340282366920938463463374607431768211507)))))))
abbrev sp__law_drawn : DSp := spOf ["cell", "k", "more"] 2 t__law_drawn
theorem sc__law_drawn : FnScope ["cell", "k", "more"] ["cell", "k"] (defScope s__law_drawn) := ⟨rfl, rfl, rfl, by decide +kernel, rfl, by decide +kernel, by decide +kernel⟩
theorem _law_drawn_fa (fx : Fx P w K T mg base) : DFa P w K T mg base 1 ("_law_drawn", none) ["cell", "k"] sp__law_drawn :=
  dfa_of fx.fd__law_drawn sc__law_drawn (fun _ _ _ _ _ _ us hl => match us, hl with | [_, _], _ => rfl) (fun cdv A outer s H E hcd hr => (qs_cons (qs_set sc__law_drawn.nd rfl (by first | exact Or.inl rfl | exact Or.inr rfl) (q_op op_pyMod (q_op op_pyAdd (q_op op_pyMul (qv 0) (q_int)) (q_op op_pyMul (q_op op_pyAdd (qv 1) (q_int)) (q_int))) (q_int))) (qs_cons (qs_set sc__law_drawn.nd rfl (by first | exact Or.inl rfl | exact Or.inr rfl) (q_op op_pyMod (q_op op_pyMul (qv 2) (qv 2)) (q_int))) (qs_cons (qs_set sc__law_drawn.nd rfl (by first | exact Or.inl rfl | exact Or.inr rfl) (q_op op_pyMul (q_op op_pyMul (q_op op_pyAdd (q_op op_pyMod (qv 2) (q_int)) (q_int)) (q_op op_pyAdd (q_op op_pyDiv (qv 2) (q_int)) (q_int))) (qv 2))) (qs_one (qs_ret (q_op op_pyMod (qv 2) (q_int))))))))
theorem _law_drawn_ok (fx : Fx P w K T mg base) : DFn P w K T mg base 1 "_law_drawn" ["cell", "k"] sp__law_drawn := (_law_drawn_fa fx).fn fx.mg__law_drawn
def t__law_roll : DTS := (sSeq (sIf (dTest (dOp pyGe (dOp pyItem (dVar 0) (dC (.int 0))) (dOp pyPow (dC (.int 10)) (dC (.int 18))))) (sSeq (sSet 2 (dOp pyMod (dOp pyItem (dVar 0) (dC (.int 0))) (dVar 1))) (sSeq (sSub (dOp pyDiv (dOp pyItem (dVar 0) (dC (.int 0))) (dVar 1)) (dVar 0) (dC (.int 0))) (sRet (dVar 2)))) sNext) (sSeq (sSub (dOp pyAdd (dOp pyItem (dVar 0) (dC (.int 1))) (dC (.int 1))) (dVar 0) (dC (.int 1))) (sRet (dOp pyMod (dOp pyDiv (dCall sp__law_drawn (dCons (dOp pyItem (dVar 0) (dC (.int 0))) (dCons (dOp pyItem (dVar 0) (dC (.int 1))) dNil))) (dC (.int 8))) (dVar 1)))))
abbrev sp__law_roll : DSp := spOf ["dice", "many", "told"] 2 t__law_roll
theorem sc__law_roll : FnScope ["dice", "many", "told"] ["dice", "many"] (defScope s__law_roll) := ⟨rfl, rfl, rfl, by decide +kernel, rfl, by decide +kernel, by decide +kernel⟩
theorem _law_roll_fa (fx : Fx P w K T mg base) : DFa P w K T mg base 2 ("_law_roll", none) ["dice", "many"] sp__law_roll :=
  dfa_of fx.fd__law_roll sc__law_roll (fun _ _ _ _ _ _ us hl => match us, hl with | [_, _], _ => rfl) (fun cdv A outer s H E hcd hr => (qs_cons (qs_if (q_cmpT op_pyGe (q_item (hu_of hr) (qv 0) (q_int)) (q_op op_pyPow (q_int) (q_int)) (nomark _)) (qs_cons (qs_set sc__law_roll.nd rfl (by first | exact Or.inl rfl | exact Or.inr rfl) (q_op op_pyMod (q_item (hu_of hr) (qv 0) (q_int)) (qv 1))) (qs_cons (qs_sub (hu_of hr) (q_op op_pyDiv (q_item (hu_of hr) (qv 0) (q_int)) (qv 1)) (qv 0) (q_int)) (qs_one (qs_ret (qv 2))))) qs_nil) (qs_cons (qs_sub (hu_of hr) (q_op op_pyAdd (q_item (hu_of hr) (qv 0) (q_int)) (q_int)) (qv 0) (q_int)) (qs_one (qs_ret (q_op op_pyMod (q_op op_pyDiv (q_call (_law_drawn_ok fx) hr (by decide) (LN.takes_of rfl rfl rfl rfl) rfl (qa_cons (q_item (hu_of hr) (qv 0) (q_int)) (qa_cons (q_item (hu_of hr) (qv 0) (q_int)) qa_nil))) (q_int)) (qv 1)))))))
theorem _law_roll_ok (fx : Fx P w K T mg base) : DFn P w K T mg base 2 "_law_roll" ["dice", "many"] sp__law_roll := (_law_roll_fa fx).fn fx.mg__law_roll
def t__law_some_of : DTS := (sRet (dB pyTup (dCons (dLc (dIter (dVar 1)) (.n 2) (dTest (dOp pyGt (dCall sp__law_roll (dCons (dVar 0) (dCons (dC (.int 3)) dNil))) (dC (.int 0)))) (dVar 2) [2]) dNil)))
abbrev sp__law_some_of : DSp := spOf ["dice", "words", "word"] 2 t__law_some_of
theorem sc__law_some_of : FnScope ["dice", "words", "word"] ["dice", "words"] (defScope s__law_some_of) := ⟨rfl, rfl, rfl, by decide +kernel, rfl, by decide +kernel, by decide +kernel⟩
theorem _law_some_of_fa (fx : Fx P w K T mg base) : DFa P w K T mg base 3 ("_law_some_of", none) ["dice", "words"] sp__law_some_of :=
  dfa_of fx.fd__law_some_of sc__law_some_of (fun _ _ _ _ _ _ us hl => match us, hl with | [_, _], _ => rfl) (fun cdv A outer s H E hcd hr => (qs_one (qs_ret (q_callTy call_pyTup rfl (fx.free "tuple" (by decide)) boot_tuple (qa_cons (q_lc [("word", 2)] rfl sc__law_some_of.nd (qi_it (qv 1)) (blkOk_by (by kernel_rfl)) rfl (fun s H C cl fp => (pg_name sc__law_some_of.nd rfl (by first | exact Or.inl rfl | exact Or.inr rfl))) (fun s H C cl fp => (qts_one (q_cmpT op_pyGt (q_call (_law_roll_ok fx) hr (by decide) takesF rfl (qa_cons (qv 0) (qa_cons (q_int) qa_nil))) (q_int) (nomark _)))) (fun s H C cl fp => (qv 2))) qa_nil)))))
theorem _law_some_of_ok (fx : Fx P w K T mg base) : DFn P w K T mg base 3 "_law_some_of" ["dice", "words"] sp__law_some_of := (_law_some_of_fa fx).fn fx.mg__law_some_of
def t__law_any_rights : DTS := (sSeq (sPar [1, 2] (dCons (dCall sp__law_door_pool dNil) (dCons (dCall sp__law_page_pool dNil) dNil))) (sSeq (sSet 3 (dLst (dCons (dCall sp__law_some_of (dCons (dVar 0) (dCons (dVar 1) dNil))) (dCons (dCall sp__law_some_of (dCons (dVar 0) (dCons (dVar 1) dNil))) dNil)))) (sSeq (sSet 3 (dOp pyAdd (dVar 3) (dLst (dCons (dCall sp__law_some_of (dCons (dVar 0) (dCons (dVar 2) dNil))) (dCons (dCall sp__law_some_of (dCons (dVar 0) (dCons (dVar 2) dNil))) dNil))))) (sRet (dOp pyAdd (dTup (dCons (dCall sp__law_roll (dCons (dVar 0) (dCons (dC (.int 7)) dNil))) dNil)) (dB pyTup (dCons (dVar 3) dNil)))))))
abbrev sp__law_any_rights : DSp := spOf ["dice", "doors", "sheets", "rows"] 1 t__law_any_rights
theorem sc__law_any_rights : FnScope ["dice", "doors", "sheets", "rows"] ["dice"] (defScope s__law_any_rights) := ⟨rfl, rfl, rfl, by decide +kernel, rfl, by decide +kernel, by decide +kernel⟩
theorem _law_any_rights_fa (fx : Fx P w K T mg base) : DFa P w K T mg base 4 ("_law_any_rights", none) ["dice"] sp__law_any_rights :=
  dfa_of fx.fd__law_any_rights sc__law_any_rights (fun _ _ _ _ _ _ us hl => match us, hl with | [_], _ => rfl) (fun cdv A outer s H E hcd hr => (qs_cons (qs_par rfl sc__law_any_rights.nd rfl rfl (by decide) rfl rfl (qa_cons (q_call0 (_law_door_pool_ok fx) hr (by decide) (LN.takes_of rfl rfl rfl rfl) rfl) (qa_cons (q_call0 (_law_page_pool_ok fx) hr (by decide) (LN.takes_of rfl rfl rfl rfl) rfl) qa_nil)) rfl) (qs_cons (qs_set sc__law_any_rights.nd rfl (by first | exact Or.inl rfl | exact Or.inr rfl) (q_lst (qa_cons (q_call (_law_some_of_ok fx) hr (by decide) (LN.takes_of rfl rfl rfl rfl) rfl (qa_cons (qv 0) (qa_cons (qv 1) qa_nil))) (qa_cons (q_call (_law_some_of_ok fx) hr (by decide) (LN.takes_of rfl rfl rfl rfl) rfl (qa_cons (qv 0) (qa_cons (qv 1) qa_nil))) qa_nil)))) (qs_cons (qs_set sc__law_any_rights.nd rfl (by first | exact Or.inl rfl | exact Or.inr rfl) (q_op op_pyAdd (qv 3) (q_lst (qa_cons (q_call (_law_some_of_ok fx) hr (by decide) (LN.takes_of rfl rfl rfl rfl) rfl (qa_cons (qv 0) (qa_cons (qv 2) qa_nil))) (qa_cons (q_call (_law_some_of_ok fx) hr (by decide) (LN.takes_of rfl rfl rfl rfl) rfl (qa_cons (qv 0) (qa_cons (qv 2) qa_nil))) qa_nil))))) (qs_one (qs_ret (q_op op_pyAdd (q_tup (qa_cons (q_call (_law_roll_ok fx) hr (by decide) (LN.takes_of rfl rfl rfl rfl) rfl (qa_cons (qv 0) (qa_cons (q_int) qa_nil))) qa_nil)) (q_callTy call_pyTup rfl (fx.free "tuple" (by decide)) boot_tuple (qa_cons (qv 3) qa_nil)))))))))
theorem _law_any_rights_ok (fx : Fx P w K T mg base) : DFn P w K T mg base 4 "_law_any_rights" ["dice"] sp__law_any_rights := (_law_any_rights_fa fx).fn fx.mg__law_any_rights
def t__law_has : DTS := (sSeq (sSet 1 (dLst dNil)) (sSeq (sFor (dEnum (dCons (dLst (dCons (dC (.str "ask")) (dCons (dC (.str "tell")) (dCons (dC (.str "look")) (dCons (dC (.str "mark")) dNil))))) dNil)) (.t [2, 3]) (sSet 1 (dOp pyAdd (dVar 1) (dLc (dIter (dOp pyItem (dVar 0) (dOp pyAdd (dVar 2) (dC (.int 1))))) (.n 4) dYes (dTup (dCons (dVar 3) (dCons (dVar 4) dNil))) [4])))) (sRet (dB pySorted (dCons (dVar 1) dNil)))))
abbrev sp__law_has : DSp := spOf ["rights", "found", "at", "sort", "word"] 1 t__law_has
theorem sc__law_has : FnScope ["rights", "found", "at", "sort", "word"] ["rights"] (defScope s__law_has) := ⟨rfl, rfl, rfl, by decide +kernel, rfl, by decide +kernel, by decide +kernel⟩
theorem _law_has_fa (fx : Fx P w K T mg base) : DFa P w K T mg base 1 ("_law_has", none) ["rights"] sp__law_has :=
  dfa_of fx.fd__law_has sc__law_has (fun _ _ _ _ _ _ us hl => match us, hl with | [_], _ => rfl) (fun cdv A outer s H E hcd hr => (qs_cons (qs_set sc__law_has.nd rfl (by first | exact Or.inl rfl | exact Or.inr rfl) (q_lst qa_nil)) (qs_cons (qs_for (passes_of rfl) rfl (qi_enum rfl (fx.free "enumerate" (by decide)) (qa_cons (q_lst (qa_cons (q_str) (qa_cons (q_str) (qa_cons (q_str) (qa_cons (q_str) qa_nil))))) qa_nil)) (pg_tup rfl (pgs_cons (pg_name sc__law_has.nd rfl (by first | exact Or.inl rfl | exact Or.inr rfl)) (pgs_cons (pg_name sc__law_has.nd rfl (by first | exact Or.inl rfl | exact Or.inr rfl)) pgs_nil))) (qs_one (qs_set sc__law_has.nd rfl (by first | exact Or.inl rfl | exact Or.inr rfl) (q_op op_pyAdd (qv 1) (q_lc [("word", 4)] rfl sc__law_has.nd (qi_it (q_item (hu_of hr) (qv 0) (q_op op_pyAdd (qv 2) (q_int)))) (blkOk_by (by kernel_rfl)) rfl (fun s H C cl fp => (pg_name sc__law_has.nd rfl (by first | exact Or.inl rfl | exact Or.inr rfl))) (fun s H C cl fp => qts_nil) (fun s H C cl fp => (q_tup (qa_cons (qv 3) (qa_cons (qv 4) qa_nil))))))))) (qs_one (qs_ret (q_callB (call_pySorted rfl) rfl (fx.free "sorted" (by decide)) boot_sorted (qa_cons (qv 1) qa_nil)))))))
theorem _law_has_ok (fx : Fx P w K T mg base) : DFn P w K T mg base 1 "_law_has" ["rights"] sp__law_has := (_law_has_fa fx).fn fx.mg__law_has
def t_Shared___init__ : DTS := (sSeq (sFldS ["Shared"] "boxes" (dVar 0) (dDct0B)) (sFldS ["Shared"] "sheets" (dVar 0) (dDct0B)))
abbrev sp_Shared___init__ : DSp := spOf ["self"] 1 t_Shared___init__
theorem sc_Shared___init__ : FnScope ["self"] ["self"] (defScope s_Shared___init__) := ⟨rfl, rfl, rfl, by decide +kernel, rfl, by decide +kernel, by decide +kernel⟩
theorem Shared___init___fa (fx : Fx P w K T mg base) : DFa P w K T mg base 1 ("Shared", some "__init__") ["self"] sp_Shared___init__ :=
  dfa_of fx.fd_Shared___init__ sc_Shared___init__ (fun _ _ _ _ _ _ us hl => match us, hl with | [_], _ => rfl) (fun cdv A outer s H E hcd hr => (qs_cons (qs_fld (qv 0) (q_dct0B) fx.fl_boxes) (qs_one (qs_fld (qv 0) (q_dct0B) fx.fl_sheets))))
theorem Shared___init___ok (fx : Fx P w K T mg base) : DFa P w K T mg base 1 ("Shared", some "__init__") ["self"] sp_Shared___init__ := Shared___init___fa fx
def t_is_word : DTS := (sRet (dAndV (dUn (pyIsi "str") (dVar 0)) (dAndV (dChain pyLe pyLe (dC (.int 1)) (dB pyLen (dCons (dVar 0) dNil)) (dC (.int 8))) (dB pyAll (dCons (dLc (dIter (dVar 0)) (.n 1) dYes (dOp pyIn (dVar 1) (dC (.str "abcdefghijklmnopqrstuvwxyz"))) [1]) dNil)))))
abbrev sp_is_word : DSp := spOf ["thing", "sign"] 1 t_is_word
def e_is_word : List D → Option (Except DX D) := fnE ["thing", "sign"] 1 (xRet (eAndV (eUn (pyIsi "str") (eVar 0)) (eAndV (eChain pyLe pyLe (eC (.int 1)) (eB pyLen (eCons (eVar 0) (eC []))) (eC (.int 8))) (eB pyAll (eCons (eLc (eIter (eVar 0)) (.n 1) (eC true) (eOp pyIn (eVar 1) (eC (.str "abcdefghijklmnopqrstuvwxyz"))) [1]) (eC []))))))
theorem ev_is_word : EvF sp_is_word e_is_word := evf (xv_ret (ev_andV (ev_un m_isi (ev_var 0)) (ev_andV (ev_chain m_le m_le (ev_c _) (ev_b m_len (ev_cons (ev_var 0) (ev_nil))) (ev_c _)) (ev_b m_all (ev_cons (ev_lc (ev_iter (ev_var 0)) (ev_yes) (ev_op m_in (ev_var 1) (ev_c _))) (ev_nil))))))
theorem sc_is_word : FnScope ["thing", "sign"] ["thing"] (defScope s_is_word) := ⟨rfl, rfl, rfl, by decide +kernel, rfl, by decide +kernel, by decide +kernel⟩
theorem is_word_fa (fx : Fx P w K T mg base) : DFa P w K T mg base 1 ("is_word", none) ["thing"] sp_is_word :=
  dfa_of fx.fd_is_word sc_is_word (fun _ _ _ _ _ _ us hl => match us, hl with | [_], _ => rfl) (fun cdv A outer s H E hcd hr => (qs_one (qs_ret (q_and (q_isi rfl (fx.free "isinstance" (by decide)) rfl (fx.free "str" (by decide)) boot_str (qv 0)) (q_and (q_chain op_pyLe op_pyLe (q_int) (q_callB call_pyLen rfl (fx.free "len" (by decide)) boot_len (qa_cons (qv 0) qa_nil)) (q_int)) (q_one (q_callB (call_pyAll rfl) rfl (fx.free "all" (by decide)) boot_all (qa_cons (q_lc [("sign", 1)] rfl sc_is_word.nd (qi_it (qv 0)) (blkOk_by (by kernel_rfl)) rfl (fun s H C cl fp => (pg_name sc_is_word.nd rfl (by first | exact Or.inl rfl | exact Or.inr rfl))) (fun s H C cl fp => qts_nil) (fun s H C cl fp => (q_cmp (op_pyIn (hu_of hr)) (qv 1) (q_gstr rfl fx.gs_SMALL) rfl))) qa_nil))))))))
theorem is_word_ok (fx : Fx P w K T mg base) : DFn P w K T mg base 1 "is_word" ["thing"] sp_is_word := (is_word_fa fx).fn fx.mg_is_word
def t_is_row : DTS := (sSeq (sIf (dOr (dNot (dTest (dUn (pyIsi "tuple") (dVar 0)))) (dOr (dTest (dOp pyGt (dB pyLen (dCons (dVar 0) dNil)) (dC (.int 6)))) (dNot (dTest (dB pyAll (dCons (dLc (dIter (dVar 0)) (.n 1) dYes (dCall sp_is_word (dCons (dVar 1) dNil)) [1]) dNil)))))) (sRet (dC (.bl false))) sNext) (sRet (dB pyAll (dCons (dLc (dZip (dCons (dVar 0) (dCons (dSlice (dVar 0) (dPart (dC (.int 1))) dNoPart) dNil))) (.t [1, 2]) dYes (dOp pyLt (dVar 1) (dVar 2)) [1, 2]) dNil))))
abbrev sp_is_row : DSp := spOf ["thing", "one", "other"] 1 t_is_row
def e_is_row : List D → Option (Except DX D) := fnE ["thing", "one", "other"] 1 (xSeq (xIf (eOr (eNot (eTest (eUn (pyIsi "tuple") (eVar 0)))) (eOr (eTest (eOp pyGt (eB pyLen (eCons (eVar 0) (eC []))) (eC (.int 6)))) (eNot (eTest (eB pyAll (eCons (eLc (eIter (eVar 0)) (.n 1) (eC true) (eCall e_is_word (eCons (eVar 1) (eC []))) [1]) (eC []))))))) (xRet (eC (.bl false))) (xNext)) (xRet (eB pyAll (eCons (eLc (eZip (eCons (eVar 0) (eCons (eSlice (eVar 0) (ePart (eC (.int 1))) (eC none)) (eC [])))) (.t [1, 2]) (eC true) (eOp pyLt (eVar 1) (eVar 2)) [1, 2]) (eC [])))))
theorem ev_is_row : EvF sp_is_row e_is_row := evf (xv_seq (xv_if (ev_or (ev_not (ev_test (ev_un m_isi (ev_var 0)))) (ev_or (ev_test (ev_op m_gt (ev_b m_len (ev_cons (ev_var 0) (ev_nil))) (ev_c _))) (ev_not (ev_test (ev_b m_all (ev_cons (ev_lc (ev_iter (ev_var 0)) (ev_yes) (ev_call ev_is_word (ev_cons (ev_var 1) (ev_nil)))) (ev_nil))))))) (xv_ret (ev_c _)) (xv_next)) (xv_ret (ev_b m_all (ev_cons (ev_lc (ev_zip (ev_cons (ev_var 0) (ev_cons (ev_slice (ev_var 0) (ev_part (ev_c _)) (ev_noPart)) (ev_nil)))) (ev_yes) (ev_op m_lt (ev_var 1) (ev_var 2))) (ev_nil)))))
theorem sc_is_row : FnScope ["thing", "one", "other"] ["thing"] (defScope s_is_row) := ⟨rfl, rfl, rfl, by decide +kernel, rfl, by decide +kernel, by decide +kernel⟩
theorem is_row_fa (fx : Fx P w K T mg base) : DFa P w K T mg base 2 ("is_row", none) ["thing"] sp_is_row :=
  dfa_of fx.fd_is_row sc_is_row (fun _ _ _ _ _ _ us hl => match us, hl with | [_], _ => rfl) (fun cdv A outer s H E hcd hr => (qs_cons (qs_if (qt_w (qw_or (qt_not (qt_val (q_isi rfl (fx.free "isinstance" (by decide)) rfl (fx.free "tuple" (by decide)) boot_tuple (qv 0)))) (qw_or (q_cmpT op_pyGt (q_callB call_pyLen rfl (fx.free "len" (by decide)) boot_len (qa_cons (qv 0) qa_nil)) (q_int) (nomark _)) (qw_or1 (qt_not (qt_val (q_callB (call_pyAll rfl) rfl (fx.free "all" (by decide)) boot_all (qa_cons (q_lc [("one", 1)] rfl sc_is_row.nd (qi_it (qv 0)) (blkOk_by (by kernel_rfl)) rfl (fun s H C cl fp => (pg_name sc_is_row.nd rfl (by first | exact Or.inl rfl | exact Or.inr rfl))) (fun s H C cl fp => qts_nil) (fun s H C cl fp => (q_call (is_word_ok fx) hr (by decide) takesF rfl (qa_cons (qv 1) qa_nil)))) qa_nil)))))))) (qs_one (qs_ret (q_bl))) qs_nil) (qs_one (qs_ret (q_callB (call_pyAll rfl) rfl (fx.free "all" (by decide)) boot_all (qa_cons (q_lc [("one", 1), ("other", 2)] rfl sc_is_row.nd (qi_zip rfl (fx.free "zip" (by decide)) (qa_cons (qv 0) (qa_cons (q_slice (qv 0) (qo_some (q_int)) qo_none) qa_nil))) (blkOk_by (by kernel_rfl)) rfl (fun s H C cl fp => (pg_tup rfl (pgs_cons (pg_name sc_is_row.nd rfl (by first | exact Or.inl rfl | exact Or.inr rfl)) (pgs_cons (pg_name sc_is_row.nd rfl (by first | exact Or.inl rfl | exact Or.inr rfl)) pgs_nil)))) (fun s H C cl fp => qts_nil) (fun s H C cl fp => (q_cmp op_pyLt (qv 1) (qv 2) (nomark _)))) qa_nil))))))
theorem is_row_ok (fx : Fx P w K T mg base) : DFn P w K T mg base 2 "is_row" ["thing"] sp_is_row := (is_row_fa fx).fn fx.mg_is_row
def t_is_whole : DTS := (sRet (dAndV (dUn (pyIsi "int") (dVar 0)) (dAndV (dNotV (dUn (pyIsi "bool") (dVar 0))) (dChain pyLe pyLe (dVar 1) (dVar 0) (dVar 2)))))
abbrev sp_is_whole : DSp := spOf ["thing", "low", "high"] 3 t_is_whole
def e_is_whole : List D → Option (Except DX D) := fnE ["thing", "low", "high"] 3 (xRet (eAndV (eUn (pyIsi "int") (eVar 0)) (eAndV (eNotV (eUn (pyIsi "bool") (eVar 0))) (eChain pyLe pyLe (eVar 1) (eVar 0) (eVar 2)))))
theorem ev_is_whole : EvF sp_is_whole e_is_whole := evf (xv_ret (ev_andV (ev_un m_isi (ev_var 0)) (ev_andV (ev_notV (ev_un m_isi (ev_var 0))) (ev_chain m_le m_le (ev_var 1) (ev_var 0) (ev_var 2)))))
theorem sc_is_whole : FnScope ["thing", "low", "high"] ["thing", "low", "high"] (defScope s_is_whole) := ⟨rfl, rfl, rfl, by decide +kernel, rfl, by decide +kernel, by decide +kernel⟩
theorem is_whole_fa (fx : Fx P w K T mg base) : DFa P w K T mg base 1 ("is_whole", none) ["thing", "low", "high"] sp_is_whole :=
  dfa_of fx.fd_is_whole sc_is_whole (fun _ _ _ _ _ _ us hl => match us, hl with | [_, _, _], _ => rfl) (fun cdv A outer s H E hcd hr => (qs_one (qs_ret (q_and (q_isi rfl (fx.free "isinstance" (by decide)) rfl (fx.free "int" (by decide)) boot_int (qv 0)) (q_and (q_not (q_isi rfl (fx.free "isinstance" (by decide)) rfl (fx.free "bool" (by decide)) boot_bool (qv 0))) (q_one (q_chain op_pyLe op_pyLe (qv 1) (qv 0) (qv 2))))))))
theorem is_whole_ok (fx : Fx P w K T mg base) : DFn P w K T mg base 1 "is_whole" ["thing", "low", "high"] sp_is_whole := (is_whole_fa fx).fn fx.mg_is_whole
def t_is_rights : DTS := (sSeq (sIf (dOr (dNot (dTest (dUn (pyIsi "tuple") (dVar 0)))) (dOr (dTest (dOp pyNe (dB pyLen (dCons (dVar 0) dNil)) (dC (.int 5)))) (dNot (dTest (dCall sp_is_whole (dCons (dOp pyItem (dVar 0) (dC (.int 0))) (dCons (dC (.int 0)) (dCons (dC (.int 60)) dNil)))))))) (sRet (dC (.bl false))) sNext) (sRet (dB pyAll (dCons (dLc (dIter (dSlice (dVar 0) (dPart (dC (.int 1))) dNoPart)) (.n 1) dYes (dCall sp_is_row (dCons (dVar 1) dNil)) [1]) dNil))))
abbrev sp_is_rights : DSp := spOf ["thing", "row"] 1 t_is_rights
def e_is_rights : List D → Option (Except DX D) := fnE ["thing", "row"] 1 (xSeq (xIf (eOr (eNot (eTest (eUn (pyIsi "tuple") (eVar 0)))) (eOr (eTest (eOp pyNe (eB pyLen (eCons (eVar 0) (eC []))) (eC (.int 5)))) (eNot (eTest (eCall e_is_whole (eCons (eOp pyItem (eVar 0) (eC (.int 0))) (eCons (eC (.int 0)) (eCons (eC (.int 60)) (eC []))))))))) (xRet (eC (.bl false))) (xNext)) (xRet (eB pyAll (eCons (eLc (eIter (eSlice (eVar 0) (ePart (eC (.int 1))) (eC none))) (.n 1) (eC true) (eCall e_is_row (eCons (eVar 1) (eC []))) [1]) (eC [])))))
theorem ev_is_rights : EvF sp_is_rights e_is_rights := evf (xv_seq (xv_if (ev_or (ev_not (ev_test (ev_un m_isi (ev_var 0)))) (ev_or (ev_test (ev_op m_ne (ev_b m_len (ev_cons (ev_var 0) (ev_nil))) (ev_c _))) (ev_not (ev_test (ev_call ev_is_whole (ev_cons (ev_op m_item (ev_var 0) (ev_c _)) (ev_cons (ev_c _) (ev_cons (ev_c _) (ev_nil))))))))) (xv_ret (ev_c _)) (xv_next)) (xv_ret (ev_b m_all (ev_cons (ev_lc (ev_iter (ev_slice (ev_var 0) (ev_part (ev_c _)) (ev_noPart))) (ev_yes) (ev_call ev_is_row (ev_cons (ev_var 1) (ev_nil)))) (ev_nil)))))
theorem sc_is_rights : FnScope ["thing", "row"] ["thing"] (defScope s_is_rights) := ⟨rfl, rfl, rfl, by decide +kernel, rfl, by decide +kernel, by decide +kernel⟩
theorem is_rights_fa (fx : Fx P w K T mg base) : DFa P w K T mg base 3 ("is_rights", none) ["thing"] sp_is_rights :=
  dfa_of fx.fd_is_rights sc_is_rights (fun _ _ _ _ _ _ us hl => match us, hl with | [_], _ => rfl) (fun cdv A outer s H E hcd hr => (qs_cons (qs_if (qt_w (qw_or (qt_not (qt_val (q_isi rfl (fx.free "isinstance" (by decide)) rfl (fx.free "tuple" (by decide)) boot_tuple (qv 0)))) (qw_or (q_cmpT (op_pyNe hr.units) (q_callB call_pyLen rfl (fx.free "len" (by decide)) boot_len (qa_cons (qv 0) qa_nil)) (q_int) (nomark _)) (qw_or1 (qt_not (qt_val (q_call (is_whole_ok fx) hr (by decide) (LN.takes_of rfl rfl rfl rfl) rfl (qa_cons (q_item (hu_of hr) (qv 0) (q_int)) (qa_cons (q_int) (qa_cons (q_gint rfl fx.gi_MOST_ROOM) qa_nil)))))))))) (qs_one (qs_ret (q_bl))) qs_nil) (qs_one (qs_ret (q_callB (call_pyAll rfl) rfl (fx.free "all" (by decide)) boot_all (qa_cons (q_lc [("row", 1)] rfl sc_is_rights.nd (qi_it (q_slice (qv 0) (qo_some (q_int)) qo_none)) (blkOk_by (by kernel_rfl)) rfl (fun s H C cl fp => (pg_name sc_is_rights.nd rfl (by first | exact Or.inl rfl | exact Or.inr rfl))) (fun s H C cl fp => qts_nil) (fun s H C cl fp => (q_call (is_row_ok fx) hr (by decide) takesF rfl (qa_cons (qv 1) qa_nil)))) qa_nil))))))
theorem is_rights_ok (fx : Fx P w K T mg base) : DFn P w K T mg base 3 "is_rights" ["thing"] sp_is_rights := (is_rights_fa fx).fn fx.mg_is_rights
def t_need_rights : DTS := (sIf (dNot (dTest (dCall sp_is_rights (dCons (dVar 0) dNil)))) (sRaise "BadRights") sNext)
abbrev sp_need_rights : DSp := spOf ["thing"] 1 t_need_rights
def e_need_rights : List D → Option (Except DX D) := fnE ["thing"] 1 (xIf (eNot (eTest (eCall e_is_rights (eCons (eVar 0) (eC []))))) (xRaise "BadRights") (xNext))
theorem ev_need_rights : EvF sp_need_rights e_need_rights := evf (xv_if (ev_not (ev_test (ev_call ev_is_rights (ev_cons (ev_var 0) (ev_nil))))) (xv_raise) (xv_next))
theorem sc_need_rights : FnScope ["thing"] ["thing"] (defScope s_need_rights) := ⟨rfl, rfl, rfl, by decide +kernel, rfl, by decide +kernel, by decide +kernel⟩
theorem need_rights_fa (fx : Fx P w K T mg base) : DFa P w K T mg base 4 ("need_rights", none) ["thing"] sp_need_rights :=
  dfa_of fx.fd_need_rights sc_need_rights (fun _ _ _ _ _ _ us hl => match us, hl with | [_], _ => rfl) (fun cdv A outer s H E hcd hr => (qs_one (qs_if (qt_not (qt_val (q_call (is_rights_ok fx) hr (by decide) (LN.takes_of rfl rfl rfl rfl) rfl (qa_cons (qv 0) qa_nil)))) (qs_one (qs_raise (dxc fx.xc_BadRights) rfl (LN.takes_of rfl rfl rfl rfl) rfl)) qs_nil)))
theorem need_rights_ok (fx : Fx P w K T mg base) : DFn P w K T mg base 4 "need_rights" ["thing"] sp_need_rights := (need_rights_fa fx).fn fx.mg_need_rights
def t_Cage___init__ : DTS := (sSeq (sDrop (dCall sp_need_rights (dCons (dVar 1) dNil))) (sSeq (sFldS ["Cage"] "given" (dVar 0) (dVar 1)) (sSeq (sFldS ["Cage"] "table" (dVar 0) (dDct0B)) (sFldS ["Cage"] "world" (dVar 0) (dMake "Shared" sp_Shared___init__ dNil)))))
abbrev sp_Cage___init__ : DSp := spOf ["self", "grants"] 2 t_Cage___init__
theorem sc_Cage___init__ : FnScope ["self", "grants"] ["self", "grants"] (defScope s_Cage___init__) := ⟨rfl, rfl, rfl, by decide +kernel, rfl, by decide +kernel, by decide +kernel⟩
theorem Cage___init___fa (fx : Fx P w K T mg base) : DFa P w K T mg base 5 ("Cage", some "__init__") ["self", "grants"] sp_Cage___init__ :=
  dfa_of fx.fd_Cage___init__ sc_Cage___init__ (fun _ _ _ _ _ _ us hl => match us, hl with | [_, _], _ => rfl) (fun cdv A outer s H E hcd hr => (qs_cons (qs_expr (q_call (need_rights_ok fx) hr (by decide) (LN.takes_of rfl rfl rfl rfl) rfl (qa_cons (qv 1) qa_nil))) (qs_cons (qs_fld (qv 0) (qv 1) fx.fl_given) (qs_cons (qs_fld (qv 0) (q_dct0B) fx.fl_table) (qs_one (qs_fld (qv 0) (q_make0 fx.mk_Shared (Shared___init___ok fx) hr (by decide) (LN.takes_of rfl rfl rfl rfl) rfl fx.mg_Shared) fx.fl_world))))))
theorem Cage___init___ok (fx : Fx P w K T mg base) : DFa P w K T mg base 5 ("Cage", some "__init__") ["self", "grants"] sp_Cage___init__ := Cage___init___fa fx
def t_term (a : Addr) (c : String) : DTS :=
  sSeq (sSet 1 (dLst (dCons (dIsE 0 a (c == "BadProgram")) (dCons (dIsE 0 a (c == "BadRights")) (dCons (dIsE 0 a (c == "BadNumber")) (dCons (dIsE 0 a (c == "BadFeeds")) dNil))))))
  (sSeq (sSet 1 (dOp pyAdd (dVar 1) (dLst (dCons (dIsE 0 a (c == "BadPaper")) (dCons (dIsE 0 a (c == "BadName")) (dCons (dIsE 0 a (c == "Taken")) (dCons (dIsE 0 a (c == "NoName")) dNil)))))))
  (sSeq (sSet 1 (dOp pyAdd (dVar 1) (dLst (dCons (dIsE 0 a (c == "TooMuch")) (dCons (dIsE 0 a (c == "Nothing")) (dCons (dIsE 0 a (c == "BadPicture")) (dCons (dIsE 0 a (c == "BadLog")) dNil)))))))
  (sSeq (sSet 1 (dOp pyAdd (dVar 1) (dLst (dCons (dIsE 0 a (c == "BadText")) dNil))))
  (sSeq (sSet 2 (dLst (dCons (dC (.str "BadProgram")) (dCons (dC (.str "BadRights")) (dCons (dC (.str "BadNumber")) (dCons (dC (.str "BadFeeds")) (dCons (dC (.str "BadPaper")) (dCons (dC (.str "BadName")) (dCons (dC (.str "Taken")) (dCons (dC (.str "NoName")) (dCons (dC (.str "TooMuch")) dNil)))))))))))
  (sSeq (sSet 2 (dOp pyAdd (dVar 2) (dLst (dCons (dC (.str "Nothing")) (dCons (dC (.str "BadPicture")) (dCons (dC (.str "BadLog")) (dCons (dC (.str "BadText")) dNil)))))))
  (sSeq (sIf (dOr (dTest (dOp pyNe (dB pySum (dCons (dLc (dIterL (dVar 1)) (.n 3) dYes (dB pyIntS (dCons (dVar 3) dNil)) [3]) dNil)) (dC (.int 1)))) (dNot (dTest (dIsE 0 a true)))) (sRet (dTup (dCons (dC (.str "refused")) (dCons (dC (.str "other")) dNil)))) sNext)
  (sRet (dTup (dCons (dC (.str "refused")) (dCons (dOp pyItem (dVar 2) (dMt "list" mIndex (dVar 1) (dCons (dC (.bl true)) dNil))) dNil))))))))))
theorem sc__law_term : FnScope ["e", "flags", "kinds", "flag"] ["e"] (defScope s__law_term) := ⟨rfl, rfl, rfl, by decide +kernel, rfl, by decide +kernel, by decide +kernel⟩
theorem term_plain (a : Addr) (c : String) (G : DG) (Q : DK) (hc : c ∈ refusals) (h : Q (.tup [.str "refused", .str c]) G) : t_term a c EF { nx := fun _ G' => Q .non G', rt := Q } (dstart ["e", "flags", "kinds", "flag"] [.ref a]) G := by
  simp only [t_term, sSeq, sSet, dLst, dCons, dNil, dIsE, dOp, dVar, dC, dstart, sIf, dOr, dTest, dB, dLc, dIterL, dNot, sRet, sNext, dTup, dMt, List.map_cons, List.map_nil, List.replicate, List.length_cons, List.length_nil]
  refine ⟨rfl, rfl, rfl, rfl, by decide, _, rfl, rfl, rfl, rfl, rfl, by decide, _, rfl, _, rfl, rfl, rfl, rfl, rfl, by decide, _, rfl, _, rfl, rfl, by decide, _, rfl, by decide, _, rfl, by decide, _, rfl, _, rfl, _, rfl, (by simp), ?_⟩
  refine eLcL_ok (et := eC true) (e := eB pyIntS (eCons (eVar 3) (eC []))) (ys := kinds13.map fun k => D.int (if (c == k) = true then 1 else 0)) ev_yes (ev_b m_int (ev_cons (ev_var 3) ev_nil)) (fun G => rfl) (by kernel_rfl) ?_
  simp only [refusals, List.mem_cons, List.not_mem_nil, or_false] at hc
  rcases hc with rfl | rfl | rfl | rfl | rfl | rfl | rfl | rfl | rfl | rfl | rfl | rfl
  all_goals
    refine ⟨.int 1, by kernel_rfl, .bl false, by kernel_rfl, false, rfl, ?_⟩
    simp only [Bool.false_eq_true, if_false]
    refine ⟨rfl, true, rfl, ?_⟩
    simp only [Bool.not_true, Bool.false_eq_true, if_false]
    refine ⟨_, rfl, _, rfl, by kernel_rfl, ?_⟩
  · exact ⟨.int 0, G, by kernel_rfl, _, by kernel_rfl, by decide, h⟩
  · exact ⟨.int 1, G, by kernel_rfl, _, by kernel_rfl, by decide, h⟩
  · exact ⟨.int 2, G, by kernel_rfl, _, by kernel_rfl, by decide, h⟩
  · exact ⟨.int 3, G, by kernel_rfl, _, by kernel_rfl, by decide, h⟩
  · exact ⟨.int 4, G, by kernel_rfl, _, by kernel_rfl, by decide, h⟩
  · exact ⟨.int 5, G, by kernel_rfl, _, by kernel_rfl, by decide, h⟩
  · exact ⟨.int 6, G, by kernel_rfl, _, by kernel_rfl, by decide, h⟩
  · exact ⟨.int 7, G, by kernel_rfl, _, by kernel_rfl, by decide, h⟩
  · exact ⟨.int 9, G, by kernel_rfl, _, by kernel_rfl, by decide, h⟩
  · exact ⟨.int 10, G, by kernel_rfl, _, by kernel_rfl, by decide, h⟩
  · exact ⟨.int 11, G, by kernel_rfl, _, by kernel_rfl, by decide, h⟩
  · exact ⟨.int 12, G, by kernel_rfl, _, by kernel_rfl, by decide, h⟩

theorem _law_term_ok (fx : Fx P w K T mg base) : DTerm P w K T mg base 1 := by
  obtain ⟨fd, F⟩ := fx.fd__law_term
  exact dterm_of (t := t_term) F fx.mg__law_term sc__law_term (fun _ _ _ _ _ _ us hl => match us, hl with | [_], _ => rfl) (fun cdv A outer s H p l c hot hr hz hf hc => (qs_cons (qs_set sc__law_term.nd rfl (by first | exact Or.inl rfl | exact Or.inr rfl) (q_lst (qa_cons (q_isE (fx.told.exc c hc) hz hf List.mem_cons_self rfl (fx.free "isinstance" (by decide)) rfl (Or.inl rfl) (pe_glob rfl (fx.mgC "BadProgram" (by decide)) (v := .ref (He.ga K (S "BadProgram"))) rfl) (fun _ h => h) (fx.told.kit c hc "BadProgram" (by decide))) (qa_cons (q_isE (fx.told.exc c hc) hz hf List.mem_cons_self rfl (fx.free "isinstance" (by decide)) rfl (Or.inl rfl) (pe_glob rfl (fx.mgC "BadRights" (by decide)) (v := .ref (He.ga K (S "BadRights"))) rfl) (fun _ h => h) (fx.told.kit c hc "BadRights" (by decide))) (qa_cons (q_isE (fx.told.exc c hc) hz hf List.mem_cons_self rfl (fx.free "isinstance" (by decide)) rfl (Or.inl rfl) (pe_glob rfl (fx.mgC "BadNumber" (by decide)) (v := .ref (He.ga K (S "BadNumber"))) rfl) (fun _ h => h) (fx.told.kit c hc "BadNumber" (by decide))) (qa_cons (q_isE (fx.told.exc c hc) hz hf List.mem_cons_self rfl (fx.free "isinstance" (by decide)) rfl (Or.inl rfl) (pe_glob rfl (fx.mgC "BadFeeds" (by decide)) (v := .ref (He.ga K (S "BadFeeds"))) rfl) (fun _ h => h) (fx.told.kit c hc "BadFeeds" (by decide))) qa_nil)))))) (qs_cons (qs_set sc__law_term.nd rfl (by first | exact Or.inl rfl | exact Or.inr rfl) (q_op op_pyAdd (qv 1) (q_lst (qa_cons (q_isE (fx.told.exc c hc) hz hf List.mem_cons_self rfl (fx.free "isinstance" (by decide)) rfl (Or.inl rfl) (pe_glob rfl (fx.mgC "BadPaper" (by decide)) (v := .ref (He.ga K (S "BadPaper"))) rfl) (fun _ h => h) (fx.told.kit c hc "BadPaper" (by decide))) (qa_cons (q_isE (fx.told.exc c hc) hz hf List.mem_cons_self rfl (fx.free "isinstance" (by decide)) rfl (Or.inl rfl) (pe_glob rfl (fx.mgC "BadName" (by decide)) (v := .ref (He.ga K (S "BadName"))) rfl) (fun _ h => h) (fx.told.kit c hc "BadName" (by decide))) (qa_cons (q_isE (fx.told.exc c hc) hz hf List.mem_cons_self rfl (fx.free "isinstance" (by decide)) rfl (Or.inl rfl) (pe_glob rfl (fx.mgC "Taken" (by decide)) (v := .ref (He.ga K (S "Taken"))) rfl) (fun _ h => h) (fx.told.kit c hc "Taken" (by decide))) (qa_cons (q_isE (fx.told.exc c hc) hz hf List.mem_cons_self rfl (fx.free "isinstance" (by decide)) rfl (Or.inl rfl) (pe_glob rfl (fx.mgC "NoName" (by decide)) (v := .ref (He.ga K (S "NoName"))) rfl) (fun _ h => h) (fx.told.kit c hc "NoName" (by decide))) qa_nil))))))) (qs_cons (qs_set sc__law_term.nd rfl (by first | exact Or.inl rfl | exact Or.inr rfl) (q_op op_pyAdd (qv 1) (q_lst (qa_cons (q_isE (fx.told.exc c hc) hz hf List.mem_cons_self rfl (fx.free "isinstance" (by decide)) rfl (Or.inl rfl) (pe_glob rfl (fx.mgC "TooMuch" (by decide)) (v := .ref (He.ga K (S "TooMuch"))) rfl) (fun _ h => h) (fx.told.kit c hc "TooMuch" (by decide))) (qa_cons (q_isE (fx.told.exc c hc) hz hf List.mem_cons_self rfl (fx.free "isinstance" (by decide)) rfl (Or.inl rfl) (pe_glob rfl (fx.mgC "Nothing" (by decide)) (v := .ref (He.ga K (S "Nothing"))) rfl) (fun _ h => h) (fx.told.kit c hc "Nothing" (by decide))) (qa_cons (q_isE (fx.told.exc c hc) hz hf List.mem_cons_self rfl (fx.free "isinstance" (by decide)) rfl (Or.inl rfl) (pe_glob rfl (fx.mgC "BadPicture" (by decide)) (v := .ref (He.ga K (S "BadPicture"))) rfl) (fun _ h => h) (fx.told.kit c hc "BadPicture" (by decide))) (qa_cons (q_isE (fx.told.exc c hc) hz hf List.mem_cons_self rfl (fx.free "isinstance" (by decide)) rfl (Or.inl rfl) (pe_glob rfl (fx.mgC "BadLog" (by decide)) (v := .ref (He.ga K (S "BadLog"))) rfl) (fun _ h => h) (fx.told.kit c hc "BadLog" (by decide))) qa_nil))))))) (qs_cons (qs_set sc__law_term.nd rfl (by first | exact Or.inl rfl | exact Or.inr rfl) (q_op op_pyAdd (qv 1) (q_lst (qa_cons (q_isE (fx.told.exc c hc) hz hf List.mem_cons_self rfl (fx.free "isinstance" (by decide)) rfl (Or.inl rfl) (pe_glob rfl (fx.mgC "BadText" (by decide)) (v := .ref (He.ga K (S "BadText"))) rfl) (fun _ h => h) (fx.told.kit c hc "BadText" (by decide))) qa_nil)))) (qs_cons (qs_set sc__law_term.nd rfl (by first | exact Or.inl rfl | exact Or.inr rfl) (q_lst (qa_cons q_str (qa_cons q_str (qa_cons q_str (qa_cons q_str (qa_cons q_str (qa_cons q_str (qa_cons q_str (qa_cons q_str (qa_cons q_str qa_nil))))))))))) (qs_cons (qs_set sc__law_term.nd rfl (by first | exact Or.inl rfl | exact Or.inr rfl) (q_op op_pyAdd (qv 2) (q_lst (qa_cons q_str (qa_cons q_str (qa_cons q_str (qa_cons q_str qa_nil))))))) (qs_cons (qs_if (qt_w (qw_or (q_cmpT (op_pyNe (hotu hr)) (q_callB (call_pySumQ ⟨p, l, hot_in hot, fun q hq => hq⟩) rfl (fx.free "sum" (by decide)) boot_sum (qa_cons (q_lcQ [("flag", 3)] ⟨p, l, hot_in hot, fun q hq => hq⟩ sc__law_term.nd (qiq_it (qv 1)) (blkOk_by (by kernel_rfl)) rfl (fun s H C cl fp => pg_name sc__law_term.nd rfl (by first | exact Or.inl rfl | exact Or.inr rfl)) (fun s H C cl fp => qts_nil) (fun s H C cl fp => q_callTy call_pyIntS rfl (fx.free "int" (by decide)) boot_int (qa_cons (qv 3) qa_nil))) qa_nil)) q_int (nomark _)) (qw_or1 (qt_not (qt_val (q_isE (fx.told.exc c hc) hz hf List.mem_cons_self rfl (fx.free "isinstance" (by decide)) rfl (Or.inl rfl) (pe_bltn rfl (fx.free "ValueError" (by decide)) bootVE (v := .ty "ValueError") rfl) (fun _ h => h) (fx.told.kitV c hc))))))) (qs_one (qs_ret (q_tup (qa_cons q_str (qa_cons q_str qa_nil))))) qs_nil) (qs_one (qs_ret (q_tup (qa_cons q_str (qa_cons (q_item (hotu1 hr) (qv 2) (q_mt PySem.F.plainAttrs_list PySem.F.slot_list_index PySem.F.type_list_index mt_mIndex (qv 1) (qa_cons q_bl qa_nil))) qa_nil))))))))))))) term_plain
theorem _law_told_ok (fx : Fx P w K T mg base) : DTold P w K T mg base 7 := by
  obtain ⟨fd, F⟩ := fx.fd__law_told
  exact dtold_of F fx.mg__law_told ⟨rfl, rfl, rfl, by decide +kernel, rfl, by decide +kernel, by decide +kernel⟩ (fun _ _ _ _ _ _ _ us hl => match us, hl with | [_], _ => rfl) fx.told ((_law_term_ok fx).mono (by decide)) (Or.inl rfl) rfl rfl rfl rfl (fx.mgC "TooMuch" (by decide)) (fx.mgC "CageError" (by decide))
def t_excess_of : DTS := (sSeq (sSet 2 (dIf (dTest (dOp pyGt (dOp pyItem (dVar 0) (dC (.int 0))) (dOp pyItem (dVar 1) (dC (.int 0))))) (dLst (dCons (dTup (dCons (dC (.str "room")) (dCons (dOp pyItem (dVar 0) (dC (.int 0))) dNil))) dNil)) (dLst dNil))) (sSeq (sFor (dEnum (dCons (dC (.tup [(.str "ask"), (.str "tell"), (.str "look"), (.str "mark")])) dNil)) (.t [3, 4]) (sSet 2 (dOp pyAdd (dVar 2) (dLc (dIter (dOp pyItem (dVar 0) (dOp pyAdd (dVar 3) (dC (.int 1))))) (.n 5) (dTest (dOp pyNotIn (dVar 5) (dOp pyItem (dVar 1) (dOp pyAdd (dVar 3) (dC (.int 1)))))) (dTup (dCons (dVar 4) (dCons (dVar 5) dNil))) [5])))) (sRet (dB pySortedX (dCons (dVar 2) dNil)))))
abbrev sp_excess_of : DSp := spOf ["one", "other", "found", "at", "sort", "word"] 2 t_excess_of
theorem sc_excess_of : FnScope ["one", "other", "found", "at", "sort", "word"] ["one", "other"] (defScope s_excess_of) := ⟨rfl, rfl, rfl, by decide +kernel, rfl, by decide +kernel, by decide +kernel⟩
theorem excess_of_fa (fx : Fx P w K T mg base) : DFa P w K T mg base 1 ("excess_of", none) ["one", "other"] sp_excess_of :=
  dfa_of fx.fd_excess_of sc_excess_of (fun _ _ _ _ _ _ us hl => match us, hl with | [_, _], _ => rfl) (fun cdv A outer s H E hcd hr => (qs_cons (qs_set sc_excess_of.nd rfl (by first | exact Or.inl rfl | exact Or.inr rfl) (q_if (q_cmpT op_pyGt (q_item (hu_of hr) (qv 0) (q_int)) (q_item (hu_of hr) (qv 1) (q_int)) (nomark _)) (q_lst (qa_cons (q_tup (qa_cons (q_str) (qa_cons (q_item (hu_of hr) (qv 0) (q_int)) qa_nil))) qa_nil)) (q_lst qa_nil))) (qs_cons (qs_for (passes_of rfl) rfl (qi_enum rfl (fx.free "enumerate" (by decide)) (qa_cons (q_gtup rfl fx.tu_SORTS) qa_nil)) (pg_tup rfl (pgs_cons (pg_name sc_excess_of.nd rfl (by first | exact Or.inl rfl | exact Or.inr rfl)) (pgs_cons (pg_name sc_excess_of.nd rfl (by first | exact Or.inl rfl | exact Or.inr rfl)) pgs_nil))) (qs_one (qs_set sc_excess_of.nd rfl (by first | exact Or.inl rfl | exact Or.inr rfl) (q_op op_pyAdd (qv 2) (q_lc [("word", 5)] rfl sc_excess_of.nd (qi_it (q_item (hu_of hr) (qv 0) (q_op op_pyAdd (qv 3) (q_int)))) (blkOk_by (by kernel_rfl)) rfl (fun s H C cl fp => (pg_name sc_excess_of.nd rfl (by first | exact Or.inl rfl | exact Or.inr rfl))) (fun s H C cl fp => (qts_one (q_cmpT (op_pyNotIn (hu_of hr)) (qv 5) (q_item (hu_of hr) (qv 1) (q_op op_pyAdd (qv 3) (q_int))) rfl))) (fun s H C cl fp => (q_tup (qa_cons (qv 4) (qa_cons (qv 5) qa_nil))))))))) (qs_one (qs_ret (q_callB (call_pySortedX rfl) rfl (fx.free "sorted" (by decide)) boot_sorted (qa_cons (qv 2) qa_nil)))))))
theorem excess_of_ok (fx : Fx P w K T mg base) : DFn P w K T mg base 1 "excess_of" ["one", "other"] sp_excess_of := (excess_of_fa fx).fn fx.mg_excess_of
def t_need_both : DTS := (sSeq (sDrop (dCall sp_need_rights (dCons (dVar 0) dNil))) (sDrop (dCall sp_need_rights (dCons (dVar 1) dNil))))
abbrev sp_need_both : DSp := spOf ["one", "other"] 2 t_need_both
def e_need_both : List D → Option (Except DX D) := fnE ["one", "other"] 2 (xSeq (xDrop (eCall e_need_rights (eCons (eVar 0) (eC [])))) (xDrop (eCall e_need_rights (eCons (eVar 1) (eC [])))))
theorem ev_need_both : EvF sp_need_both e_need_both := evf (xv_seq (xv_drop (ev_call ev_need_rights (ev_cons (ev_var 0) (ev_nil)))) (xv_drop (ev_call ev_need_rights (ev_cons (ev_var 1) (ev_nil)))))
theorem sc_need_both : FnScope ["one", "other"] ["one", "other"] (defScope s_need_both) := ⟨rfl, rfl, rfl, by decide +kernel, rfl, by decide +kernel, by decide +kernel⟩
theorem need_both_fa (fx : Fx P w K T mg base) : DFa P w K T mg base 5 ("need_both", none) ["one", "other"] sp_need_both :=
  dfa_of fx.fd_need_both sc_need_both (fun _ _ _ _ _ _ us hl => match us, hl with | [_, _], _ => rfl) (fun cdv A outer s H E hcd hr => (qs_cons (qs_expr (q_call (need_rights_ok fx) hr (by decide) (LN.takes_of rfl rfl rfl rfl) rfl (qa_cons (qv 0) qa_nil))) (qs_one (qs_expr (q_call (need_rights_ok fx) hr (by decide) (LN.takes_of rfl rfl rfl rfl) rfl (qa_cons (qv 1) qa_nil))))))
theorem need_both_ok (fx : Fx P w K T mg base) : DFn P w K T mg base 5 "need_both" ["one", "other"] sp_need_both := (need_both_fa fx).fn fx.mg_need_both
def t_beyond : DTS := (sSeq (sDrop (dCall sp_need_both (dCons (dVar 0) (dCons (dVar 1) dNil)))) (sRet (dCall sp_excess_of (dCons (dVar 0) (dCons (dVar 1) dNil)))))
abbrev sp_beyond : DSp := spOf ["one", "other"] 2 t_beyond
theorem sc_beyond : FnScope ["one", "other"] ["one", "other"] (defScope s_beyond) := ⟨rfl, rfl, rfl, by decide +kernel, rfl, by decide +kernel, by decide +kernel⟩
theorem beyond_fa (fx : Fx P w K T mg base) : DFa P w K T mg base 6 ("beyond", none) ["one", "other"] sp_beyond :=
  dfa_of fx.fd_beyond sc_beyond (fun _ _ _ _ _ _ us hl => match us, hl with | [_, _], _ => rfl) (fun cdv A outer s H E hcd hr => (qs_cons (qs_expr (q_call (need_both_ok fx) hr (by decide) (LN.takes_of rfl rfl rfl rfl) rfl (qa_cons (qv 0) (qa_cons (qv 1) qa_nil)))) (qs_one (qs_ret (q_call (excess_of_ok fx) hr (by decide) (LN.takes_of rfl rfl rfl rfl) rfl (qa_cons (qv 0) (qa_cons (qv 1) qa_nil)))))))
theorem beyond_ok (fx : Fx P w K T mg base) : DFn P w K T mg base 6 "beyond" ["one", "other"] sp_beyond := (beyond_fa fx).fn fx.mg_beyond
def t_joined : DTS := (sSeq (sDrop (dCall sp_need_both (dCons (dVar 0) (dCons (dVar 1) dNil)))) (sSeq (sSet 2 (dLc (dZip (dCons (dSlice (dVar 0) (dPart (dC (.int 1))) dNoPart) (dCons (dSlice (dVar 1) (dPart (dC (.int 1))) dNoPart) dNil))) (.t [3, 4]) dYes (dB pyTup (dCons (dB pySortedSet (dCons (dOp pyAdd (dVar 3) (dVar 4)) dNil)) dNil)) [3, 4])) (sSeq (sSet 5 (dOp pyAdd (dTup (dCons (dB pyMax2 (dCons (dOp pyItem (dVar 0) (dC (.int 0))) (dCons (dOp pyItem (dVar 1) (dC (.int 0))) dNil))) dNil)) (dB pyTup (dCons (dVar 2) dNil)))) (sSeq (sDrop (dCall sp_need_rights (dCons (dVar 5) dNil))) (sRet (dVar 5))))))
abbrev sp_joined : DSp := spOf ["one", "other", "rows", "row", "more", "found"] 2 t_joined
def e_joined : List D → Option (Except DX D) := fnE ["one", "other", "rows", "row", "more", "found"] 2 (xSeq (xDrop (eCall e_need_both (eCons (eVar 0) (eCons (eVar 1) (eC []))))) (xSeq (xSet 2 (eLc (eZip (eCons (eSlice (eVar 0) (ePart (eC (.int 1))) (eC none)) (eCons (eSlice (eVar 1) (ePart (eC (.int 1))) (eC none)) (eC [])))) (.t [3, 4]) (eC true) (eB pyTup (eCons (eB pySortedSet (eCons (eOp pyAdd (eVar 3) (eVar 4)) (eC []))) (eC []))) [3, 4])) (xSeq (xSet 5 (eOp pyAdd (eTup (eCons (eB pyMax2 (eCons (eOp pyItem (eVar 0) (eC (.int 0))) (eCons (eOp pyItem (eVar 1) (eC (.int 0))) (eC [])))) (eC []))) (eB pyTup (eCons (eVar 2) (eC []))))) (xSeq (xDrop (eCall e_need_rights (eCons (eVar 5) (eC [])))) (xRet (eVar 5))))))
theorem ev_joined : EvF sp_joined e_joined := evf (xv_seq (xv_drop (ev_call ev_need_both (ev_cons (ev_var 0) (ev_cons (ev_var 1) (ev_nil))))) (xv_seq (xv_set (ev_lc (ev_zip (ev_cons (ev_slice (ev_var 0) (ev_part (ev_c _)) (ev_noPart)) (ev_cons (ev_slice (ev_var 1) (ev_part (ev_c _)) (ev_noPart)) (ev_nil)))) (ev_yes) (ev_b m_tup (ev_cons (ev_b m_sortedSet (ev_cons (ev_op m_add (ev_var 3) (ev_var 4)) (ev_nil))) (ev_nil))))) (xv_seq (xv_set (ev_op m_add (ev_tup (ev_cons (ev_b m_max2 (ev_cons (ev_op m_item (ev_var 0) (ev_c _)) (ev_cons (ev_op m_item (ev_var 1) (ev_c _)) (ev_nil)))) (ev_nil))) (ev_b m_tup (ev_cons (ev_var 2) (ev_nil))))) (xv_seq (xv_drop (ev_call ev_need_rights (ev_cons (ev_var 5) (ev_nil)))) (xv_ret (ev_var 5))))))
theorem sc_joined : FnScope ["one", "other", "rows", "row", "more", "found"] ["one", "other"] (defScope s_joined) := ⟨rfl, rfl, rfl, by decide +kernel, rfl, by decide +kernel, by decide +kernel⟩
theorem joined_fa (fx : Fx P w K T mg base) : DFa P w K T mg base 6 ("joined", none) ["one", "other"] sp_joined :=
  dfa_of fx.fd_joined sc_joined (fun _ _ _ _ _ _ us hl => match us, hl with | [_, _], _ => rfl) (fun cdv A outer s H E hcd hr => (qs_cons (qs_expr (q_call (need_both_ok fx) hr (by decide) (LN.takes_of rfl rfl rfl rfl) rfl (qa_cons (qv 0) (qa_cons (qv 1) qa_nil)))) (qs_cons (qs_setLc [("row", 3), ("more", 4)] rfl sc_joined.nd rfl rfl (sw_true rfl rfl rfl (by decide +kernel)) (qi_zip rfl (fx.free "zip" (by decide)) (qa_cons (q_slice (qv 0) (qo_some (q_int)) qo_none) (qa_cons (q_slice (qv 1) (qo_some (q_int)) qo_none) qa_nil))) (blkOk_by (by kernel_rfl)) rfl (fun s H C cl fp => (pg_tup rfl (pgs_cons (pg_name sc_joined.nd rfl (by first | exact Or.inl rfl | exact Or.inr rfl)) (pgs_cons (pg_name sc_joined.nd rfl (by first | exact Or.inl rfl | exact Or.inr rfl)) pgs_nil)))) (fun s H C cl fp => qts_nil) (fun s H C cl fp => (q_callTy call_pyTup rfl (fx.free "tuple" (by decide)) boot_tuple (qa_cons (q_sortedSet rfl rfl (fx.free "sorted" (by decide)) rfl (fx.free "set" (by decide)) (q_op op_pyAdd (qv 3) (qv 4))) qa_nil)))) (qs_cons (qs_set sc_joined.nd rfl (by first | exact Or.inl rfl | exact Or.inr rfl) (q_op op_pyAdd (q_tup (qa_cons (q_callB (call_pyMax2 rfl) rfl (fx.free "max" (by decide)) boot_max (qa_cons (q_item (hu_of hr) (qv 0) (q_int)) (qa_cons (q_item (hu_of hr) (qv 1) (q_int)) qa_nil))) qa_nil)) (q_callTy call_pyTup rfl (fx.free "tuple" (by decide)) boot_tuple (qa_cons (qv 2) qa_nil)))) (qs_cons (qs_expr (q_call (need_rights_ok fx) hr (by decide) (LN.takes_of rfl rfl rfl rfl) rfl (qa_cons (qv 5) qa_nil))) (qs_one (qs_ret (qv 5))))))))
theorem joined_ok (fx : Fx P w K T mg base) : DFn P w K T mg base 6 "joined" ["one", "other"] sp_joined := (joined_fa fx).fn fx.mg_joined
def t_met_of : DTS := (sSeq (sSet 2 (dLc (dZip (dCons (dSlice (dVar 0) (dPart (dC (.int 1))) dNoPart) (dCons (dSlice (dVar 1) (dPart (dC (.int 1))) dNoPart) dNil))) (.t [4, 5]) dYes (dB pyTup (dCons (dLc (dIter (dVar 4)) (.n 3) (dTest (dOp pyIn (dVar 3) (dVar 5))) (dVar 3) [3]) dNil)) [4, 5])) (sRet (dOp pyAdd (dTup (dCons (dB pyMin2 (dCons (dOp pyItem (dVar 0) (dC (.int 0))) (dCons (dOp pyItem (dVar 1) (dC (.int 0))) dNil))) dNil)) (dB pyTup (dCons (dVar 2) dNil)))))
abbrev sp_met_of : DSp := spOf ["one", "other", "rows", "word", "row", "more"] 2 t_met_of
theorem sc_met_of : FnScope ["one", "other", "rows", "word", "row", "more"] ["one", "other"] (defScope s_met_of) := ⟨rfl, rfl, rfl, by decide +kernel, rfl, by decide +kernel, by decide +kernel⟩
theorem met_of_fa (fx : Fx P w K T mg base) : DFa P w K T mg base 1 ("met_of", none) ["one", "other"] sp_met_of :=
  dfa_of fx.fd_met_of sc_met_of (fun _ _ _ _ _ _ us hl => match us, hl with | [_, _], _ => rfl) (fun cdv A outer s H E hcd hr => (qs_cons (qs_setLc [("row", 4), ("more", 5)] rfl sc_met_of.nd rfl rfl (sw_true rfl rfl rfl (by decide +kernel)) (qi_zip rfl (fx.free "zip" (by decide)) (qa_cons (q_slice (qv 0) (qo_some (q_int)) qo_none) (qa_cons (q_slice (qv 1) (qo_some (q_int)) qo_none) qa_nil))) (blkOk_by (by kernel_rfl)) rfl (fun s H C cl fp => (pg_tup rfl (pgs_cons (pg_name sc_met_of.nd rfl (by first | exact Or.inl rfl | exact Or.inr rfl)) (pgs_cons (pg_name sc_met_of.nd rfl (by first | exact Or.inl rfl | exact Or.inr rfl)) pgs_nil)))) (fun s H C cl fp => qts_nil) (fun s H C cl fp => (q_callTy call_pyTup rfl (fx.free "tuple" (by decide)) boot_tuple (qa_cons (q_lc [("word", 3)] rfl sc_met_of.nd (qi_it (qv 4)) (blkOk_by (by kernel_rfl)) rfl (fun s H C cl fp => (pg_name sc_met_of.nd rfl (by first | exact Or.inl rfl | exact Or.inr rfl))) (fun s H C cl fp => (qts_one (q_cmpT (op_pyIn (hu_of hr)) (qv 3) (qv 5) rfl))) (fun s H C cl fp => (qv 3))) qa_nil)))) (qs_one (qs_ret (q_op op_pyAdd (q_tup (qa_cons (q_callB (call_pyMin2 rfl) rfl (fx.free "min" (by decide)) boot_min (qa_cons (q_item (hu_of hr) (qv 0) (q_int)) (qa_cons (q_item (hu_of hr) (qv 1) (q_int)) qa_nil))) qa_nil)) (q_callTy call_pyTup rfl (fx.free "tuple" (by decide)) boot_tuple (qa_cons (qv 2) qa_nil)))))))
theorem met_of_ok (fx : Fx P w K T mg base) : DFn P w K T mg base 1 "met_of" ["one", "other"] sp_met_of := (met_of_fa fx).fn fx.mg_met_of
def t_met : DTS := (sSeq (sDrop (dCall sp_need_both (dCons (dVar 0) (dCons (dVar 1) dNil)))) (sRet (dCall sp_met_of (dCons (dVar 0) (dCons (dVar 1) dNil)))))
abbrev sp_met : DSp := spOf ["one", "other"] 2 t_met
theorem sc_met : FnScope ["one", "other"] ["one", "other"] (defScope s_met) := ⟨rfl, rfl, rfl, by decide +kernel, rfl, by decide +kernel, by decide +kernel⟩
theorem met_fa (fx : Fx P w K T mg base) : DFa P w K T mg base 6 ("met", none) ["one", "other"] sp_met :=
  dfa_of fx.fd_met sc_met (fun _ _ _ _ _ _ us hl => match us, hl with | [_, _], _ => rfl) (fun cdv A outer s H E hcd hr => (qs_cons (qs_expr (q_call (need_both_ok fx) hr (by decide) (LN.takes_of rfl rfl rfl rfl) rfl (qa_cons (qv 0) (qa_cons (qv 1) qa_nil)))) (qs_one (qs_ret (q_call (met_of_ok fx) hr (by decide) (LN.takes_of rfl rfl rfl rfl) rfl (qa_cons (qv 0) (qa_cons (qv 1) qa_nil)))))))
theorem met_ok (fx : Fx P w K T mg base) : DFn P w K T mg base 6 "met" ["one", "other"] sp_met := (met_fa fx).fn fx.mg_met
def t_rights_text : DTS := (sSeq (sDrop (dCall sp_need_rights (dCons (dVar 0) dNil))) (sSeq (sSet 1 (dLst (dCons (dB pyStr (dCons (dOp pyItem (dVar 0) (dC (.int 0))) dNil)) dNil))) (sSeq (sFor (dZip (dCons (dC (.str "?!<>")) (dCons (dSlice (dVar 0) (dPart (dC (.int 1))) dNoPart) dNil))) (.t [2, 3]) (sSet 1 (dOp pyAdd (dVar 1) (dLc (dIter (dVar 3)) (.n 4) dYes (dOp pyAdd (dVar 2) (dVar 4)) [4])))) (sRet (dMt "str" mJoin (dC (.str " ")) (dCons (dVar 1) dNil))))))
abbrev sp_rights_text : DSp := spOf ["rights", "words", "sign", "row", "word"] 1 t_rights_text
def e_rights_text : List D → Option (Except DX D) := fnE ["rights", "words", "sign", "row", "word"] 1 (xSeq (xDrop (eCall e_need_rights (eCons (eVar 0) (eC [])))) (xSeq (xSet 1 (eLst (eCons (eB pyStr (eCons (eOp pyItem (eVar 0) (eC (.int 0))) (eC []))) (eC [])))) (xSeq (xFor (eZip (eCons (eC (.str "?!<>")) (eCons (eSlice (eVar 0) (ePart (eC (.int 1))) (eC none)) (eC [])))) (.t [2, 3]) (xSet 1 (eOp pyAdd (eVar 1) (eLc (eIter (eVar 3)) (.n 4) (eC true) (eOp pyAdd (eVar 2) (eVar 4)) [4])))) (xRet (eMt "str" mJoin (eC (.str " ")) (eCons (eVar 1) (eC [])))))))
theorem ev_rights_text : EvF sp_rights_text e_rights_text := evf (xv_seq (xv_drop (ev_call ev_need_rights (ev_cons (ev_var 0) (ev_nil)))) (xv_seq (xv_set (ev_lst (ev_cons (ev_b m_str (ev_cons (ev_op m_item (ev_var 0) (ev_c _)) (ev_nil))) (ev_nil)))) (xv_seq (xv_for (ev_zip (ev_cons (ev_c _) (ev_cons (ev_slice (ev_var 0) (ev_part (ev_c _)) (ev_noPart)) (ev_nil)))) (xv_set (ev_op m_add (ev_var 1) (ev_lc (ev_iter (ev_var 3)) (ev_yes) (ev_op m_add (ev_var 2) (ev_var 4)))))) (xv_ret (ev_mt m_join (ev_c _) (ev_cons (ev_var 1) (ev_nil)))))))
theorem sc_rights_text : FnScope ["rights", "words", "sign", "row", "word"] ["rights"] (defScope s_rights_text) := ⟨rfl, rfl, rfl, by decide +kernel, rfl, by decide +kernel, by decide +kernel⟩
theorem rights_text_fa (fx : Fx P w K T mg base) : DFa P w K T mg base 5 ("rights_text", none) ["rights"] sp_rights_text :=
  dfa_of fx.fd_rights_text sc_rights_text (fun _ _ _ _ _ _ us hl => match us, hl with | [_], _ => rfl) (fun cdv A outer s H E hcd hr => (qs_cons (qs_expr (q_call (need_rights_ok fx) hr (by decide) (LN.takes_of rfl rfl rfl rfl) rfl (qa_cons (qv 0) qa_nil))) (qs_cons (qs_set sc_rights_text.nd rfl (by first | exact Or.inl rfl | exact Or.inr rfl) (q_lst (qa_cons (q_callTy call_pyStr rfl (fx.free "str" (by decide)) boot_str (qa_cons (q_item (hu_of hr) (qv 0) (q_int)) qa_nil)) qa_nil))) (qs_cons (qs_for (passes_of rfl) rfl (qi_zip rfl (fx.free "zip" (by decide)) (qa_cons (q_gstr rfl fx.gs_SIGNS) (qa_cons (q_slice (qv 0) (qo_some (q_int)) qo_none) qa_nil))) (pg_tup rfl (pgs_cons (pg_name sc_rights_text.nd rfl (by first | exact Or.inl rfl | exact Or.inr rfl)) (pgs_cons (pg_name sc_rights_text.nd rfl (by first | exact Or.inl rfl | exact Or.inr rfl)) pgs_nil))) (qs_one (qs_set sc_rights_text.nd rfl (by first | exact Or.inl rfl | exact Or.inr rfl) (q_op op_pyAdd (qv 1) (q_lc [("word", 4)] rfl sc_rights_text.nd (qi_it (qv 3)) (blkOk_by (by kernel_rfl)) rfl (fun s H C cl fp => (pg_name sc_rights_text.nd rfl (by first | exact Or.inl rfl | exact Or.inr rfl))) (fun s H C cl fp => qts_nil) (fun s H C cl fp => (q_op op_pyAdd (qv 2) (qv 4)))))))) (qs_one (qs_ret (q_mt PySem.F.plainAttrs_str PySem.F.slot_str_join PySem.F.type_str_join mt_mJoin (q_str) (qa_cons (qv 1) qa_nil))))))))
theorem rights_text_ok (fx : Fx P w K T mg base) : DFn P w K T mg base 5 "rights_text" ["rights"] sp_rights_text := (rights_text_fa fx).fn fx.mg_rights_text
def t_within : DTS := (sSeq (sDrop (dCall sp_need_both (dCons (dVar 0) (dCons (dVar 1) dNil)))) (sRet (dOp pyEq (dCall sp_excess_of (dCons (dVar 0) (dCons (dVar 1) dNil))) (dLst dNil))))
abbrev sp_within : DSp := spOf ["one", "other"] 2 t_within
theorem sc_within : FnScope ["one", "other"] ["one", "other"] (defScope s_within) := ⟨rfl, rfl, rfl, by decide +kernel, rfl, by decide +kernel, by decide +kernel⟩
theorem within_fa (fx : Fx P w K T mg base) : DFa P w K T mg base 6 ("within", none) ["one", "other"] sp_within :=
  dfa_of fx.fd_within sc_within (fun _ _ _ _ _ _ us hl => match us, hl with | [_, _], _ => rfl) (fun cdv A outer s H E hcd hr => (qs_cons (qs_expr (q_call (need_both_ok fx) hr (by decide) (LN.takes_of rfl rfl rfl rfl) rfl (qa_cons (qv 0) (qa_cons (qv 1) qa_nil)))) (qs_one (qs_ret (q_cmp (op_pyEq hr.units) (q_call (excess_of_ok fx) hr (by decide) (LN.takes_of rfl rfl rfl rfl) rfl (qa_cons (qv 0) (qa_cons (qv 1) qa_nil))) (q_lst qa_nil) (nomark _))))))
theorem within_ok (fx : Fx P w K T mg base) : DFn P w K T mg base 6 "within" ["one", "other"] sp_within := (within_fa fx).fn fx.mg_within
def t__law_rights_refused : DTS := (sSeq (sSet 1 (dLst (dCons (dC .non) (dCons (dC (.int 5)) (dCons (dTup dNil) (dCons (dTup (dCons (dC (.int 1)) (dCons (dTup dNil) (dCons (dTup dNil) (dCons (dTup dNil) dNil))))) (dCons (dTup (dCons (dC (.int 61)) (dCons (dTup dNil) (dCons (dTup dNil) (dCons (dTup dNil) (dCons (dTup dNil) dNil)))))) (dCons (dTup (dCons (dUn pyNeg (dC (.int 1))) (dCons (dTup dNil) (dCons (dTup dNil) (dCons (dTup dNil) (dCons (dTup dNil) dNil)))))) dNil)))))))) (sSeq (sSet 1 (dOp pyAdd (dVar 1) (dLst (dCons (dTup (dCons (dC (.bl true)) (dCons (dTup dNil) (dCons (dTup dNil) (dCons (dTup dNil) (dCons (dTup dNil) dNil)))))) (dCons (dTup (dCons (dC (.int 1)) (dCons (dLst dNil) (dCons (dTup dNil) (dCons (dTup dNil) (dCons (dTup dNil) dNil)))))) dNil))))) (sSeq (sSet 1 (dOp pyAdd (dVar 1) (dLst (dCons (dTup (dCons (dC (.int 1)) (dCons (dTup (dCons (dC (.str "b")) (dCons (dC (.str "a")) dNil))) (dCons (dTup dNil) (dCons (dTup dNil) (dCons (dTup dNil) dNil)))))) (dCons (dTup (dCons (dC (.int 1)) (dCons (dTup (dCons (dC (.str "a")) (dCons (dC (.str "a")) dNil))) (dCons (dTup dNil) (dCons (dTup dNil) (dCons (dTup dNil) dNil)))))) (dCons (dTup (dCons (dC (.int 1)) (dCons (dTup (dCons (dC (.str "A")) dNil)) (dCons (dTup dNil) (dCons (dTup dNil) (dCons (dTup dNil) dNil)))))) dNil)))))) (sSeq (sSet 1 (dOp pyAdd (dVar 1) (dLst (dCons (dLst (dCons (dC (.int 1)) (dCons (dTup dNil) (dCons (dTup dNil) (dCons (dTup dNil) (dCons (dTup dNil) dNil)))))) dNil)))) (sSeq (sSet 1 (dOp pyAdd (dVar 1) (dLst (dCons (dTup (dCons (dC (.int 1)) (dCons (dB pyTupS (dCons (dC (.str "abcdefg")) dNil)) (dCons (dTup dNil) (dCons (dTup dNil) (dCons (dTup dNil) dNil)))))) (dCons (dTup (dCons (dC (.int 1)) (dCons (dTup dNil) (dCons (dTup dNil) (dCons (dTup dNil) (dCons (dTup (dCons (dC (.int 5)) dNil)) dNil)))))) (dCons (dTup (dCons (dC (.int 1)) (dCons (dTup dNil) (dCons (dTup dNil) (dCons (dTup dNil) (dCons (dTup dNil) (dCons (dTup dNil) dNil))))))) dNil)))))) (sSeq (sFor (dIter (dVar 1)) (.n 2) (sSeq (sSet 3 (dLstB (dCons (dTold (dCall sp_within (dCons (dVar 2) (dCons (dVar 0) dNil)))) dNil))) (sSeq (sDrop (dMt "list" mAppend (dVar 3) (dCons (dTold (dCall sp_met (dCons (dVar 0) (dCons (dVar 2) dNil)))) dNil))) (sSeq (sDrop (dMt "list" mAppend (dVar 3) (dCons (dTold (dCall sp_joined (dCons (dVar 2) (dCons (dVar 0) dNil)))) dNil))) (sSeq (sDrop (dMt "list" mAppend (dVar 3) (dCons (dTold (dCall sp_beyond (dCons (dVar 0) (dCons (dVar 2) dNil)))) dNil))) (sSeq (sDrop (dMt "list" mAppend (dVar 3) (dCons (dTold (dCall sp_rights_text (dCons (dVar 2) dNil))) dNil))) (sSeq (sDrop (dMt "list" mAppend (dVar 3) (dCons (dTold (dMake "Cage" sp_Cage___init__ (dCons (dVar 2) dNil))) dNil))) (sIf (dOr (dTest (dOp pyIsNot (dCall sp_is_rights (dCons (dVar 2) dNil)) (dC (.bl false)))) (dTest (dOp pyNe (dVar 3) (dOp pyMul (dLst (dCons (dTup (dCons (dC (.str "refused")) (dCons (dC (.str "BadRights")) dNil))) dNil)) (dC (.int 6)))))) (sRet (dC (.bl false))) sNext)))))))) (sRet (dC (.bl true)))))))))
abbrev sp__law_rights_refused : DSp := spOf ["one", "bad", "thing", "made"] 1 t__law_rights_refused
theorem sc__law_rights_refused : FnScope ["one", "bad", "thing", "made"] ["one"] (defScope s__law_rights_refused) := ⟨rfl, rfl, rfl, by decide +kernel, rfl, by decide +kernel, by decide +kernel⟩
theorem lam__law_rights_refused (fx : Fx P w K T mg base) (cdv : Value) (A : Around) (outer : List Env) (s : Shared) (H : Hp) (E : XK) (hcd : cdv = .ref (He.codeOf K ("_law_rights_refused", none))) : LamT (cxOf (LN.CX P w) P w K mg base ["one", "bad", "thing", "made"] "_law_rights_refused" (defScope s__law_rights_refused) (He.fAd K ("_law_rights_refused", none)) cdv A outer s H E) T := by
  obtain ⟨Pt, tb, e, u⟩ := fx.lamt__law_rights_refused
  exact ⟨_, Pt, tb, hcd, e, u⟩
theorem _law_rights_refused_fa (fx : Fx P w K T mg base) : DFa P w K T mg base 10 ("_law_rights_refused", none) ["one"] sp__law_rights_refused :=
  dfa_of fx.fd__law_rights_refused sc__law_rights_refused (fun _ _ _ _ _ _ us hl => match us, hl with | [_], _ => rfl) (fun cdv A outer s H E hcd hr => (qs_cons (qs_set sc__law_rights_refused.nd rfl (by first | exact Or.inl rfl | exact Or.inr rfl) (q_lst (qa_cons (q_non) (qa_cons (q_int) (qa_cons (q_tup qa_nil) (qa_cons (q_tup (qa_cons (q_int) (qa_cons (q_tup qa_nil) (qa_cons (q_tup qa_nil) (qa_cons (q_tup qa_nil) qa_nil))))) (qa_cons (q_tup (qa_cons (q_int) (qa_cons (q_tup qa_nil) (qa_cons (q_tup qa_nil) (qa_cons (q_tup qa_nil) (qa_cons (q_tup qa_nil) qa_nil)))))) (qa_cons (q_tup (qa_cons (q_un un_pyNeg (q_int)) (qa_cons (q_tup qa_nil) (qa_cons (q_tup qa_nil) (qa_cons (q_tup qa_nil) (qa_cons (q_tup qa_nil) qa_nil)))))) qa_nil)))))))) (qs_cons (qs_set sc__law_rights_refused.nd rfl (by first | exact Or.inl rfl | exact Or.inr rfl) (q_op op_pyAdd (qv 1) (q_lst (qa_cons (q_tup (qa_cons (q_bl) (qa_cons (q_tup qa_nil) (qa_cons (q_tup qa_nil) (qa_cons (q_tup qa_nil) (qa_cons (q_tup qa_nil) qa_nil)))))) (qa_cons (q_tup (qa_cons (q_int) (qa_cons (q_lst qa_nil) (qa_cons (q_tup qa_nil) (qa_cons (q_tup qa_nil) (qa_cons (q_tup qa_nil) qa_nil)))))) qa_nil))))) (qs_cons (qs_set sc__law_rights_refused.nd rfl (by first | exact Or.inl rfl | exact Or.inr rfl) (q_op op_pyAdd (qv 1) (q_lst (qa_cons (q_tup (qa_cons (q_int) (qa_cons (q_tup (qa_cons (q_str) (qa_cons (q_str) qa_nil))) (qa_cons (q_tup qa_nil) (qa_cons (q_tup qa_nil) (qa_cons (q_tup qa_nil) qa_nil)))))) (qa_cons (q_tup (qa_cons (q_int) (qa_cons (q_tup (qa_cons (q_str) (qa_cons (q_str) qa_nil))) (qa_cons (q_tup qa_nil) (qa_cons (q_tup qa_nil) (qa_cons (q_tup qa_nil) qa_nil)))))) (qa_cons (q_tup (qa_cons (q_int) (qa_cons (q_tup (qa_cons (q_str) qa_nil)) (qa_cons (q_tup qa_nil) (qa_cons (q_tup qa_nil) (qa_cons (q_tup qa_nil) qa_nil)))))) qa_nil)))))) (qs_cons (qs_set sc__law_rights_refused.nd rfl (by first | exact Or.inl rfl | exact Or.inr rfl) (q_op op_pyAdd (qv 1) (q_lst (qa_cons (q_lst (qa_cons (q_int) (qa_cons (q_tup qa_nil) (qa_cons (q_tup qa_nil) (qa_cons (q_tup qa_nil) (qa_cons (q_tup qa_nil) qa_nil)))))) qa_nil)))) (qs_cons (qs_set sc__law_rights_refused.nd rfl (by first | exact Or.inl rfl | exact Or.inr rfl) (q_op op_pyAdd (qv 1) (q_lst (qa_cons (q_tup (qa_cons (q_int) (qa_cons (q_callTy (call_pyTupS rfl) rfl (fx.free "tuple" (by decide)) boot_tuple (qa_cons (q_str) qa_nil)) (qa_cons (q_tup qa_nil) (qa_cons (q_tup qa_nil) (qa_cons (q_tup qa_nil) qa_nil)))))) (qa_cons (q_tup (qa_cons (q_int) (qa_cons (q_tup qa_nil) (qa_cons (q_tup qa_nil) (qa_cons (q_tup qa_nil) (qa_cons (q_tup (qa_cons (q_int) qa_nil)) qa_nil)))))) (qa_cons (q_tup (qa_cons (q_int) (qa_cons (q_tup qa_nil) (qa_cons (q_tup qa_nil) (qa_cons (q_tup qa_nil) (qa_cons (q_tup qa_nil) (qa_cons (q_tup qa_nil) qa_nil))))))) qa_nil)))))) (qs_cons (qs_for (passes_of rfl) rfl (qi_it (qv 1)) (pg_name sc__law_rights_refused.nd rfl (by first | exact Or.inl rfl | exact Or.inr rfl)) (qs_cons (qs_set sc__law_rights_refused.nd rfl (by first | exact Or.inl rfl | exact Or.inr rfl) (q_lstB (qa_cons (q_told (_law_told_ok fx) (lam__law_rights_refused fx cdv A outer s H E hcd) rfl hr (by decide) (lamS_by (by kernel_rfl)) (fun A outer s H E f c2 hr => (q_call (within_ok fx) hr (by decide) takes_lam rfl (qa_cons (qv 2) (qa_cons (qv 0) qa_nil))))) qa_nil))) (qs_cons (qs_expr (q_mt PySem.F.plainAttrs_list PySem.F.slot_list_append PySem.F.type_list_append mt_mAppend (qv 3) (qa_cons (q_told (_law_told_ok fx) (lam__law_rights_refused fx cdv A outer s H E hcd) rfl hr (by decide) (lamS_by (by kernel_rfl)) (fun A outer s H E f c2 hr => (q_call (met_ok fx) hr (by decide) takes_lam rfl (qa_cons (qv 0) (qa_cons (qv 2) qa_nil))))) qa_nil))) (qs_cons (qs_expr (q_mt PySem.F.plainAttrs_list PySem.F.slot_list_append PySem.F.type_list_append mt_mAppend (qv 3) (qa_cons (q_told (_law_told_ok fx) (lam__law_rights_refused fx cdv A outer s H E hcd) rfl hr (by decide) (lamS_by (by kernel_rfl)) (fun A outer s H E f c2 hr => (q_call (joined_ok fx) hr (by decide) takes_lam rfl (qa_cons (qv 2) (qa_cons (qv 0) qa_nil))))) qa_nil))) (qs_cons (qs_expr (q_mt PySem.F.plainAttrs_list PySem.F.slot_list_append PySem.F.type_list_append mt_mAppend (qv 3) (qa_cons (q_told (_law_told_ok fx) (lam__law_rights_refused fx cdv A outer s H E hcd) rfl hr (by decide) (lamS_by (by kernel_rfl)) (fun A outer s H E f c2 hr => (q_call (beyond_ok fx) hr (by decide) takes_lam rfl (qa_cons (qv 0) (qa_cons (qv 2) qa_nil))))) qa_nil))) (qs_cons (qs_expr (q_mt PySem.F.plainAttrs_list PySem.F.slot_list_append PySem.F.type_list_append mt_mAppend (qv 3) (qa_cons (q_told (_law_told_ok fx) (lam__law_rights_refused fx cdv A outer s H E hcd) rfl hr (by decide) (lamS_by (by kernel_rfl)) (fun A outer s H E f c2 hr => (q_call (rights_text_ok fx) hr (by decide) takes_lam rfl (qa_cons (qv 2) qa_nil)))) qa_nil))) (qs_cons (qs_expr (q_mt PySem.F.plainAttrs_list PySem.F.slot_list_append PySem.F.type_list_append mt_mAppend (qv 3) (qa_cons (q_told (_law_told_ok fx) (lam__law_rights_refused fx cdv A outer s H E hcd) rfl hr (by decide) (lamS_by (by kernel_rfl)) (fun A outer s H E f c2 hr => (q_make fx.mk_Cage (Cage___init___ok fx) hr (by decide) takes_lam rfl fx.mg_Cage (qa_cons (qv 2) qa_nil)))) qa_nil))) (qs_one (qs_if (qt_w (qw_or (q_cmpT op_pyIsNot (q_call (is_rights_ok fx) hr (by decide) (LN.takes_of rfl rfl rfl rfl) rfl (qa_cons (qv 2) qa_nil)) (q_bl) (nomark _)) (qw_or1 (q_cmpT (op_pyNe hr.units) (qv 3) (q_op op_pyMul (q_lst (qa_cons (q_tup (qa_cons (q_str) (qa_cons (q_str) qa_nil))) qa_nil)) (q_int)) (nomark _))))) (qs_one (qs_ret (q_bl))) qs_nil))))))))) (qs_one (qs_ret (q_bl))))))))))
theorem _law_rights_refused_ok (fx : Fx P w K T mg base) : DFn P w K T mg base 10 "_law_rights_refused" ["one"] sp__law_rights_refused := (_law_rights_refused_fa fx).fn fx.mg__law_rights_refused
def t__law_cell : DTS := (sSeq (sIf (dTest (dOp pyEq (dVar 0) (dLst dNil))) (sRet (dOp pyMul (dVar 1) (dC (.int 7919)))) sNext) (sRet (dOp pyAdd (dOp pyItem (dVar 0) (dOp pyMod (dVar 1) (dB pyLen (dCons (dVar 0) dNil)))) (dOp pyMul (dOp pyDiv (dVar 1) (dB pyLen (dCons (dVar 0) dNil))) (dC (.int 104729))))))
abbrev sp__law_cell : DSp := spOf ["script", "k"] 2 t__law_cell
theorem sc__law_cell : FnScope ["script", "k"] ["script", "k"] (defScope s__law_cell) := ⟨rfl, rfl, rfl, by decide +kernel, rfl, by decide +kernel, by decide +kernel⟩
theorem _law_cell_fa (fx : Fx P w K T mg base) : DFa P w K T mg base 1 ("_law_cell", none) ["script", "k"] sp__law_cell :=
  dfa_of fx.fd__law_cell sc__law_cell (fun _ _ _ _ _ _ us hl => match us, hl with | [_, _], _ => rfl) (fun cdv A outer s H E hcd hr => (qs_cons (qs_if (q_cmpT (op_pyEq hr.units) (qv 0) (q_lst qa_nil) (nomark _)) (qs_one (qs_ret (q_op op_pyMul (qv 1) (q_int)))) qs_nil) (qs_one (qs_ret (q_op op_pyAdd (q_item (hu_of hr) (qv 0) (q_op op_pyMod (qv 1) (q_callB call_pyLen rfl (fx.free "len" (by decide)) boot_len (qa_cons (qv 0) qa_nil)))) (q_op op_pyMul (q_op op_pyDiv (qv 1) (q_callB call_pyLen rfl (fx.free "len" (by decide)) boot_len (qa_cons (qv 0) qa_nil))) (q_int)))))))
theorem _law_cell_ok (fx : Fx P w K T mg base) : DFn P w K T mg base 1 "_law_cell" ["script", "k"] sp__law_cell := (_law_cell_fa fx).fn fx.mg__law_cell
def t__law_rounds : DTS := (sRet (dLc (dRange1 (dCons (dB pyMax2 (dCons (dC (.int 1)) (dCons (dB pyMin2 (dCons (dVar 1) (dCons (dB pyLen (dCons (dVar 0) dNil)) dNil))) dNil))) dNil)) (.n 2) dYes (dLstB (dCons (dCall sp__law_cell (dCons (dVar 0) (dCons (dVar 2) dNil))) (dCons (dC (.int 0)) dNil))) [2]))
abbrev sp__law_rounds : DSp := spOf ["script", "high", "k"] 2 t__law_rounds
theorem sc__law_rounds : FnScope ["script", "high", "k"] ["script", "high"] (defScope s__law_rounds) := ⟨rfl, rfl, rfl, by decide +kernel, rfl, by decide +kernel, by decide +kernel⟩
theorem _law_rounds_fa (fx : Fx P w K T mg base) : DFa P w K T mg base 2 ("_law_rounds", none) ["script", "high"] sp__law_rounds :=
  dfa_of fx.fd__law_rounds sc__law_rounds (fun _ _ _ _ _ _ us hl => match us, hl with | [_, _], _ => rfl) (fun cdv A outer s H E hcd hr => (qs_one (qs_ret (q_lc [("k", 2)] rfl sc__law_rounds.nd (qi_range1 rfl (fx.free "range" (by decide)) (qa_cons (q_callB (call_pyMax2 rfl) rfl (fx.free "max" (by decide)) boot_max (qa_cons (q_int) (qa_cons (q_callB (call_pyMin2 rfl) rfl (fx.free "min" (by decide)) boot_min (qa_cons (qv 1) (qa_cons (q_callB call_pyLen rfl (fx.free "len" (by decide)) boot_len (qa_cons (qv 0) qa_nil)) qa_nil))) qa_nil))) qa_nil)) (blkOk_by (by kernel_rfl)) rfl (fun s H C cl fp => (pg_name sc__law_rounds.nd rfl (by first | exact Or.inl rfl | exact Or.inr rfl))) (fun s H C cl fp => qts_nil) (fun s H C cl fp => (q_lstB (qa_cons (q_call (_law_cell_ok fx) hr (by decide) takesF rfl (qa_cons (qv 0) (qa_cons (qv 2) qa_nil))) (qa_cons (q_int) qa_nil))))))))
theorem _law_rounds_ok (fx : Fx P w K T mg base) : DFn P w K T mg base 2 "_law_rounds" ["script", "high"] sp__law_rounds := (_law_rounds_fa fx).fn fx.mg__law_rounds
def t_law : DTS := (sSeq (sFor (dIter (dCall sp__law_rounds (dCons (dVar 0) (dCons (dC (.int 5)) dNil)))) (.n 1) (sSeq (sPar [2, 3] (dCons (dCall sp__law_any_rights (dCons (dVar 1) dNil)) (dCons (dCall sp__law_any_rights (dCons (dVar 1) dNil)) dNil))) (sSeq (sSet 4 (dCall sp__law_any_rights (dCons (dVar 1) dNil))) (sSeq (sTg (.t [5, 6]) (dTup (dCons (dCall sp__law_has (dCons (dVar 2) dNil)) (dCons (dCall sp__law_has (dCons (dVar 3) dNil)) dNil)))) (sSeq (sSet 7 (dB pySortedX (dCons (dOp pyAdd (dLc (dIter (dVar 5)) (.n 8) (dTest (dOp pyNotInT (dVar 8) (dVar 6))) (dVar 8) [8]) (dOp pyMul (dLst (dCons (dTup (dCons (dC (.str "room")) (dCons (dOp pyItem (dVar 2) (dC (.int 0))) dNil))) dNil)) (dB pyIntS (dCons (dOp pyGt (dOp pyItem (dVar 2) (dC (.int 0))) (dOp pyItem (dVar 3) (dC (.int 0)))) dNil)))) dNil))) (sSeq (sIf (dOr (dTest (dOp pyNe (dCall sp_beyond (dCons (dVar 2) (dCons (dVar 3) dNil))) (dVar 7))) (dTest (dOp pyNe (dCall sp_within (dCons (dVar 2) (dCons (dVar 3) dNil))) (dOp pyEq (dVar 7) (dLst dNil))))) (sRet (dC (.bl false))) sNext) (sSeq (sIf (dTest (dOp pyIsNot (dCall sp_is_rights (dCons (dVar 2) dNil)) (dC (.bl true)))) (sRet (dC (.bl false))) sNext) (sSeq (sPar [9, 10] (dCons (dCall sp_met (dCons (dVar 2) (dCons (dVar 3) dNil))) (dCons (dCall sp_joined (dCons (dVar 2) (dCons (dVar 3) dNil))) dNil))) (sSeq (sIf (dOr (dTest (dOp pyNe (dCall sp__law_has (dCons (dVar 9) dNil)) (dLc (dIter (dVar 5)) (.n 8) (dTest (dOp pyInT (dVar 8) (dVar 6))) (dVar 8) [8]))) (dTest (dOp pyNe (dOp pyItem (dVar 9) (dC (.int 0))) (dB pyMin2 (dCons (dOp pyItem (dVar 2) (dC (.int 0))) (dCons (dOp pyItem (dVar 3) (dC (.int 0))) dNil)))))) (sRet (dC (.bl false))) sNext) (sSeq (sIf (dOr (dTest (dOp pyNe (dCall sp__law_has (dCons (dVar 10) dNil)) (dB pySortedSetN (dCons (dOp pyAdd (dVar 5) (dVar 6)) dNil)))) (dTest (dOp pyNe (dOp pyItem (dVar 10) (dC (.int 0))) (dB pyMax2 (dCons (dOp pyItem (dVar 2) (dC (.int 0))) (dCons (dOp pyItem (dVar 3) (dC (.int 0))) dNil)))))) (sRet (dC (.bl false))) sNext) (sSeq (sIf (dOr (dNot (dTest (dCall sp_within (dCons (dVar 9) (dCons (dVar 2) dNil))))) (dOr (dNot (dTest (dCall sp_within (dCons (dVar 9) (dCons (dVar 3) dNil))))) (dNot (dTest (dCall sp_within (dCons (dVar 2) (dCons (dVar 10) dNil))))))) (sRet (dC (.bl false))) sNext) (sSeq (sIf (dTest (dOp pyNe (dCall sp_beyond (dCons (dVar 10) (dCons (dVar 10) dNil))) (dLst dNil))) (sRet (dC (.bl false))) sNext) (sSeq (sIf (dAnd (dTest (dCall sp_within (dCons (dVar 4) (dCons (dVar 2) dNil)))) (dAnd (dTest (dCall sp_within (dCons (dVar 4) (dCons (dVar 3) dNil)))) (dNot (dTest (dCall sp_within (dCons (dVar 4) (dCons (dVar 9) dNil))))))) (sRet (dC (.bl false))) sNext) (sSeq (sIf (dOr (dTest (dOp pyNe (dCall sp_met (dCons (dVar 2) (dCons (dVar 10) dNil))) (dVar 2))) (dTest (dOp pyNe (dCall sp_joined (dCons (dVar 2) (dCons (dVar 9) dNil))) (dVar 2)))) (sRet (dC (.bl false))) sNext) (sSeq (sIf (dTest (dOp pyNe (dCall sp_met (dCons (dVar 2) (dCons (dCall sp_met (dCons (dVar 3) (dCons (dVar 4) dNil))) dNil))) (dCall sp_met (dCons (dVar 9) (dCons (dVar 4) dNil))))) (sRet (dC (.bl false))) sNext) (sSeq (sIf (dNot (dTest (dCall sp__law_rights_refused (dCons (dVar 2) dNil)))) (sRet (dC (.bl false))) sNext) (sSeq (sTg (.t [11, 12]) (dTup (dCons (dTup (dCons (dC (.int 1)) (dCons (dB pyTupS (dCons (dC (.str "abcdef")) dNil)) (dCons (dTup dNil) (dCons (dTup dNil) (dCons (dTup dNil) dNil)))))) (dCons (dTup (dCons (dC (.int 1)) (dCons (dTup (dCons (dC (.str "g")) dNil)) (dCons (dTup dNil) (dCons (dTup dNil) (dCons (dTup dNil) dNil)))))) dNil)))) (sIf (dOr (dTest (dOp pyNe (dTold (dCall sp_joined (dCons (dVar 11) (dCons (dVar 12) dNil)))) (dTup (dCons (dC (.str "refused")) (dCons (dC (.str "BadRights")) dNil))))) (dTest (dOp pyNe (dCall sp_joined (dCons (dVar 11) (dCons (dVar 11) dNil))) (dVar 11)))) (sRet (dC (.bl false))) sNext)))))))))))))))))) (sRet (dC (.bl true))))
abbrev sp_law : DSp := spOf ["script", "dice", "one", "other", "third", "mine", "yours", "excess", "row", "both", "either", "six", "more"] 1 t_law
theorem sc_law : FnScope ["script", "dice", "one", "other", "third", "mine", "yours", "excess", "row", "both", "either", "six", "more"] ["script"] (defScope s_law) := ⟨rfl, rfl, rfl, by decide +kernel, rfl, by decide +kernel, by decide +kernel⟩
theorem lam_law (fx : Fx P w K T mg base) (cdv : Value) (A : Around) (outer : List Env) (s : Shared) (H : Hp) (E : XK) (hcd : cdv = .ref (He.codeOf K ("law", none))) : LamT (cxOf (LN.CX P w) P w K mg base ["script", "dice", "one", "other", "third", "mine", "yours", "excess", "row", "both", "either", "six", "more"] "law" (defScope s_law) (He.fAd K ("law", none)) cdv A outer s H E) T := by
  obtain ⟨Pt, tb, e, u⟩ := fx.lamt_law
  exact ⟨_, Pt, tb, hcd, e, u⟩
theorem law_fn (fx : Fx P w K T mg base) {fd : FuncData} (F : FunD K "law" "law" (defArgs s_law) (defBody s_law) (defScope s_law) [] [] (He.fAd K ("law", none)) fd) : FnOk P w K mg base (LN.CX P w) 11 (He.fAd K ("law", none)) fd ["script"] (liftSp K T sp_law) :=
  fna_of F sc_law (fun cdv A outer s H E hcd hr => (qs_cons (qs_for (passes_of rfl) rfl (qi_it (q_call (_law_rounds_ok fx) hr (by decide) (LN.takes_of rfl rfl rfl rfl) rfl (qa_cons (qv 0) (qa_cons (q_int) qa_nil)))) (pg_name sc_law.nd rfl (by first | exact Or.inl rfl | exact Or.inr rfl)) (qs_cons (qs_par rfl sc_law.nd rfl rfl (by decide) rfl rfl (qa_cons (q_call (_law_any_rights_ok fx) hr (by decide) (LN.takes_of rfl rfl rfl rfl) rfl (qa_cons (qv 1) qa_nil)) (qa_cons (q_call (_law_any_rights_ok fx) hr (by decide) (LN.takes_of rfl rfl rfl rfl) rfl (qa_cons (qv 1) qa_nil)) qa_nil)) rfl) (qs_cons (qs_set sc_law.nd rfl (by first | exact Or.inl rfl | exact Or.inr rfl) (q_call (_law_any_rights_ok fx) hr (by decide) (LN.takes_of rfl rfl rfl rfl) rfl (qa_cons (qv 1) qa_nil))) (qs_cons (qs_tg (q_tup (qa_cons (q_call (_law_has_ok fx) hr (by decide) (LN.takes_of rfl rfl rfl rfl) rfl (qa_cons (qv 2) qa_nil)) (qa_cons (q_call (_law_has_ok fx) hr (by decide) (LN.takes_of rfl rfl rfl rfl) rfl (qa_cons (qv 3) qa_nil)) qa_nil))) (pg_tup rfl (pgs_cons (pg_name sc_law.nd rfl (by first | exact Or.inl rfl | exact Or.inr rfl)) (pgs_cons (pg_name sc_law.nd rfl (by first | exact Or.inl rfl | exact Or.inr rfl)) pgs_nil)))) (qs_cons (qs_set sc_law.nd rfl (by first | exact Or.inl rfl | exact Or.inr rfl) (q_callB (call_pySortedX rfl) rfl (fx.free "sorted" (by decide)) boot_sorted (qa_cons (q_op op_pyAdd (q_lc [("row", 8)] rfl sc_law.nd (qi_it (qv 5)) (blkOk_by (by kernel_rfl)) rfl (fun s H C cl fp => (pg_name sc_law.nd rfl (by first | exact Or.inl rfl | exact Or.inr rfl))) (fun s H C cl fp => (qts_one (q_cmpT (op_pyNotInT (hu65 hr)) (qv 8) (qv 6) rfl))) (fun s H C cl fp => (qv 8))) (q_op op_pyMul (q_lst (qa_cons (q_tup (qa_cons (q_str) (qa_cons (q_item (hu_of hr) (qv 2) (q_int)) qa_nil))) qa_nil)) (q_callTy call_pyIntS rfl (fx.free "int" (by decide)) boot_int (qa_cons (q_cmp op_pyGt (q_item (hu_of hr) (qv 2) (q_int)) (q_item (hu_of hr) (qv 3) (q_int)) (nomark _)) qa_nil)))) qa_nil))) (qs_cons (qs_if (qt_w (qw_or (q_cmpT (op_pyNe hr.units) (q_call (beyond_ok fx) hr (by decide) (LN.takes_of rfl rfl rfl rfl) rfl (qa_cons (qv 2) (qa_cons (qv 3) qa_nil))) (qv 7) (nomark _)) (qw_or1 (q_cmpT (op_pyNe hr.units) (q_call (within_ok fx) hr (by decide) (LN.takes_of rfl rfl rfl rfl) rfl (qa_cons (qv 2) (qa_cons (qv 3) qa_nil))) (q_cmp (op_pyEq hr.units) (qv 7) (q_lst qa_nil) (nomark _)) (nomark _))))) (qs_one (qs_ret (q_bl))) qs_nil) (qs_cons (qs_if (q_cmpT op_pyIsNot (q_call (is_rights_ok fx) hr (by decide) (LN.takes_of rfl rfl rfl rfl) rfl (qa_cons (qv 2) qa_nil)) (q_bl) (nomark _)) (qs_one (qs_ret (q_bl))) qs_nil) (qs_cons (qs_par rfl sc_law.nd rfl rfl (by decide) rfl rfl (qa_cons (q_call (met_ok fx) hr (by decide) (LN.takes_of rfl rfl rfl rfl) rfl (qa_cons (qv 2) (qa_cons (qv 3) qa_nil))) (qa_cons (q_call (joined_ok fx) hr (by decide) (LN.takes_of rfl rfl rfl rfl) rfl (qa_cons (qv 2) (qa_cons (qv 3) qa_nil))) qa_nil)) rfl) (qs_cons (qs_if (qt_w (qw_or (q_cmpT (op_pyNe hr.units) (q_call (_law_has_ok fx) hr (by decide) (LN.takes_of rfl rfl rfl rfl) rfl (qa_cons (qv 9) qa_nil)) (q_lc [("row", 8)] rfl sc_law.nd (qi_it (qv 5)) (blkOk_by (by kernel_rfl)) rfl (fun s H C cl fp => (pg_name sc_law.nd rfl (by first | exact Or.inl rfl | exact Or.inr rfl))) (fun s H C cl fp => (qts_one (q_cmpT (op_pyInT (hu65 hr)) (qv 8) (qv 6) rfl))) (fun s H C cl fp => (qv 8))) (nomark _)) (qw_or1 (q_cmpT (op_pyNe hr.units) (q_item (hu_of hr) (qv 9) (q_int)) (q_callB (call_pyMin2 rfl) rfl (fx.free "min" (by decide)) boot_min (qa_cons (q_item (hu_of hr) (qv 2) (q_int)) (qa_cons (q_item (hu_of hr) (qv 3) (q_int)) qa_nil))) (nomark _))))) (qs_one (qs_ret (q_bl))) qs_nil) (qs_cons (qs_if (qt_w (qw_or (q_cmpT (op_pyNe hr.units) (q_call (_law_has_ok fx) hr (by decide) (LN.takes_of rfl rfl rfl rfl) rfl (qa_cons (qv 10) qa_nil)) (q_sortedSetN rfl (hu64 hr) rfl (fx.free "sorted" (by decide)) rfl (fx.free "set" (by decide)) (q_op op_pyAdd (qv 5) (qv 6))) (nomark _)) (qw_or1 (q_cmpT (op_pyNe hr.units) (q_item (hu_of hr) (qv 10) (q_int)) (q_callB (call_pyMax2 rfl) rfl (fx.free "max" (by decide)) boot_max (qa_cons (q_item (hu_of hr) (qv 2) (q_int)) (qa_cons (q_item (hu_of hr) (qv 3) (q_int)) qa_nil))) (nomark _))))) (qs_one (qs_ret (q_bl))) qs_nil) (qs_cons (qs_if (qt_w (qw_or (qt_not (qt_val (q_call (within_ok fx) hr (by decide) (LN.takes_of rfl rfl rfl rfl) rfl (qa_cons (qv 9) (qa_cons (qv 2) qa_nil))))) (qw_or (qt_not (qt_val (q_call (within_ok fx) hr (by decide) (LN.takes_of rfl rfl rfl rfl) rfl (qa_cons (qv 9) (qa_cons (qv 3) qa_nil))))) (qw_or1 (qt_not (qt_val (q_call (within_ok fx) hr (by decide) (LN.takes_of rfl rfl rfl rfl) rfl (qa_cons (qv 2) (qa_cons (qv 10) qa_nil))))))))) (qs_one (qs_ret (q_bl))) qs_nil) (qs_cons (qs_if (q_cmpT (op_pyNe hr.units) (q_call (beyond_ok fx) hr (by decide) (LN.takes_of rfl rfl rfl rfl) rfl (qa_cons (qv 10) (qa_cons (qv 10) qa_nil))) (q_lst qa_nil) (nomark _)) (qs_one (qs_ret (q_bl))) qs_nil) (qs_cons (qs_if (qt_w (qw_and (qt_val (q_call (within_ok fx) hr (by decide) (LN.takes_of rfl rfl rfl rfl) rfl (qa_cons (qv 4) (qa_cons (qv 2) qa_nil)))) (qw_and (qt_val (q_call (within_ok fx) hr (by decide) (LN.takes_of rfl rfl rfl rfl) rfl (qa_cons (qv 4) (qa_cons (qv 3) qa_nil)))) (qw_and1 (qt_not (qt_val (q_call (within_ok fx) hr (by decide) (LN.takes_of rfl rfl rfl rfl) rfl (qa_cons (qv 4) (qa_cons (qv 9) qa_nil))))))))) (qs_one (qs_ret (q_bl))) qs_nil) (qs_cons (qs_if (qt_w (qw_or (q_cmpT (op_pyNe hr.units) (q_call (met_ok fx) hr (by decide) (LN.takes_of rfl rfl rfl rfl) rfl (qa_cons (qv 2) (qa_cons (qv 10) qa_nil))) (qv 2) (nomark _)) (qw_or1 (q_cmpT (op_pyNe hr.units) (q_call (joined_ok fx) hr (by decide) (LN.takes_of rfl rfl rfl rfl) rfl (qa_cons (qv 2) (qa_cons (qv 9) qa_nil))) (qv 2) (nomark _))))) (qs_one (qs_ret (q_bl))) qs_nil) (qs_cons (qs_if (q_cmpT (op_pyNe hr.units) (q_call (met_ok fx) hr (by decide) (LN.takes_of rfl rfl rfl rfl) rfl (qa_cons (qv 2) (qa_cons (q_call (met_ok fx) hr (by decide) (LN.takes_of rfl rfl rfl rfl) rfl (qa_cons (qv 3) (qa_cons (qv 4) qa_nil))) qa_nil))) (q_call (met_ok fx) hr (by decide) (LN.takes_of rfl rfl rfl rfl) rfl (qa_cons (qv 9) (qa_cons (qv 4) qa_nil))) (nomark _)) (qs_one (qs_ret (q_bl))) qs_nil) (qs_cons (qs_if (qt_not (qt_val (q_call (_law_rights_refused_ok fx) hr (by decide) (LN.takes_of rfl rfl rfl rfl) rfl (qa_cons (qv 2) qa_nil)))) (qs_one (qs_ret (q_bl))) qs_nil) (qs_cons (qs_tg (q_tup (qa_cons (q_tup (qa_cons (q_int) (qa_cons (q_callTy (call_pyTupS rfl) rfl (fx.free "tuple" (by decide)) boot_tuple (qa_cons (q_str) qa_nil)) (qa_cons (q_tup qa_nil) (qa_cons (q_tup qa_nil) (qa_cons (q_tup qa_nil) qa_nil)))))) (qa_cons (q_tup (qa_cons (q_int) (qa_cons (q_tup (qa_cons (q_str) qa_nil)) (qa_cons (q_tup qa_nil) (qa_cons (q_tup qa_nil) (qa_cons (q_tup qa_nil) qa_nil)))))) qa_nil))) (pg_tup rfl (pgs_cons (pg_name sc_law.nd rfl (by first | exact Or.inl rfl | exact Or.inr rfl)) (pgs_cons (pg_name sc_law.nd rfl (by first | exact Or.inl rfl | exact Or.inr rfl)) pgs_nil)))) (qs_one (qs_if (qt_w (qw_or (q_cmpT (op_pyNe hr.units) (q_told (_law_told_ok fx) (lam_law fx cdv A outer s H E hcd) rfl hr (by decide) (lamS_by (by kernel_rfl)) (fun A outer s H E f c2 hr => (q_call (joined_ok fx) hr (by decide) takes_lam rfl (qa_cons (qv 11) (qa_cons (qv 12) qa_nil))))) (q_tup (qa_cons (q_str) (qa_cons (q_str) qa_nil))) (nomark _)) (qw_or1 (q_cmpT (op_pyNe hr.units) (q_call (joined_ok fx) hr (by decide) (LN.takes_of rfl rfl rfl rfl) rfl (qa_cons (qv 11) (qa_cons (qv 11) qa_nil))) (qv 11) (nomark _))))) (qs_one (qs_ret (q_bl))) qs_nil))))))))))))))))))) (qs_one (qs_ret (q_bl)))))
end
end K03

/-! programs.py, rights.py, texts.py: what their twins tell, in plain Lean -/
namespace PL
open DL PySem
def lst_FORMS : List (String × String) := [("set", "rn"), ("copy", "rr"), ("add", "rr"), ("take", "rr"), ("less", "rr"), ("go", "g"), ("zero", "rg"), ("read", "rr"), ("write", "rr"), ("ask", "rw"), ("tell", "rw"), ("look", "rrw"), ("mark", "rrw"), ("end", "")]
def e_is_whole : List D → Option (Except DX D) := fnE ["thing", "low", "high"] 3 (xRet (eAndV (eUn (pyIsi "int") (eVar 0)) (eAndV (eNotV (eUn (pyIsi "bool") (eVar 0))) (eChain pyLe pyLe (eVar 1) (eVar 0) (eVar 2)))))
def e_is_word : List D → Option (Except DX D) := fnE ["thing", "sign"] 1 (xRet (eAndV (eUn (pyIsi "str") (eVar 0)) (eAndV (eChain pyLe pyLe (eC (.int 1)) (eB pyLen (eCons (eVar 0) (eC []))) (eC (.int 8))) (eB pyAll (eCons (eLc (eIter (eVar 0)) (.n 1) (eC true) (eOp pyIn (eVar 1) (eC (.str "abcdefghijklmnopqrstuvwxyz"))) [1]) (eC []))))))
def e_is_row : List D → Option (Except DX D) := fnE ["thing", "one", "other"] 1 (xSeq (xIf (eOr (eNot (eTest (eUn (pyIsi "tuple") (eVar 0)))) (eOr (eTest (eOp pyGt (eB pyLen (eCons (eVar 0) (eC []))) (eC (.int 6)))) (eNot (eTest (eB pyAll (eCons (eLc (eIter (eVar 0)) (.n 1) (eC true) (eCall e_is_word (eCons (eVar 1) (eC []))) [1]) (eC []))))))) (xRet (eC (.bl false))) (xNext)) (xRet (eB pyAll (eCons (eLc (eZip (eCons (eVar 0) (eCons (eSlice (eVar 0) (ePart (eC (.int 1))) (eC none)) (eC [])))) (.t [1, 2]) (eC true) (eOp pyLt (eVar 1) (eVar 2)) [1, 2]) (eC [])))))
def e_is_rights : List D → Option (Except DX D) := fnE ["thing", "row"] 1 (xSeq (xIf (eOr (eNot (eTest (eUn (pyIsi "tuple") (eVar 0)))) (eOr (eTest (eOp pyNe (eB pyLen (eCons (eVar 0) (eC []))) (eC (.int 5)))) (eNot (eTest (eCall e_is_whole (eCons (eOp pyItem (eVar 0) (eC (.int 0))) (eCons (eC (.int 0)) (eCons (eC (.int 60)) (eC []))))))))) (xRet (eC (.bl false))) (xNext)) (xRet (eB pyAll (eCons (eLc (eIter (eSlice (eVar 0) (ePart (eC (.int 1))) (eC none))) (.n 1) (eC true) (eCall e_is_row (eCons (eVar 1) (eC []))) [1]) (eC [])))))
def e_need_rights : List D → Option (Except DX D) := fnE ["thing"] 1 (xIf (eNot (eTest (eCall e_is_rights (eCons (eVar 0) (eC []))))) (xRaise "BadRights") (xNext))
def e_rights_text : List D → Option (Except DX D) := fnE ["rights", "words", "sign", "row", "word"] 1 (xSeq (xDrop (eCall e_need_rights (eCons (eVar 0) (eC [])))) (xSeq (xSet 1 (eLst (eCons (eB pyStr (eCons (eOp pyItem (eVar 0) (eC (.int 0))) (eC []))) (eC [])))) (xSeq (xFor (eZip (eCons (eC (.str "?!<>")) (eCons (eSlice (eVar 0) (ePart (eC (.int 1))) (eC none)) (eC [])))) (.t [2, 3]) (xSet 1 (eOp pyAdd (eVar 1) (eLc (eIter (eVar 3)) (.n 4) (eC true) (eOp pyAdd (eVar 2) (eVar 4)) [4])))) (xRet (eMt "str" mJoin (eC (.str " ")) (eCons (eVar 1) (eC [])))))))
/-! ### helpers -/
section
variable {α β : Type} {env : DSt} {x : D} {z : α} {ex : DX} {e : Ev D} {et eu : Ev Bool} {er : Ev (List D)} {xs : List D}
theorem b_ok {f : α → Option (Except DX β)} : bindE (some (.ok z)) f = f z := rfl
theorem okE_some : okE (some z) = some (.ok z) := rfl
theorem r_c : (eC z : Ev α) env = some (.ok z) := rfl
theorem r_var {i : Nat} (h : env[i]? = some (some x)) : eVar i env = some (.ok x) := by unfold eVar; rw [h]
theorem r_op {f : DG → D → D → Option D} {ea eb : Ev D} {x y z : D} (ha : ea env = some (.ok x)) (hb : eb env = some (.ok y)) (h : f G0 x y = some z) : eOp f ea eb env = some (.ok z) := by unfold eOp; rw [ha, b_ok, hb, b_ok, h]; rfl
theorem r_un {f : DG → D → Option D} {ea : Ev D} {x z : D} (ha : ea env = some (.ok x)) (h : f G0 x = some z) : eUn f ea env = some (.ok z) := by unfold eUn; rw [ha, b_ok, h]; rfl
theorem r_b {f : DG → List D → Option D} {z : D} (ha : er env = some (.ok xs)) (h : f G0 xs = some z) : eB f er env = some (.ok z) := by unfold eB; rw [ha, b_ok, h]; rfl
theorem r_nil : (eC [] : Ev (List D)) env = some (.ok []) := rfl
theorem r_cons {ea : Ev D} (ha : ea env = some (.ok x)) (hr : er env = some (.ok xs)) : eCons ea er env = some (.ok (x :: xs)) := by unfold eCons; rw [ha, b_ok, hr]; rfl
theorem r_call {ef : List D → Option (Except DX D)} {r : Option (Except DX D)} (ha : er env = some (.ok xs)) (h : ef xs = r) : eCall ef er env = r := by unfold eCall; rw [ha]; exact h
theorem r_test {b : Bool} (h : e env = some (.ok (.bl b))) : eTest e env = some (.ok b) := by unfold eTest; rw [h]; rfl
theorem r_not {b : Bool} (h : et env = some (.ok b)) : eNot et env = some (.ok (!b)) := by unfold eNot; rw [h]; rfl
theorem r_notV {b : Bool} (h : e env = some (.ok (.bl b))) : eNotV e env = some (.ok (.bl (!b))) := by unfold eNotV; rw [h]; rfl
theorem r_or {b c : Bool} (h : et env = some (.ok b)) (h2 : b = false → eu env = some (.ok c)) : eOr et eu env = some (.ok (b || c)) := by
  unfold eOr; rw [h, b_ok]
  cases b with
  | false => rw [if_neg Bool.false_ne_true, h2 rfl]; rfl
  | true => rfl
theorem r_andV {f : Ev D} {b c : Bool} (h : e env = some (.ok (.bl b))) (h2 : b = true → f env = some (.ok (.bl c))) : eAndV e f env = some (.ok (.bl (b && c))) := by
  unfold eAndV; rw [h, b_ok]
  cases b with
  | true => show f env = _; rw [h2 rfl]; rfl
  | false => rfl
theorem r_chain {f g : DG → D → D → Option D} {ea eb ec : Ev D} {x y w : D} {b c : Bool} (ha : ea env = some (.ok x)) (hb : eb env = some (.ok y)) (hf : f G0 x y = some (.bl b)) (hc : ec env = some (.ok w)) (hg : g G0 y w = some (.bl c)) : eChain f g ea eb ec env = some (.ok (.bl (b && c))) := by
  unfold eChain; rw [ha, b_ok, hb, b_ok, hf]
  cases b with
  | true => simp only [okE_some, b_ok, blE, blOf, if_pos, hc, hg, Bool.true_and]
  | false => rfl
theorem r_iter {d : D} (h : e env = some (.ok d)) (hi : iterD G0 d = some xs) : eIter e env = some (.ok xs) := by unfold eIter; rw [h, b_ok, hi]; rfl
theorem r_slice {l h : Ev (Option Int)} {d z : D} {lo hi : Option Int} (hd : e env = some (.ok d)) (hl : l env = some (.ok lo)) (hh : h env = some (.ok hi)) (hs : pySlice G0 d lo hi = some z) : eSlice e l h env = some (.ok z) := by unfold eSlice; rw [hd, b_ok, hl, b_ok, hh, b_ok, hs]; rfl
theorem r_part {i : Int} (h : e env = some (.ok (.int i))) : ePart e env = some (.ok (some i)) := by unfold ePart; rw [h]; rfl
/-! statements -/
variable {s t : EvX} {r : Option SR}
theorem r_seq {env' : DSt} (h : s env = some (.nx env')) (h2 : t env' = r) : xSeq s t env = r := by unfold xSeq; rw [h]; exact h2
theorem r_seqR {d : D} (h : s env = some (.rt d)) : xSeq s t env = some (.rt d) := by unfold xSeq; rw [h]
theorem r_ret (h : e env = some (.ok x)) : xRet e env = some (.rt x) := by unfold xRet; rw [h]; rfl
theorem r_xif {b : Bool} (h : et env = some (.ok b)) (h1 : b = true → s env = r) (h2 : b = false → t env = r) : xIf et s t env = r := by
  unfold xIf; rw [h]
  cases b with
  | true => exact h1 rfl
  | false => exact h2 rfl
theorem r_xifT {b : Bool} (h : et env = some (.ok b)) (hb : b = true) (h1 : s env = r) : xIf et s t env = r := r_xif h (fun _ => h1) fun z => nomatch hb.symm.trans z
theorem r_xifF {b : Bool} (h : et env = some (.ok b)) (hb : b = false) (h1 : t env = r) : xIf et s t env = r := r_xif h (fun z => nomatch hb.symm.trans z) fun _ => h1
theorem r_fn {N : List Str} {n : Nat} {ds : List D} {d : D} (h : s (dstart N ds) = some (.rt d)) (hl : ds.length = n) : fnE N n s ds = some (.ok d) := by unfold fnE; rw [if_pos hl, h]
theorem r_fnN {N : List Str} {n : Nat} {ds : List D} {env' : DSt} (h : s (dstart N ds) = some (.nx env')) (hl : ds.length = n) : fnE N n s ds = some (.ok .non) := by unfold fnE; rw [if_pos hl, h]
theorem r_fnX {N : List Str} {n : Nat} {ds : List D} {y : DX} {env' : DSt} (h : s (dstart N ds) = some (.ex y env')) (hl : ds.length = n) : fnE N n s ds = some (.error y) := by unfold fnE; rw [if_pos hl, h]
end
theorem ok_bl {o : Option (Except DX D)} {a b : Bool} (h : o = some (.ok (.bl a))) (e : a = b) : o = some (.ok (.bl b)) := e ▸ h
theorem lcL_map {tg : Tg} {ee : Ev D} {env : DSt} {g : D → D} : ∀ {ds : List D}, (∀ d ∈ ds, ∃ env', eTg tg d env = some env' ∧ ee env' = some (.ok (g d))) → eLcL tg (eC true) ee env ds = some (ds.map g)
  | [], _ => rfl
  | d :: ds, h => by
    obtain ⟨env', h1, h2⟩ := h d List.mem_cons_self
    have ih := lcL_map (ds := ds) fun x hx => h x (List.mem_cons_of_mem _ hx)
    unfold eLcL
    rw [h1]
    simp only [eC, h2, ih, List.map_cons]
theorem lc_map {ei : Ev (List D)} {tg : Tg} {ee : Ev D} {env : DSt} {vs : List Nat} {g : D → D} {ds : List D} (hi : ei env = some (.ok ds)) (hl : ds.length ≤ 16000000) (h : ∀ d ∈ ds, ∃ env', eTg tg d (wipeD env vs) = some env' ∧ ee env' = some (.ok (g d))) : eLc ei tg (eC true) ee vs env = some (.ok (.lst (ds.map g))) := by
  unfold eLc
  rw [hi]
  simp only [bindE, if_pos hl, lcL_map h, Option.map_some, okE]
theorem allB_map {α : Type} (f : α → Bool) : ∀ xs : List α, allB (xs.map fun x => D.bl (f x)) = some (xs.map f)
  | [] => rfl
  | x :: xs => by
    simp only [List.map_cons, allB, allB_map f xs, Option.map_some]
theorem pyAll_map {α : Type} (f : α → Bool) (xs : List α) : pyAll G0 [.lst (xs.map fun x => D.bl (f x))] = some (.bl (xs.all f)) := by
  simp only [pyAll, asL, Option.bind_some, allB_map, Option.map_some]
  simp [List.all_map, Function.comp_def]
/-! ### programs.py -/
def inR (lo hi : Int) : D → Bool
  | .int i => decide (lo ≤ i) && decide (i ≤ hi)
  | _ => false
theorem is_whole_eq {d : D} (h : (tyD G0 d).isSome = true) (lo hi : Int) : e_is_whole [d, .int lo, .int hi] = some (.ok (.bl (inR lo hi d))) := by
  cases d with
  | int i => exact ok_bl (r_fn (r_ret (r_andV (r_un (r_var rfl) rfl) fun _ => r_andV (r_notV (r_un (r_var rfl) rfl)) fun _ => r_chain (r_var rfl) (r_var rfl) rfl (r_var rfl) rfl)) rfl) rfl
  | ref a => cases h
  | scr ns => cases h
  | _ => kernel_rfl
def small : List Char := "abcdefghijklmnopqrstuvwxyz".toList
def wordS (s : String) : Bool := (decide (1 ≤ s.length) && decide (s.length ≤ 8)) && s.toList.all fun c => small.contains c
def isWord : D → Bool
  | .str s => wordS s
  | _ => false
theorem signOf_one (c : Char) : signOf (String.singleton c) = some c := by simp [signOf]
theorem in_signs (c : Char) (t : String) : pyIn G0 (.str (String.singleton c)) (.str t) = some (.bl (t.toList.contains c)) := by
  simp only [pyIn, pyInB, signOf_one, Option.map_some]
theorem is_word_eq {d : D} (h : (tyD G0 d).isSome = true) (hl : ∀ s, d = .str s → s.length ≤ 16000000) : e_is_word [d] = some (.ok (.bl (isWord d))) := by
  cases d with
  | str s =>
    have hs := hl s rfl
    have h3 : (1 : Int) ≤ s.length ↔ 1 ≤ s.length := by omega
    have h4 : (s.length : Int) ≤ 8 ↔ s.length ≤ 8 := by omega
    have hlen : pyLen G0 [.str s] = some (.int s.length) := if_pos hs
    refine ok_bl (r_fn (r_ret (r_andV (r_un (r_var rfl) rfl) fun _ => r_andV (r_chain r_c (r_b (r_cons (r_var rfl) r_nil) hlen) rfl r_c rfl) fun hb => r_b (r_cons (lc_map (g := fun d => match d with | .str x => .bl (small.contains ((signOf x).getD 'a')) | _ => .non) (r_iter (r_var rfl) rfl) ?_ fun d hd => ?_) r_nil) (z := .bl (s.toList.all fun c => small.contains c)) ?_)) rfl) ?_
    · have e : (signsD s).length = s.length := by simp [signsD, String.length]
      rw [e]; exact hs
    · simp only [signsD, List.mem_map] at hd
      obtain ⟨c, _, rfl⟩ := hd
      refine ⟨_, rfl, r_op (r_var rfl) r_c ?_⟩
      rw [in_signs]
      show _ = some (D.bl (small.contains ((signOf (String.singleton c)).getD 'a')))
      rw [signOf_one]; rfl
    · rw [show (signsD s).map (fun d => match d with | .str x => D.bl (small.contains ((signOf x).getD 'a')) | _ => .non) = s.toList.map fun c => D.bl (small.contains c) from by
        simp only [signsD, List.map_map]
        apply List.map_congr_left
        intro c _
        simp [signOf_one]]
      exact pyAll_map _ _
    · show (true && ((decide _ && decide _) && _)) = wordS s
      rw [decide_eq_decide.mpr h3, decide_eq_decide.mpr h4]
      rfl
  | ref a => cases h
  | scr ns => cases h
  | _ => kernel_rfl
/-- data without tracked objects -/
def okD : Nat → D → Bool
  | _, .non => true
  | _, .bl _ => true
  | _, .int _ => true
  | _, .str s => decide (s.length ≤ 16000000)
  | n + 1, .tup xs => xs.all (okD n)
  | n + 1, .lst xs => xs.all (okD n)
  | _, _ => false
theorem okD_ty {n : Nat} {d : D} (h : okD n d = true) : (tyD G0 d).isSome = true := by
  cases d with
  | ref a => cases n <;> cases h
  | scr ns => cases n <;> cases h
  | _ => rfl
theorem okD_str {n : Nat} {s : String} (h : okD n (.str s) = true) : s.length ≤ 16000000 := by
  cases n <;> exact of_decide_eq_true h
theorem okD_len {n : Nat} {d : D} (h : okD n d = true) : ∀ s, d = .str s → s.length ≤ 16000000 := fun s e => by rw [e] at h; exact okD_str h
theorem okD_tup {n : Nat} {xs : List D} (h : okD (n + 1) (.tup xs) = true) : ∀ x ∈ xs, okD n x = true := List.all_eq_true.mp h
theorem okD_lst {n : Nat} {xs : List D} (h : okD (n + 1) (.lst xs) = true) : ∀ x ∈ xs, okD n x = true := List.all_eq_true.mp h
theorem mapO_some {f : D → Option PyData} : ∀ {xs : List D}, (∀ x ∈ xs, ∃ y, f x = some y) → ∃ ys, mapO f xs = some ys ∧ ys.length = xs.length
  | [], _ => ⟨[], rfl, rfl⟩
  | x :: xs, h => by
    obtain ⟨y, hy⟩ := h x List.mem_cons_self
    obtain ⟨ys, hys, hl⟩ := mapO_some fun z hz => h z (List.mem_cons_of_mem _ hz)
    refine ⟨y :: ys, ?_, by simp [hl]⟩
    unfold mapO
    rw [hy, hys]
theorem okD_py : ∀ (n : Nat) (d : D), okD n d = true → ∃ y, toPy G0 n d = some y
  | _, .non, _ => ⟨_, by unfold toPy; rfl⟩
  | _, .bl _, _ => ⟨_, by unfold toPy; rfl⟩
  | _, .int _, _ => ⟨_, by unfold toPy; rfl⟩
  | _, .str _, _ => ⟨_, by unfold toPy; rfl⟩
  | 0, .tup _, h => by cases h
  | 0, .lst _, h => by cases h
  | n + 1, .tup xs, h => by
    obtain ⟨ys, e, _⟩ := mapO_some fun x hx => okD_py n x (okD_tup h x hx)
    exact ⟨_, by unfold toPy; rw [e]; rfl⟩
  | n + 1, .lst xs, h => by
    obtain ⟨ys, e, _⟩ := mapO_some fun x hx => okD_py n x (okD_lst h x hx)
    exact ⟨_, by unfold toPy; rw [e]; rfl⟩
  | 0, .dct _, h => by cases h
  | _ + 1, .dct _, h => by cases h
  | 0, .ref _, h => by cases h
  | _ + 1, .ref _, h => by cases h
  | 0, .scr _, h => by cases h
  | _ + 1, .scr _, h => by cases h
def isPart (c : Char) (d : D) : Bool := if c = 'r' then inR 0 3 d else if c = 'n' then inR (-999) 999 d else if c = 'g' then inR 0 99 d else isWord d
def partsOk (so : String) (ps : List D) : Bool := decide (ps.length = so.length) && (so.toList.zip ps).all fun p => isPart p.1 p.2
def isInstr : D → Bool
  | .tup (.str w :: ps) => match lst_FORMS.lookup w with
    | some so => partsOk so ps
    | none => false
  | _ => false
theorem r_zip {env : DSt} {er : Ev (List D)} {a b : D} {as bs : List D} (h : er env = some (.ok [a, b])) (ha : iterD G0 a = some as) (hb : iterD G0 b = some bs) : eZip er env = some (.ok (zipD as bs)) := by
  unfold eZip; rw [h, b_ok]; simp only [ha, hb]
theorem item0 (x : D) (xs : List D) : pyItem G0 (.tup (x :: xs)) (.int 0) = some x := by simp [pyItem, asQ, L2.atI, L2.ixN]
theorem cut1 (x : D) (xs : List D) : pySlice G0 (.tup (x :: xs)) (some 1) none = some (.tup xs) := by
  show some (D.tup _) = _
  simp [cutD, HT.sIx]
def isProg : D → Bool
  | .tup xs => (decide (1 ≤ xs.length) && decide (xs.length ≤ 40)) && xs.all isInstr
  | _ => false
end PL

namespace PL
open DL PySem
/-! ### rights.py -/
def ltD : D → D → Bool
  | .str a, .str b => strLt a b
  | _, _ => false
def ascD (xs : List D) : Bool := (xs.zip xs.tail).all fun p => ltD p.1 p.2
def isRow : D → Bool
  | .tup xs => decide (xs.length ≤ 6) && xs.all isWord && ascD xs
  | _ => false
theorem zip_eq : ∀ xs ys : List D, zipD xs ys = (xs.zip ys).map fun p => .tup [p.1, p.2]
  | [], ys => by simp [zipD]
  | c :: cs, [] => by simp [zipD]
  | c :: cs, p :: ps => by simp [zipD, zip_eq cs ps]
theorem cutT (xs : List D) : pySlice G0 (.tup xs) (some 1) none = some (.tup xs.tail) := by
  cases xs with
  | nil => rfl
  | cons x xs => exact cut1 x xs
theorem isWord_str {d : D} (h : isWord d = true) : ∃ s, d = .str s := by cases d <;> first | exact ⟨_, rfl⟩ | cases h
theorem is_row_eq {n : Nat} {d : D} (h : okD (n + 1) d = true) : e_is_row [d] = some (.ok (.bl (isRow d))) := by
  cases d with
  | tup xs =>
    have k : DL.pyLen G0 [.tup xs] = some (.int xs.length) := rfl
    have kg : DL.pyGt G0 (.int xs.length) (.int 6) = some (.bl (decide (6 < xs.length))) := by
      show some (D.bl (decide _)) = _
      rw [decide_eq_decide.mpr (show (6 : Int) < xs.length ↔ 6 < xs.length by omega)]
    by_cases hl : 6 < xs.length
    · refine ok_bl (r_fn (r_seqR (r_xifT (r_or (r_not (r_test (r_un (r_var rfl) rfl))) fun _ => r_or (c := false) (r_test (r_op (r_b (r_cons (r_var rfl) r_nil) k) r_c kg)) fun z => absurd hl (of_decide_eq_false z)) (by simp [hl]) (r_ret r_c))) rfl) ?_
      simp only [isRow, show decide (xs.length ≤ 6) = false by simp; omega]
      rfl
    · have hw : eLc (eIter (eVar 0)) (.n 1) (eC true) (eCall e_is_word (eCons (eVar 1) (eC []))) [1] (dstart ["thing", "one", "other"] [.tup xs]) = _ := lc_map (g := fun d => .bl (isWord d)) (r_iter (r_var rfl) rfl) (by omega) fun d hd => ⟨_, rfl, r_call (r_cons (r_var rfl) r_nil) (is_word_eq (okD_ty (okD_tup h d hd)) (okD_len (okD_tup h d hd)))⟩
      cases ha : xs.all isWord with
      | false =>
        refine ok_bl (r_fn (r_seqR (r_xifT (r_or (r_not (r_test (r_un (r_var rfl) rfl))) fun _ => r_or (r_test (r_op (r_b (r_cons (r_var rfl) r_nil) k) r_c kg)) fun z => r_not (r_test (r_b (r_cons hw r_nil) (pyAll_map isWord xs)))) (by rw [ha]; simp) (r_ret r_c))) rfl) ?_
        simp only [isRow, ha, Bool.and_false, Bool.false_and]
      | true =>
        have hz : eLc (eZip (eCons (eVar 0) (eCons (eSlice (eVar 0) (ePart (eC (.int 1))) (eC none)) (eC [])))) (.t [1, 2]) (eC true) (eOp pyLt (eVar 1) (eVar 2)) [1, 2] (dstart ["thing", "one", "other"] [.tup xs]) = _ :=
          lc_map (g := fun d => match d with | .tup [a, b] => .bl (ltD a b) | _ => .non) (r_zip (r_cons (r_var rfl) (r_cons (r_slice (r_var rfl) (r_part r_c) r_c (cutT _)) r_nil)) rfl rfl) (by rw [zipD_len]; omega) fun d hd => by
            rw [zip_eq, List.mem_map] at hd
            obtain ⟨⟨a, b⟩, hp, rfl⟩ := hd
            obtain ⟨s, rfl⟩ := isWord_str (List.all_eq_true.mp ha a (List.of_mem_zip hp).1)
            obtain ⟨t, rfl⟩ := isWord_str (List.all_eq_true.mp ha b (List.mem_of_mem_tail (List.of_mem_zip hp).2))
            exact ⟨_, rfl, r_op (r_var rfl) (r_var rfl) rfl⟩
        have hz2 : pyAll G0 [.lst ((zipD xs xs.tail).map fun d => match d with | .tup [a, b] => .bl (ltD a b) | _ => .non)] = some (.bl (ascD xs)) := by
          rw [zip_eq, List.map_map]
          exact pyAll_map (fun p : D × D => ltD p.1 p.2) _
        refine ok_bl (r_fn (r_seq (r_xifF (r_or (r_not (r_test (r_un (r_var rfl) rfl))) fun _ => r_or (r_test (r_op (r_b (r_cons (r_var rfl) r_nil) k) r_c kg)) fun z => r_not (r_test (r_b (r_cons hw r_nil) (pyAll_map isWord xs)))) (by rw [ha, decide_eq_false hl]; rfl) rfl) (r_ret (r_b (r_cons hz r_nil) hz2))) rfl) ?_
        simp only [isRow, ha, decide_eq_true (show xs.length ≤ 6 by omega), Bool.true_and]
  | ref a => cases h
  | scr a => cases h
  | _ => kernel_rfl
def isRights : D → Bool
  | .tup (r :: rows) => decide (rows.length = 4) && inR 0 60 r && rows.all isRow
  | _ => false
theorem is_rights_eq {n : Nat} {d : D} (h : okD (n + 2) d = true) : e_is_rights [d] = some (.ok (.bl (isRights d))) := by
  cases d with
  | tup xs =>
    cases xs with
    | nil => kernel_rfl
    | cons r rows =>
      have k : DL.pyLen G0 [.tup (r :: rows)] = some (.int (rows.length + 1 : Nat)) := rfl
      have kn : pyNe G0 (.int (rows.length + 1 : Nat)) (.int 5) = some (.bl (!decide (rows.length = 4))) := by
        show some (D.bl (!decide _)) = _
        rw [decide_eq_decide.mpr (show ((rows.length + 1 : Nat) : Int) = 5 ↔ rows.length = 4 by omega)]
      by_cases hl : rows.length = 4
      · have hr := is_whole_eq (okD_ty (okD_tup h r List.mem_cons_self)) 0 60
        cases hi : inR 0 60 r with
        | false =>
          rw [hi] at hr
          refine ok_bl (r_fn (r_seqR (r_xifT (r_or (r_not (r_test (r_un (r_var rfl) rfl))) fun _ => r_or (r_test (r_op (r_b (r_cons (r_var rfl) r_nil) k) r_c kn)) fun z => r_not (r_test (r_call (r_cons (r_op (r_var rfl) r_c (item0 _ _)) (r_cons r_c (r_cons r_c r_nil))) hr))) (by simp) (r_ret r_c))) rfl) ?_
          simp only [isRights, hi, Bool.and_false, Bool.false_and]
        | true =>
          rw [hi] at hr
          refine ok_bl (r_fn (r_seq (r_xifF (r_or (r_not (r_test (r_un (r_var rfl) rfl))) fun _ => r_or (r_test (r_op (r_b (r_cons (r_var rfl) r_nil) k) r_c kn)) fun z => r_not (r_test (r_call (r_cons (r_op (r_var rfl) r_c (item0 _ _)) (r_cons r_c (r_cons r_c r_nil))) hr))) (by rw [decide_eq_true hl]; rfl) rfl)
            (r_ret (r_b (r_cons (lc_map (g := fun d => .bl (isRow d)) (r_iter (r_slice (r_var rfl) (r_part r_c) r_c (cut1 _ _)) rfl) (by omega) fun d hd => ⟨_, rfl, r_call (r_cons (r_var rfl) r_nil) (is_row_eq (okD_tup h d (List.mem_cons_of_mem _ hd)))⟩) r_nil) (pyAll_map isRow rows)))) rfl) ?_
          simp only [isRights, hi, decide_eq_true hl, Bool.true_and]
      · refine ok_bl (r_fn (r_seqR (r_xifT (r_or (r_not (r_test (r_un (r_var rfl) rfl))) fun _ => r_or (c := false) (r_test (r_op (r_b (r_cons (r_var rfl) r_nil) k) r_c kn)) fun z => by rw [decide_eq_false hl] at z; cases z) (by rw [decide_eq_false hl]; rfl) (r_ret r_c))) rfl) ?_
        simp only [isRights, decide_eq_false hl, Bool.false_and]
  | ref a => cases h
  | scr a => cases h
  | _ => kernel_rfl
theorem need_rights_eq {n : Nat} {d : D} (h : okD (n + 2) d = true) : e_need_rights [d] = some (if isRights d = true then .ok .non else .error ("BadRights", none)) := by
  by_cases hp : isRights d = true
  · rw [if_pos hp]
    exact r_fnN (r_xifF (r_not (r_test (r_call (r_cons (r_var rfl) r_nil) (is_rights_eq h)))) (by rw [hp]; rfl) rfl) rfl
  · rw [if_neg hp]
    exact r_fnX (r_xifT (r_not (r_test (r_call (r_cons (r_var rfl) r_nil) (is_rights_eq h)))) (by rw [Bool.eq_false_iff.mpr hp]; rfl) rfl) rfl
end PL

namespace PL
open DL PySem
/-! ### texts.py: numbers -/
end PL

namespace PL
open DL PySem
/-! ### split and join -/
theorem join_len (sep : List Char) : ∀ xs : List (List Char), (joinC sep xs).length ≤ (xs.map List.length).sum + xs.length * sep.length
  | [] => by simp [joinC]
  | [x] => by simp [joinC]
  | x :: y :: r => by
    have := join_len sep (y :: r)
    simp only [joinC, List.length_append, List.map_cons, List.sum_cons, List.length_cons, Nat.add_mul] at this ⊢
    omega
theorem joinS_len (sep : String) (xs : List String) : (joinS sep xs).length ≤ (xs.map String.length).sum + xs.length * sep.length := by
  have := join_len sep.toList (xs.map String.toList)
  unfold joinS
  rw [List.map_map, List.length_map, show (List.length ∘ String.toList) = String.length from funext fun s => by simp [String.length]] at this
  simp [String.length] at this ⊢
  exact this
/-! ### numbers' texts -/
end PL

namespace PL
open DL PySem
theorem inR_int {lo hi : Int} {d : D} (h : inR lo hi d = true) : ∃ i, d = .int i ∧ lo ≤ i ∧ i ≤ hi := by
  cases d with
  | int i =>
    unfold inR at h
    rw [Bool.and_eq_true, decide_eq_true_eq, decide_eq_true_eq] at h
    exact ⟨i, rfl, h.1, h.2⟩
  | _ => cases h
theorem small_sign {c : Char} (h : small.contains c = true) : c ≠ ' ' ∧ c ≠ '\n' := by
  have : ∀ c ∈ small, c ≠ ' ' ∧ c ≠ '\n' := by decide
  exact this c (by simpa using h)
theorem word_txt {s : String} (h : wordS s = true) : s.length ≤ 8 ∧ 1 ≤ s.length ∧ ∀ c ∈ s.toList, small.contains c = true := by
  unfold wordS at h
  rw [Bool.and_eq_true, Bool.and_eq_true, decide_eq_true_eq, decide_eq_true_eq] at h
  exact ⟨h.1.2, h.1.1, List.all_eq_true.mp h.2⟩
def strP : D → String
  | .int i => toString i
  | .str s => s
  | _ => ""
def lineOf (ps : List D) : String := joinS " " (ps.map strP)
def lineD : D → String
  | .tup ps => lineOf ps
  | _ => ""
def progText (xs : List D) : String := joinS "\n" (xs.map lineD)
structure TxtOk (d : D) : Prop where
  str : pyStr G0 [d] = some (.str (strP d))
  len : (strP d).length ≤ 8
  sg : ∀ c ∈ (strP d).toList, c ≠ ' ' ∧ c ≠ '\n'
theorem wrd_txt {s : String} (h : wordS s = true) : TxtOk (.str s) := ⟨rfl, (word_txt h).1, fun c hc => small_sign ((word_txt h).2.2 c hc)⟩
theorem isWord_eq {d : D} (h : isWord d = true) : ∃ s, d = .str s ∧ wordS s = true := by
  cases d with
  | str s => exact ⟨s, rfl, h⟩
  | _ => cases h
theorem allS_map : ∀ xs : List String, allS (xs.map .str) = some xs
  | [] => rfl
  | x :: xs => by simp only [List.map_cons, allS, allS_map xs, Option.map_some]
theorem join_eq {a : String} {zs : List String} (h : (zs.map String.length).sum + zs.length * a.length ≤ 16000000) : mJoin G0 (.str a) [.lst (zs.map .str)] = some (.str (joinS a zs), G0) := by
  simp only [mJoin, asQ, asL, allS_map, if_pos h]
theorem txt_okD {d : D} (h : TxtOk d) (n : Nat) : okD n d = true := by
  have := h.str
  cases d with
  | int i => cases n <;> rfl
  | str s =>
    have hl : s.length ≤ 16000000 := Nat.le_trans h.len (by decide)
    cases n <;> exact decide_eq_true hl
  | _ => cases this
/-! ### read_program -/
end PL

namespace PL
open DL PySem
/-! ### rights' texts -/
def sgn (c : Char) (a : List D) : List String := a.map fun d => String.singleton c ++ strP d
def rWords (i : Int) (a b c d : List D) : List String := ((([toString i] ++ sgn '?' a) ++ sgn '!' b) ++ sgn '<' c) ++ sgn '>' d
def rTxt : D → String
  | .tup [.int i, .tup a, .tup b, .tup c, .tup d] => joinS " " (rWords i a b c d)
  | _ => ""
theorem isRow_cases {d : D} (h : isRow d = true) : ∃ xs, d = .tup xs ∧ xs.length ≤ 6 ∧ (∀ x ∈ xs, isWord x = true) ∧ ascD xs = true := by
  cases d with
  | tup xs =>
    unfold isRow at h
    rw [Bool.and_eq_true, Bool.and_eq_true, decide_eq_true_eq] at h
    exact ⟨xs, rfl, h.1.1, List.all_eq_true.mp h.1.2, h.2⟩
  | _ => cases h
theorem isRights_cases {d : D} (h : isRights d = true) : ∃ i a b c e, d = .tup [.int i, .tup a, .tup b, .tup c, .tup e] ∧ 0 ≤ i ∧ i ≤ 60 ∧ isRow (.tup a) = true ∧ isRow (.tup b) = true ∧ isRow (.tup c) = true ∧ isRow (.tup e) = true := by
  unfold isRights at h
  split at h
  · rename_i r rows
    rw [Bool.and_eq_true, Bool.and_eq_true, decide_eq_true_eq] at h
    obtain ⟨i, rfl, h0, h60⟩ := inR_int h.1.2
    have hr := List.all_eq_true.mp h.2
    have hl := h.1.1
    match rows, hl, hr with
    | [a, b, c, e], _, hr =>
      obtain ⟨xa, rfl, _⟩ := isRow_cases (hr a (by simp))
      obtain ⟨xb, rfl, _⟩ := isRow_cases (hr b (by simp))
      obtain ⟨xc, rfl, _⟩ := isRow_cases (hr c (by simp))
      obtain ⟨xe, rfl, _⟩ := isRow_cases (hr e (by simp))
      exact ⟨i, xa, xb, xc, xe, rfl, h0, h60, hr _ (by simp), hr _ (by simp), hr _ (by simp), hr _ (by simp)⟩
  · cases h
theorem row_okD {d : D} (h : isRow d = true) (n : Nat) : okD (n + 1) d = true := by
  obtain ⟨xs, rfl, _, hw, _⟩ := isRow_cases h
  refine List.all_eq_true.mpr fun x hx => ?_
  obtain ⟨s, rfl, hs⟩ := isWord_eq (hw x hx)
  exact txt_okD (wrd_txt hs) n
theorem rights_okD {d : D} (h : isRights d = true) (n : Nat) : okD (n + 2) d = true := by
  obtain ⟨i, a, b, c, e, rfl, _, _, ha, hb, hc, he⟩ := isRights_cases h
  refine List.all_eq_true.mpr fun x hx => ?_
  simp only [List.mem_cons, List.not_mem_nil, or_false] at hx
  rcases hx with rfl | rfl | rfl | rfl | rfl
  · rfl
  · exact row_okD ha n
  · exact row_okD hb n
  · exact row_okD hc n
  · exact row_okD he n
theorem need_rights_ok {d : D} (h : isRights d = true) : e_need_rights [d] = some (.ok .non) := by
  rw [need_rights_eq (rights_okD h 0), if_pos h]
/-! ### read_rights -/
end PL

namespace PL
open DL PySem
theorem mapO_lay {f : D → Option PyData} : ∀ {xs : List D}, (∀ x ∈ xs, ∃ y, f x = some y ∧ y.canLay0 = true) → ∃ ys, mapO f xs = some ys ∧ PyData.canLayAll0 ys = true
  | [], _ => ⟨[], rfl, by simp [PyData.canLayAll0]⟩
  | x :: xs, h => by
    obtain ⟨y, hy, ly⟩ := h x List.mem_cons_self
    obtain ⟨ys, hys, ll⟩ := mapO_lay fun z hz => h z (List.mem_cons_of_mem _ hz)
    refine ⟨y :: ys, ?_, by simp [PyData.canLayAll0, ly, ll]⟩
    unfold mapO
    rw [hy, hys]
theorem okD_lay : ∀ (n : Nat) (d : D), okD n d = true → ∃ y, toPy G0 n d = some y ∧ y.canLay0 = true
  | _, .non, _ => ⟨_, by unfold toPy; rfl, by simp [PyData.canLay0]⟩
  | _, .bl _, _ => ⟨_, by unfold toPy; rfl, by simp [PyData.canLay0]⟩
  | _, .int _, _ => ⟨_, by unfold toPy; rfl, by simp [PyData.canLay0]⟩
  | _, .str _, _ => ⟨_, by unfold toPy; rfl, by simp [PyData.canLay0, strOk_S]⟩
  | 0, .tup _, h => by cases h
  | 0, .lst _, h => by cases h
  | n + 1, .tup xs, h => by
    obtain ⟨ys, e, l⟩ := mapO_lay fun x hx => okD_lay n x (okD_tup h x hx)
    exact ⟨_, by unfold toPy; rw [e]; rfl, by simpa [PyData.canLay0] using l⟩
  | n + 1, .lst xs, h => by
    obtain ⟨ys, e, l⟩ := mapO_lay fun x hx => okD_lay n x (okD_lst h x hx)
    exact ⟨_, by unfold toPy; rw [e]; rfl, by simpa [PyData.canLay0] using l⟩
  | 0, .dct _, h => by cases h
  | _ + 1, .dct _, h => by cases h
  | 0, .ref _, h => by cases h
  | _ + 1, .ref _, h => by cases h
  | 0, .scr _, h => by cases h
  | _ + 1, .scr _, h => by cases h
theorem eqB_refl {d : D} (h : okD 40 d = true) : pyEqB G0 d d = some true := by
  obtain ⟨y, e, l⟩ := okD_lay 40 d h
  have r := PySem.SeqAt.eqv_refl y l
  cases d with
  | int i => simp [pyEqB]
  | str s => simp [pyEqB]
  | _ => simp only [pyEqB, e, r]
theorem ne_refl {G : DG} {d : D} (h : okD 40 d = true) : pyNe G d d = some (.bl false) := by
  refine m_ne _ _ _ _ ?_
  unfold pyNe
  rw [eqB_refl h]
  rfl
end PL

namespace PL
open DL PySem
/-! ### equality of lists, told or tracked -/
theorem toPy_ref {G : DG} {q : Addr} {xs : List D} (h : G q = some (.lst xs)) (n : Nat) : toPy G (n + 1) (.ref q) = toPy G (n + 1) (.lst xs) := by
  show (match lstO (G q) with | some xs => (mapO (toPy G n) xs).map PyData.list | none => none) = (mapO (toPy G n) xs).map PyData.list
  rw [h]
  rfl
theorem eq_nilL {xs : List D} (h : okD 40 (.lst xs) = true) : pyEq G0 (.lst xs) (.lst []) = some (.bl xs.isEmpty) := by
  obtain ⟨ys, e, hl⟩ := mapO_some fun x hx => okD_py 39 x (okD_lst h x hx)
  have e1 : toPy G0 40 (.lst xs) = some (.list ys) := by unfold toPy; rw [e]; rfl
  have e2 : toPy G0 40 (.lst []) = some (.list []) := rfl
  unfold pyEq pyEqB
  simp only [e1, e2, Option.map_some]
  cases xs with
  | nil => cases ys with
    | nil => rfl
    | cons y ys => simp at hl
  | cons x xs => cases ys with
    | nil => simp at hl
    | cons y ys => simp [PyData.eqv, PyData.eqvAll]
theorem ifT {b : Bool} {A B : Prop} (h : b = true) (a : A) : if b = true then A else B := by rw [if_pos h]; exact a
theorem ifF {b : Bool} {A B : Prop} (h : b = false) (a : B) : if b = true then A else B := by rw [h, if_neg Bool.false_ne_true]; exact a
end PL

namespace PL
open DL PySem
/-! ### a machine in the heap -/
/-- where a world's things stand: the world, its feeds (with the lists), pages, what was said -/
structure WA where
  w : Addr
  f : Addr
  g : Addr
  h : Addr
  fl : List (String × Addr)
def WA.all (A : WA) : List Addr := [A.w, A.f, A.g, A.h] ++ A.fl.map (·.2)
abbrev keyL (fl : List (String × Addr)) : List (D × D) := fl.map fun x => (.str x.1, .ref x.2)
structure WorldAt (G : DG) (A : WA) (fd : List (String × List D)) (pg : List (D × D)) (said : List D) : Prop where
  w : G A.w = some (.ins "World" [("feeds", .ref A.f), ("pages", .ref A.g), ("said", .ref A.h)])
  f : G A.f = some (.dct (keyL A.fl))
  g : G A.g = some (.dct pg)
  h : G A.h = some (.lst said)
  nm : A.fl.map (·.1) = fd.map (·.1)
  ls : ∀ x ∈ A.fl.zip fd, G x.1.2 = some (.lst x.2.2)
  nd : A.all.Nodup
structure CoreS where
  prog : D
  rights : D
  spot : Int
  row : D
  own : D
  count : D
  mood : String
def CoreS.fs (s : CoreS) : List (String × D) := [("program", s.prog), ("rights", s.rights), ("spot", .int s.spot), ("row", s.row), ("own", s.own), ("count", s.count), ("mood", .str s.mood)]
structure MA where
  p : Addr
  c : Addr
  wa : WA
def MA.all (A : MA) : List Addr := A.p :: A.c :: A.wa.all
structure MachAt (G : DG) (A : MA) (cs : CoreS) (fd : List (String × List D)) (pg : List (D × D)) (said : List D) : Prop where
  p : G A.p = some (.ins "Machine" [("core", .ref A.c), ("world", .ref A.wa.w)])
  c : G A.c = some (.ins "Core" cs.fs)
  w : WorldAt G A.wa fd pg said
/-- what stands stays -/
def Ext (G G' : DG) : Prop := ∀ b, G b ≠ none → G' b = G b
theorem Ext.refl (G : DG) : Ext G G := fun _ _ => rfl
theorem Ext.trans {G G1 G2 : DG} (a : Ext G G1) (b : Ext G1 G2) : Ext G G2 := fun x h => by
  have e := a x h
  rw [← e]
  exact b x (by rw [e]; exact h)
theorem Ext.new {G : DG} {p : Addr} {o : Option DO} (h : G p = none) : Ext G (gset G p o) := fun b hb => gset_ne fun e => hb (e ▸ h)
theorem Ext.get {G G' : DG} {a : Addr} {o : DO} (e : Ext G G') (h : G a = some o) : G' a = some o := by rw [e a (by rw [h]; simp), h]
theorem WorldAt.ext {G G' : DG} {A : WA} {fd : List (String × List D)} {pg : List (D × D)} {said : List D} (e : Ext G G') (h : WorldAt G A fd pg said) : WorldAt G' A fd pg said :=
  ⟨e.get h.w, e.get h.f, e.get h.g, e.get h.h, h.nm, fun x hx => e.get (h.ls x hx), h.nd⟩
theorem MachAt.ext {G G' : DG} {A : MA} {cs : CoreS} {fd : List (String × List D)} {pg : List (D × D)} {said : List D} (e : Ext G G') (h : MachAt G A cs fd pg said) : MachAt G' A cs fd pg said :=
  ⟨e.get h.p, e.get h.c, h.w.ext e⟩
/-! the first machine -/
end PL

namespace PL
open DL PySem L2
/-! ### parts of the tracked heap, apart from each other -/
abbrev Asr := DG → Prop
def Apart (h k : DG) : Prop := ∀ b, h b = none ∨ k b = none
def pt (a : Addr) (o : DO) : Asr := fun G => G a = some o
def Stars : List Asr → Asr
  | [] => fun _ => True
  | P :: l => fun G => ∃ h k, Apart h k ∧ Ext h G ∧ Ext k G ∧ P h ∧ Stars l k
def gun (h k : DG) : DG := fun b => match h b with
  | some o => some o
  | none => k b
theorem gun_l {h k : DG} {b : Addr} (e : h b ≠ none) : gun h k b = h b := by
  unfold gun
  cases q : h b with
  | none => exact absurd q e
  | some o => rfl
theorem gun_r {h k : DG} {b : Addr} (e : h b = none) : gun h k b = k b := by unfold gun; rw [e]
theorem Stars.up {l : List Asr} {G G' : DG} (hs : Stars l G) (e : Ext G G') : Stars l G' := by
  cases l with
  | nil => trivial
  | cons P l =>
    obtain ⟨h, k, a, b, c, d, f⟩ := hs
    exact ⟨h, k, a, b.trans e, c.trans e, d, f⟩
theorem Stars.swap {P Q : Asr} {l : List Asr} {G : DG} (hs : Stars (P :: Q :: l) G) : Stars (Q :: P :: l) G := by
  obtain ⟨h, k, a, b, c, d, h2, k2, a2, b2, c2, d2, f⟩ := hs
  have e2 : ∀ x, h2 x ≠ none → h x = none := fun x hx => by
    rcases a x with z | z
    · exact z
    · exact absurd (by rw [← b2 x hx]; exact z) hx
  have e3 : ∀ x, k2 x ≠ none → h x = none := fun x hx => by
    rcases a x with z | z
    · exact z
    · exact absurd (by rw [← c2 x hx]; exact z) hx
  refine ⟨h2, gun h k2, fun x => ?_, b2.trans c, fun x hx => ?_, d2, h, k2, fun x => ?_, fun x hx => gun_l hx, fun x hx => gun_r (e3 x hx), d, f⟩
  · by_cases q : h2 x = none
    · exact .inl q
    · refine .inr ?_
      rw [gun_r (e2 x q)]
      exact (a2 x).resolve_left q
  · by_cases q : h x = none
    · rw [gun_r q] at hx ⊢
      exact (c2.trans c) x hx
    · rw [gun_l q]
      exact b x q
  · by_cases q : k2 x = none
    · exact .inr q
    · exact .inl (e3 x q)
theorem Stars.tail {P : Asr} {l : List Asr} {G : DG} (hs : Stars (P :: l) G) : Stars l G := by
  obtain ⟨h, k, a, b, c, d, f⟩ := hs
  exact f.up c
theorem Stars.cons {P : Asr} {l l' : List Asr} {G : DG} (f : ∀ G, Stars l G → Stars l' G) (hs : Stars (P :: l) G) : Stars (P :: l') G := by
  obtain ⟨h, k, a, b, c, d, e⟩ := hs
  exact ⟨h, k, a, b, c, d, f k e⟩
theorem Stars.head {P P' : Asr} {l : List Asr} {G : DG} (f : ∀ G, P G → P' G) (hs : Stars (P :: l) G) : Stars (P' :: l) G := by
  obtain ⟨h, k, a, b, c, d, e⟩ := hs
  exact ⟨h, k, a, b, c, f h d, e⟩
theorem Stars.perm {l l' : List Asr} (p : l.Perm l') : ∀ {G : DG}, Stars l G → Stars l' G := by
  induction p with
  | nil => exact fun h => h
  | cons x _ ih => exact fun h => Stars.cons (fun _ => ih) h
  | swap x y l => exact fun h => h.swap
  | trans _ _ a b => exact fun h => b (a h)
/-- the i-th in front -/
theorem perm_front {α : Type} : ∀ {l : List α} {i : Nat} {x : α}, l[i]? = some x → l.Perm (x :: l.eraseIdx i)
  | [], i, x, e => by simp at e
  | y :: l, 0, x, e => by
    simp only [List.getElem?_cons_zero, Option.some.injEq] at e
    subst e
    exact List.Perm.refl _
  | y :: l, i + 1, x, e => by
    simp only [List.getElem?_cons_succ] at e
    exact ((perm_front e).cons y).trans (List.Perm.swap x y _)
theorem Stars.front {l : List Asr} {G : DG} (hs : Stars l G) (i : Nat) {P : Asr} (e : l[i]? = some P) : Stars (P :: l.eraseIdx i) G := hs.perm (perm_front e)
theorem Stars.get {l : List Asr} {G : DG} (hs : Stars l G) (i : Nat) {a : Addr} {o : DO} (e : l[i]? = some (pt a o)) : G a = some o := by
  obtain ⟨h, k, _, b, _, d, _⟩ := hs.front i e
  have d : h a = some o := d
  rw [b a (by rw [d]; simp), d]
theorem Stars.set {a : Addr} {o o' : DO} : ∀ {l : List Asr} {G : DG}, Stars l G → ∀ (i : Nat), l[i]? = some (pt a o) → Stars (l.set i (pt a o')) (gset G a (some o'))
  | [], G, hs, i, e => by simp at e
  | P :: l, G, hs, 0, e => by
    simp only [List.getElem?_cons_zero, Option.some.injEq] at e
    subst e
    obtain ⟨h, k, ap, b, c, d, f⟩ := hs
    have d : h a = some o := d
    have hk : k a = none := (ap a).resolve_left (by rw [d]; simp)
    refine ⟨gset h a (some o'), k, fun x => ?_, fun x hx => ?_, fun x hx => ?_, gset_same, f⟩
    · by_cases q : x = a
      · rw [q]; exact .inr hk
      · rw [gset_ne q]; exact ap x
    · by_cases q : x = a
      · rw [q, gset_same, gset_same]
      · rw [gset_ne q] at hx ⊢
        rw [gset_ne q]
        exact b x hx
    · rw [gset_ne fun (q : x = a) => hx (q ▸ hk)]
      exact c x hx
  | P :: l, G, hs, i + 1, e => by
    simp only [List.getElem?_cons_succ] at e
    obtain ⟨h, k, ap, b, c, d, f⟩ := hs
    have ka : k a = some o := f.get i e
    have ha : h a = none := (ap a).resolve_right (by rw [ka]; simp)
    refine ⟨h, gset k a (some o'), fun x => ?_, fun x hx => ?_, fun x hx => ?_, d, Stars.set f i e⟩
    · by_cases q : x = a
      · rw [q]; exact .inl ha
      · rw [gset_ne q]; exact ap x
    · rw [gset_ne fun (q : x = a) => hx (q ▸ ha)]
      exact b x hx
    · by_cases q : x = a
      · rw [q, gset_same, gset_same]
      · rw [gset_ne q] at hx ⊢
        rw [gset_ne q]
        exact c x hx
theorem Stars.setG {l : List Asr} {G G' : DG} {a : Addr} {o o' : DO} (hs : Stars l G) (i : Nat) (hG : gset G a (some o') = G') (e : l[i]? = some (pt a o)) : Stars (l.set i (pt a o')) G' := hG ▸ hs.set i e
theorem Stars.new {l : List Asr} {G : DG} {p : Addr} {o : DO} (hs : Stars l G) (hp : G p = none) : Stars (pt p o :: l) (gset G p (some o)) := by
  refine ⟨gset (fun _ => none) p (some o), G, fun x => ?_, fun x hx => ?_, fun x hx => ?_, gset_same, hs⟩
  · by_cases q : x = p
    · rw [q]; exact .inr hp
    · rw [gset_ne q]; exact .inl rfl
  · by_cases q : x = p
    · rw [q, gset_same, gset_same]
    · rw [gset_ne q] at hx
      exact absurd rfl hx
  · rw [gset_ne fun (q : x = p) => hx (q ▸ hp)]
theorem Stars.newG {l : List Asr} {G G' : DG} {p : Addr} {o : DO} (hs : Stars l G) (hp : G p = none) (hG : gset G p (some o) = G') : Stars (pt p o :: l) G' := hG ▸ hs.new hp
theorem Stars.ne {a b : Addr} {o o' : DO} {l : List Asr} {G : DG} (hs : Stars l G) (i j : Nat) (hij : i ≠ j) (e : l[i]? = some (pt a o)) (e' : l[j]? = some (pt b o')) : a ≠ b := by
  intro z
  subst z
  have h := hs.set (o' := .lst []) i e
  have h1 := h.get j (a := a) (o := o') (by rw [List.getElem?_set_ne hij]; exact e')
  rw [gset_same] at h1
  have h2 := hs.set (o' := .dct []) i e
  have h3 := h2.get j (a := a) (o := o') (by rw [List.getElem?_set_ne hij]; exact e')
  rw [gset_same, ← h1] at h3
  cases h3
/-- parts of parts -/
theorem Stars.join {l : List Asr} : ∀ {ps : List Asr} {G : DG}, Stars (ps ++ l) G → Stars (Stars ps :: l) G
  | [], G, hs => ⟨fun _ => none, G, fun _ => .inl rfl, fun _ h => absurd rfl h, Ext.refl G, trivial, hs⟩
  | P :: ps, G, hs => by
    obtain ⟨h, k, ap, b, c, d, f⟩ := hs
    obtain ⟨h2, k2, ap2, b2, c2, d2, f2⟩ := Stars.join f
    have e2 : ∀ x, h2 x ≠ none → h x = none := fun x hx => by
      rcases ap x with z | z
      · exact z
      · exact absurd (by rw [← b2 x hx]; exact z) hx
    have e3 : ∀ x, k2 x ≠ none → h x = none := fun x hx => by
      rcases ap x with z | z
      · exact z
      · exact absurd (by rw [← c2 x hx]; exact z) hx
    refine ⟨gun h h2, k2, fun x => ?_, fun x hx => ?_, c2.trans c, ⟨h, h2, fun x => ?_, fun x hx => gun_l hx, fun x hx => gun_r (e2 x hx), d, d2⟩, f2⟩
    · by_cases q : k2 x = none
      · exact .inr q
      · refine .inl ?_
        rw [gun_r (e3 x q)]
        exact (ap2 x).resolve_right q
    · by_cases q : h x = none
      · rw [gun_r q] at hx ⊢
        exact (b2.trans c) x hx
      · rw [gun_l q]
        exact b x q
    · by_cases q : h2 x = none
      · exact .inr q
      · exact .inl (e2 x q)
theorem Stars.split {l : List Asr} : ∀ {ps : List Asr} {G : DG}, Stars (Stars ps :: l) G → Stars (ps ++ l) G
  | [], G, hs => hs.tail
  | P :: ps, G, hs => by
    obtain ⟨h, k, ap, b, c, ⟨h1, k1, ap1, b1, c1, d1, f1⟩, f⟩ := hs
    have e2 : ∀ x, h1 x ≠ none → k x = none := fun x hx => by
      rcases ap x with z | z
      · exact absurd (by rw [← b1 x hx]; exact z) hx
      · exact z
    have e3 : ∀ x, k1 x ≠ none → k x = none := fun x hx => by
      rcases ap x with z | z
      · exact absurd (by rw [← c1 x hx]; exact z) hx
      · exact z
    refine ⟨h1, gun k1 k, fun x => ?_, b1.trans b, fun x hx => ?_, d1, Stars.split ⟨k1, k, fun x => ?_, fun x hx => gun_l hx, fun x hx => gun_r ?_, f1, f⟩⟩
    · by_cases q : h1 x = none
      · exact .inl q
      · refine .inr ?_
        rw [gun_r ((ap1 x).resolve_left q)]
        exact e2 x q
    · by_cases q : k1 x = none
      · rw [gun_r q] at hx ⊢
        exact c x hx
      · rw [gun_l q]
        exact (c1.trans b) x q
    · by_cases q : k1 x = none
      · exact .inl q
      · exact .inr (e3 x q)
    · by_cases q : k1 x = none
      · exact q
      · exact absurd (e3 x q) hx
/-- some part -/
theorem Stars.ex {α : Type} {P : α → Asr} {l : List Asr} {G : DG} (hs : Stars ((fun h => ∃ x, P x h) :: l) G) : ∃ x, Stars (P x :: l) G := by
  obtain ⟨h, k, a, b, c, ⟨x, d⟩, e⟩ := hs
  exact ⟨x, h, k, a, b, c, d, e⟩
/-- all that is outside of a part stays -/
theorem Stars.frame {P P' : Asr} {l : List Asr} {G G' : DG} {S : Addr → Prop} (hs : Stars (P :: l) G) (hP : ∀ h, Ext h G → P h → ∀ b, S b → h b ≠ none) (hP' : ∀ h, Ext h G → P h → ∃ h', Ext h' G' ∧ P' h' ∧ ∀ b, h' b ≠ none → S b ∨ G b = none) (hr : ∀ b, ¬ S b → G b ≠ none → G' b = G b) : Stars (P' :: l) G' := by
  obtain ⟨h, k, a, b, c, d, e⟩ := hs
  obtain ⟨h', b', d', f'⟩ := hP' h b d
  have hk : ∀ x, k x ≠ none → ¬ S x := fun x hx s => hP h b d x s ((a x).resolve_right hx)
  refine ⟨h', k, fun x => ?_, b', fun x hx => ?_, d', e⟩
  · by_cases q : k x = none
    · exact .inr q
    · refine .inl (Classical.byContradiction fun z => ?_)
      rcases f' x z with s | s
      · exact hk x q s
      · rw [c x q] at s
        exact q s
  · rw [hr x (hk x hx) (by rw [c x hx]; exact hx), c x hx]
end PL

namespace PL
open DL PySem L2
/-! ### instructions -/
inductive Ins where
  | set (r : Nat) (n : Int) | copy (r s : Nat) | add (r s : Nat) | take (r s : Nat) | less (r s : Nat) | go (g : Nat) | zero (r g : Nat) | read (r s : Nat) | write (r s : Nat)
  | ask (r : Nat) (d : String) | tell (r : Nat) (d : String) | look (r s : Nat) (p : String) | mark (r s : Nat) (p : String) | fin
abbrev nD (n : Nat) : D := .int (n : Int)
def Ins.toD : Ins → D
  | .set r n => .tup [.str "set", nD r, .int n]
  | .copy r s => .tup [.str "copy", nD r, nD s]
  | .add r s => .tup [.str "add", nD r, nD s]
  | .take r s => .tup [.str "take", nD r, nD s]
  | .less r s => .tup [.str "less", nD r, nD s]
  | .go g => .tup [.str "go", nD g]
  | .zero r g => .tup [.str "zero", nD r, nD g]
  | .read r s => .tup [.str "read", nD r, nD s]
  | .write r s => .tup [.str "write", nD r, nD s]
  | .ask r d => .tup [.str "ask", nD r, .str d]
  | .tell r d => .tup [.str "tell", nD r, .str d]
  | .look r s p => .tup [.str "look", nD r, nD s, .str p]
  | .mark r s p => .tup [.str "mark", nD r, nD s, .str p]
  | .fin => .tup [.str "end"]
def Ins.Ok : Ins → Prop
  | .set r n => r < 4 ∧ -999 ≤ n ∧ n ≤ 999
  | .copy r s => r < 4 ∧ s < 4
  | .add r s => r < 4 ∧ s < 4
  | .take r s => r < 4 ∧ s < 4
  | .less r s => r < 4 ∧ s < 4
  | .go g => g ≤ 99
  | .zero r g => r < 4 ∧ g ≤ 99
  | .read r s => r < 4 ∧ s < 4
  | .write r s => r < 4 ∧ s < 4
  | .ask r d => r < 4 ∧ wordS d = true
  | .tell r d => r < 4 ∧ wordS d = true
  | .look r s p => r < 4 ∧ s < 4 ∧ wordS p = true
  | .mark r s p => r < 4 ∧ s < 4 ∧ wordS p = true
  | .fin => True
/-! ### rows of numbers -/
abbrev tupI (l : List Int) : D := .tup (l.map D.int)
abbrev lstI (l : List Int) : List D := l.map D.int
abbrev tupS (l : List String) : D := .tup (l.map D.str)
theorem atI_map {l : List Int} {r : Int} (h0 : 0 ≤ r) (h1 : r < l.length) : atI (l.map D.int) r = some (.int (l.getD r.toNat 0)) := by
  unfold atI ixN
  simp only [List.length_map]
  rw [if_pos h0, if_pos h1]
  have : r.toNat < l.length := by omega
  simp [List.getD, this]
theorem map_set (l : List Int) (r : Nat) (x : Int) : (l.map D.int).set r (.int x) = (l.set r x).map D.int := by
  rw [List.map_set]
end PL

namespace PL
open DL PySem L2
/-! ### a machine, plain -/
structure CS where
  prog : List Ins
  room : Nat
  asks : List String
  tells : List String
  looks : List String
  marks : List String
  spot : Nat
  row : List Int
  own : List Int
  count : List Int
  mood : String
def CS.rights (c : CS) : D := .tup [nD c.room, tupS c.asks, tupS c.tells, tupS c.looks, tupS c.marks]
def CS.fs (c : CS) : List (String × D) := [("program", .tup (c.prog.map Ins.toD)), ("rights", c.rights), ("spot", nD c.spot), ("row", tupI c.row), ("own", tupI c.own), ("count", tupI c.count), ("mood", .str c.mood)]
def CS.ob (c : CS) : DO := .ins "Core" [("program", .tup (c.prog.map Ins.toD)), ("rights", c.rights), ("spot", nD c.spot), ("row", tupI c.row), ("own", tupI c.own), ("count", tupI c.count), ("mood", .str c.mood)]
structure CS.Ok (c : CS) : Prop where
  ins : ∀ i ∈ c.prog, i.Ok
  len : c.prog.length ≤ 40
  row : c.row.length = 4
  own : c.own.length = c.room
  cnt : c.count.length = 5
  room : c.room ≤ 60
  mood : c.mood.length ≤ 10
def CS.open_ (c : CS) : Bool := c.mood == "going" || c.mood == "waiting"
/-- feeds, pages, what was told; sz is beyond all that counts -/
structure WS where
  feeds : String → List Int
  pages : String → List Int
  said : List (String × Int)
  sz : Nat
def CS.at (c : CS) (r : Nat) : Int := c.row.getD r 0
def inCell (x : Int) (n : Nat) : Bool := decide (0 ≤ x) && decide (x < (n : Int))
def inNum (x : Int) : Bool := decide (-999 ≤ x) && decide (x ≤ 999)
def faultI (c : CS) : Ins → Option String
  | .ask _ d => if d ∈ c.asks then none else some "right"
  | .tell _ d => if d ∈ c.tells then none else some "right"
  | .look _ s p => if p ∈ c.looks then (if inCell (c.at s) 10 = true then none else some "cell") else some "right"
  | .mark r _ p => if p ∈ c.marks then (if inCell (c.at r) 10 = true then none else some "cell") else some "right"
  | .read _ s => if inCell (c.at s) c.own.length = true then none else some "cell"
  | .write r _ => if inCell (c.at r) c.own.length = true then none else some "cell"
  | .add r s => if inNum (c.at r + c.at s) = true then none else some "great"
  | .take r s => if inNum (c.at r - c.at s) = true then none else some "great"
  | _ => none
def fset {α : Type} (f : String → α) (k : String) (v : α) : String → α := fun x => if x = k then v else f x
theorem fset_same {α : Type} {f : String → α} {k : String} {v : α} : fset f k v k = v := by unfold fset; rw [if_pos rfl]
theorem fset_ne {α : Type} {f : String → α} {k x : String} {v : α} (h : x ≠ k) : fset f k v x = f x := by unfold fset; rw [if_neg h]
/-- whether it waits: full tells how many a box takes, none of a world alone -/
def waits (full : Option Nat) (w : WS) : Ins → Bool
  | .ask _ d => (w.feeds d).isEmpty
  | .tell _ d => match full with
    | some n => decide (n ≤ (w.feeds d).length)
    | none => false
  | _ => false
def CS.put (c : CS) (r : Nat) (x : Int) : CS := { c with row := c.row.set r x }
def actI (full : Option Nat) (c : CS) (w : WS) : Ins → CS × WS
  | .set r n => ({ c with row := c.row.set r n, spot := c.spot + 1 }, w)
  | .copy r s => ({ c with row := c.row.set r (c.at s), spot := c.spot + 1 }, w)
  | .add r s => ({ c with row := c.row.set r (c.at r + c.at s), spot := c.spot + 1 }, w)
  | .take r s => ({ c with row := c.row.set r (c.at r - c.at s), spot := c.spot + 1 }, w)
  | .less r s => ({ c with row := c.row.set r (if c.at r < c.at s then 1 else 0), spot := c.spot + 1 }, w)
  | .go g => ({ c with spot := g }, w)
  | .zero r g => ({ c with spot := if c.at r = 0 then g else c.spot + 1 }, w)
  | .read r s => ({ c with row := c.row.set r (c.own.getD (c.at s).toNat 0), spot := c.spot + 1 }, w)
  | .write r s => ({ c with own := c.own.set (c.at r).toNat (c.at s), spot := c.spot + 1 }, w)
  | .ask r d => ({ c with row := c.row.set r ((w.feeds d).headD 0), spot := c.spot + 1 }, { w with feeds := fset w.feeds d (w.feeds d).tail })
  | .tell r d => ({ c with spot := c.spot + 1 }, match full with
    | none => { w with said := w.said ++ [(d, c.at r)] }
    | some _ => { w with feeds := fset w.feeds d (w.feeds d ++ [c.at r]) })
  | .look r s p => ({ c with row := c.row.set r ((w.pages p).getD (c.at s).toNat 0), spot := c.spot + 1 }, w)
  | .mark r s p => ({ c with spot := c.spot + 1 }, { w with pages := fset w.pages p ((w.pages p).set (c.at r).toNat (c.at s)) })
  | .fin => (c, w)
def meterAt : Ins → Nat
  | .read _ _ => 1
  | .look _ _ _ => 1
  | .write _ _ => 2
  | .mark _ _ _ => 2
  | .ask _ _ => 3
  | .tell _ _ => 4
  | _ => 0
def bump (l : List Int) (at_ : Nat) : List Int := let m := l.set 0 (l.getD 0 0 + 1); if at_ = 0 then m else m.set at_ (m.getD at_ 0 + 1)
def endMood : Ins → String
  | .fin => "ended"
  | _ => "going"
def stepM (full : Option Nat) (c : CS) (w : WS) : Bool × CS × WS := match c.prog[c.spot]? with
  | none => (false, { c with mood := "place" }, w)
  | some i => match faultI c i with
    | some f => (false, { c with mood := f }, w)
    | none => if waits full w i = true then (false, { c with mood := "waiting" }, w) else
      (true, { (actI full c w i).1 with mood := endMood i, count := bump c.count (meterAt i) }, { (actI full c w i).2 with sz := w.sz + 1 })
/-! ### where they stand -/
abbrev feedsA (fl : List (String × Addr)) (f : String → List Int) : List Asr := fl.map fun x => pt x.2 (.lst (lstI (f x.1)))
abbrev pageL (pl : List (String × List Int)) : List (D × D) := pl.map fun x => (.str x.1, tupI x.2)
def saidD (x : String × Int) : D := .tup [.str x.1, .int x.2]
def zero10 : List Int := [0, 0, 0, 0, 0, 0, 0, 0, 0, 0]
def pageOf (pl : List (String × List Int)) (p : String) : List Int := (pl.lookup p).getD zero10
structure WOk (fl : List (String × Addr)) (w : WS) : Prop where
  nd : (fl.map (·.1)).Nodup
  no : ∀ d, d ∉ fl.map (·.1) → w.feeds d = []
  fl : fl.length ≤ w.sz
  fd : ∀ d, (w.feeds d).length ≤ w.sz
  sd : w.said.length ≤ w.sz
  pg : ∀ p, (w.pages p).length = 10
/-- the world of a machine alone -/
def WorldA (a : Addr) (w : WS) : Asr := fun G => ∃ (f g h : Addr) (fl : List (String × Addr)) (pl : List (String × List Int)),
  Stars ([pt a (.ins "World" [("feeds", .ref f), ("pages", .ref g), ("said", .ref h)]), pt f (.dct (keyL fl)), pt g (.dct (pageL pl)), pt h (.lst (w.said.map saidD))] ++ feedsA fl w.feeds) G ∧ WOk fl w ∧ pl.length ≤ w.sz ∧ (pl.map (·.1)).Nodup ∧ ∀ p, pageOf pl p = w.pages p
end PL
namespace PL
open DL PySem L2
end PL
namespace PL
open DL PySem L2
end PL
namespace PL
open DL PySem L2
theorem inB_S {G : DG} {d : String} {l : List String} : pyInB G (.str d) (tupS l) = some (decide (d ∈ l)) := by
  have e : ((l.map D.str).all flatD) = true := by
    rw [List.all_eq_true]
    intro x hx
    obtain ⟨y, _, rfl⟩ := List.mem_map.mp hx
    rfl
  show (if flatD (.str d) && (l.map D.str).all flatD then some ((l.map D.str).any fun z => eqF z (.str d)) else none) = _
  rw [e]
  show some _ = some _
  congr 1
  rw [List.any_map]
  by_cases h : d ∈ l
  · rw [decide_eq_true h, List.any_eq_true]
    exact ⟨d, h, by show (d == d) = true; simp⟩
  · rw [decide_eq_false h, List.any_eq_false]
    intro x hx
    show ¬ (x == d) = true
    rw [beq_iff_eq]
    intro z
    exact h (z ▸ hx)
theorem notin_S {G : DG} {d : String} {l : List String} : pyNotIn G (.str d) (tupS l) = some (.bl (!decide (d ∈ l))) := by
  unfold pyNotIn
  rw [inB_S]
  rfl
theorem in_S {G : DG} {d : String} {l : List String} : pyIn G (.str d) (tupS l) = some (.bl (decide (d ∈ l))) := by
  unfold pyIn
  rw [inB_S]
  rfl
end PL
namespace PL
open DL PySem L2
end PL

namespace PL
open DL PySem L2
end PL
namespace PL
open DL PySem L2
theorem Stars.pure {P : Asr} {φ : Prop} {l : List Asr} {G : DG} (hs : Stars ((fun h => P h ∧ φ) :: l) G) : Stars (P :: l) G ∧ φ := by
  obtain ⟨h, k, a, b, c, ⟨d, f⟩, e⟩ := hs
  exact ⟨⟨h, k, a, b, c, d, e⟩, f⟩
theorem Stars.mk {P P' : Asr} {l : List Asr} {G : DG} (hs : Stars (P' :: l) G) (f : ∀ h, P' h → P h) : Stars (P :: l) G := hs.head f
end PL
namespace PL
open DL PySem L2
theorem dkEq_str {s t : String} : dkEq (.str s) (.str t) = decide (s = t) := rfl
theorem dget_map {α : Type} (f : α → D) (k : String) : ∀ l : List (String × α), dget (l.map fun x => (D.str x.1, f x.2)) (.str k) = (l.lookup k).map f
  | [] => rfl
  | (s, v) :: l => by
    have ih := dget_map f k l
    unfold dget at ih ⊢
    rw [List.map_cons, List.find?_cons, dkEq_str, List.lookup_cons]
    by_cases h : s = k
    · subst h
      simp
    · have h2 : (k == s) = false := by rw [beq_eq_false_iff_ne]; exact fun z => h z.symm
      rw [decide_eq_false h, h2]
      exact ih
def aput {α : Type} (l : List (String × α)) (k : String) (v : α) : List (String × α) := if k ∈ l.map (·.1) then l.map (fun x => if x.1 = k then (x.1, v) else x) else l ++ [(k, v)]
theorem aput_keys {α : Type} {l : List (String × α)} {k : String} {v : α} : (aput l k v).map (·.1) = if k ∈ l.map (·.1) then l.map (·.1) else l.map (·.1) ++ [k] := by
  unfold aput
  split
  · rw [List.map_map]
    refine List.map_congr_left fun x _ => ?_
    show (if x.1 = k then (x.1, v) else x).1 = x.1
    split <;> rfl
  · simp
theorem aput_nodup {α : Type} {l : List (String × α)} {k : String} {v : α} (h : (l.map (·.1)).Nodup) : ((aput l k v).map (·.1)).Nodup := by
  rw [aput_keys]
  split
  · exact h
  · rename_i q
    rw [List.nodup_append]
    refine ⟨h, by simp, fun a ha b hb z => q ?_⟩
    rw [List.mem_singleton] at hb
    rw [← hb, ← z]
    exact ha
theorem aput_len {α : Type} {l : List (String × α)} {k : String} {v : α} : (aput l k v).length ≤ l.length + 1 := by
  unfold aput
  split <;> simp
theorem lookup_mem {α : Type} {k : String} {v : α} : ∀ {l : List (String × α)}, l.lookup k = some v → (k, v) ∈ l
  | [], h => by cases h
  | (s, u) :: l, h => by
    rw [List.lookup_cons] at h
    by_cases q : k = s
    · subst q
      simp at h
      simp [h]
    · have h2 : (k == s) = false := by rw [beq_eq_false_iff_ne]; exact q
      rw [h2] at h
      exact List.mem_cons_of_mem _ (lookup_mem h)
theorem lookup_some {α : Type} {k : String} : ∀ {l : List (String × α)}, k ∈ l.map (·.1) → ∃ v, l.lookup k = some v
  | [], h => by cases h
  | (s, u) :: l, h => by
    rw [List.lookup_cons]
    by_cases q : k = s
    · subst q
      exact ⟨u, by simp⟩
    · have h2 : (k == s) = false := by rw [beq_eq_false_iff_ne]; exact q
      rw [h2]
      refine lookup_some ?_
      rw [List.map_cons] at h
      exact (List.mem_cons.mp h).resolve_left q
/-! the world of a machine, open -/
theorem WorldA.op {a : Addr} {w : WS} {F : List Asr} {G : DG} (hs : Stars (WorldA a w :: F) G) : ∃ (f g h : Addr) (fl : List (String × Addr)) (pl : List (String × List Int)),
    Stars (pt a (.ins "World" [("feeds", .ref f), ("pages", .ref g), ("said", .ref h)]) :: pt f (.dct (keyL fl)) :: pt g (.dct (pageL pl)) :: pt h (.lst (w.said.map saidD)) :: (feedsA fl w.feeds ++ F)) G ∧ WOk fl w ∧ pl.length ≤ w.sz ∧ (pl.map (·.1)).Nodup ∧ ∀ p, pageOf pl p = w.pages p := by
  obtain ⟨f, hs⟩ := hs.ex
  obtain ⟨g, hs⟩ := hs.ex
  obtain ⟨h, hs⟩ := hs.ex
  obtain ⟨fl, hs⟩ := hs.ex
  obtain ⟨pl, hs⟩ := hs.ex
  obtain ⟨hs, r⟩ := hs.pure
  exact ⟨f, g, h, fl, pl, hs.split, r⟩
theorem WorldA.cl {a f g h : Addr} {w : WS} {fl : List (String × Addr)} {pl : List (String × List Int)} {F : List Asr} {G : DG} (hs : Stars (pt a (.ins "World" [("feeds", .ref f), ("pages", .ref g), ("said", .ref h)]) :: pt f (.dct (keyL fl)) :: pt g (.dct (pageL pl)) :: pt h (.lst (w.said.map saidD)) :: (feedsA fl w.feeds ++ F)) G)
    (wo : WOk fl w) (h1 : pl.length ≤ w.sz) (h2 : (pl.map (·.1)).Nodup) (h3 : ∀ p, pageOf pl p = w.pages p) : Stars (WorldA a w :: F) G := by
  have := Stars.join (ps := [pt a (.ins "World" [("feeds", .ref f), ("pages", .ref g), ("said", .ref h)]), pt f (.dct (keyL fl)), pt g (.dct (pageL pl)), pt h (.lst (w.said.map saidD))] ++ feedsA fl w.feeds) (l := F) (G := G) hs
  exact this.head fun h' z => ⟨f, g, h, fl, pl, z, wo, h1, h2, h3⟩
theorem feeds_at {fl : List (String × Addr)} {d : String} {a : Addr} (h : (d, a) ∈ fl) : ∃ j : Nat, fl[j]? = some (d, a) := List.mem_iff_getElem?.mp h
theorem nodup_get {l : List String} (nd : l.Nodup) : ∀ {i j : Nat} {x : String}, l[i]? = some x → l[j]? = some x → i = j := by
  induction l with
  | nil => intro i j x h; simp at h
  | cons y l ih =>
    rw [List.nodup_cons] at nd
    intro i j x hi hj
    match i, j with
    | 0, 0 => rfl
    | 0, j + 1 =>
      simp at hi hj
      subst hi
      exact absurd (List.mem_of_getElem? hj) nd.1
    | i + 1, 0 =>
      simp at hi hj
      subst hj
      exact absurd (List.mem_of_getElem? hi) nd.1
    | i + 1, j + 1 =>
      simp at hi hj
      rw [ih nd.2 hi hj]
theorem feeds_get {fl : List (String × Addr)} {j : Nat} {d : String} {a : Addr} {F : List Asr} {f : String → List Int} (h : fl[j]? = some (d, a)) : (feedsA fl f ++ F)[j]? = some (pt a (.lst (lstI (f d)))) := by
  obtain ⟨hj, e⟩ := List.getElem?_eq_some_iff.mp h
  rw [List.getElem?_append_left (by simpa using hj), List.getElem?_map, h]
  rfl
theorem asD_at {G : DG} {a : Addr} {xs : List (D × D)} (h : G a = some (.dct xs)) : asD G (.ref a) = some xs := by
  show dctO (G a) = _
  rw [h]
  rfl
theorem item_d {G : DG} {a : Addr} {kvs : List (D × D)} {k : String} {v : D} (h : G a = some (.dct kvs)) (e : dget kvs (.str k) = some v) : pyItem G (.ref a) (.str k) = some v := by
  unfold pyItem
  rw [asD_at h]
  exact e
end PL
namespace PL
open DL PySem L2
theorem par_e {xs : List D} {is : List Nat} {P : Prop} (h : xs.length = is.length) (k : P) : xs.length = is.length ∧ P := ⟨h, k⟩
end PL
namespace PL
open DL PySem L2
theorem endMood_len (i : Ins) : (endMood i).length ≤ 10 := by
  cases i <;> first | exact (by decide : "going".length ≤ 10) | exact (by decide : "ended".length ≤ 10)
end PL

namespace PL
open DL PySem L2
/-! ### the law's own machine -/
structure OA where
  q : Addr
  r : Addr
  o : Addr
  s : Addr
  k : Addr
  f : Addr
  g : Addr
def fullL : Option Nat → List (D × D)
  | none => []
  | some n => [(.str "full", nD n)]
/-- what more a machine of the law's own has: how many its boxes take; its fuel and pace -/
structure FX where
  full : Option Nat
  ex : Option (Nat × Nat)
def exL : Option (Nat × Nat) → List (D × D)
  | none => []
  | some x => [(.str "fuel", nD x.1), (.str "pace", nD x.2)]
def ownL (cs : CS) (a : OA) (X : FX) : List (D × D) :=
  (.str "program", .tup (cs.prog.map Ins.toD)) :: (.str "rights", cs.rights) :: (.str "place", nD cs.spot) :: (.str "row", .ref a.r) :: (.str "own", .ref a.o) :: (.str "said", .ref a.s) :: (.str "count", .ref a.k) :: (.str "mood", .str cs.mood) :: (.str "feeds", .ref a.f) :: (.str "pages", .ref a.g) :: (exL X.ex ++ fullL X.full)
abbrev ownA (cs : CS) (a : OA) (X : FX) (sd : List (String × Int)) : List Asr := [pt a.q (.dct (ownL cs a X)), pt a.r (.lst (lstI cs.row)), pt a.o (.lst (lstI cs.own)), pt a.s (.lst (sd.map saidD)), pt a.k (.lst (lstI cs.count))]
def LawC (q f g : Addr) (cs : CS) (X : FX) (sd : List (String × Int)) : Asr := fun G => ∃ r o s k, Stars (ownA cs ⟨q, r, o, s, k, f, g⟩ X sd) G
structure POk (gl : List (String × Addr)) (w : WS) : Prop where
  nd : (gl.map (·.1)).Nodup
  no : ∀ p, p ∉ gl.map (·.1) → w.pages p = zero10
  len : gl.length ≤ w.sz
def LawW (f g : Addr) (w : WS) : Asr := fun G => ∃ (fl gl : List (String × Addr)), Stars ([pt f (.dct (keyL fl)), pt g (.dct (keyL gl))] ++ (feedsA fl w.feeds ++ feedsA gl w.pages)) G ∧ WOk fl w ∧ POk gl w
theorem LawC.op {q f g : Addr} {cs : CS} {X : FX} {sd : List (String × Int)} {F : List Asr} {G : DG} (hs : Stars (LawC q f g cs X sd :: F) G) : ∃ a : OA, q = a.q ∧ f = a.f ∧ g = a.g ∧ Stars (ownA cs a X sd ++ F) G := by
  obtain ⟨r, hs⟩ := hs.ex
  obtain ⟨o, hs⟩ := hs.ex
  obtain ⟨s, hs⟩ := hs.ex
  obtain ⟨k, hs⟩ := hs.ex
  exact ⟨⟨q, r, o, s, k, f, g⟩, rfl, rfl, rfl, hs.split⟩
theorem LawC.cl {a : OA} {cs : CS} {X : FX} {sd : List (String × Int)} {F : List Asr} {G : DG} (hs : Stars (ownA cs a X sd ++ F) G) : Stars (LawC a.q a.f a.g cs X sd :: F) G :=
  (Stars.join hs).head fun h z => ⟨a.r, a.o, a.s, a.k, z⟩
theorem LawW.op {f g : Addr} {w : WS} {F : List Asr} {G : DG} (hs : Stars (LawW f g w :: F) G) : ∃ (fl gl : List (String × Addr)), Stars (pt f (.dct (keyL fl)) :: pt g (.dct (keyL gl)) :: (feedsA fl w.feeds ++ (feedsA gl w.pages ++ F))) G ∧ WOk fl w ∧ POk gl w := by
  obtain ⟨fl, hs⟩ := hs.ex
  obtain ⟨gl, hs⟩ := hs.ex
  obtain ⟨hs, r⟩ := hs.pure
  refine ⟨fl, gl, ?_, r⟩
  have := hs.split
  rw [List.append_assoc, List.append_assoc] at this
  exact this
theorem LawW.cl {f g : Addr} {w : WS} {fl gl : List (String × Addr)} {F : List Asr} {G : DG} (hs : Stars (pt f (.dct (keyL fl)) :: pt g (.dct (keyL gl)) :: (feedsA fl w.feeds ++ (feedsA gl w.pages ++ F))) G) (wo : WOk fl w) (po : POk gl w) : Stars (LawW f g w :: F) G := by
  have := Stars.join (ps := [pt f (.dct (keyL fl)), pt g (.dct (keyL gl))] ++ (feedsA fl w.feeds ++ feedsA gl w.pages)) (l := F) (G := G) (by rw [List.append_assoc, List.append_assoc]; exact hs)
  exact this.head fun h z => ⟨fl, gl, z, wo, po⟩
section
variable {cs : CS} {a : OA} {X : FX} {G : DG}
end
theorem some_e {α : Type} {o : Option α} {P : Prop} (h : o.isSome = true) (k : P) : o.isSome = true ∧ P := ⟨h, k⟩
theorem WOk.pages {fl : List (String × Addr)} {w : WS} (wo : WOk fl w) {p : String} {v : List Int} (h : v.length = 10) : WOk fl { w with pages := fset w.pages p v, sz := w.sz + 1 } := ⟨wo.nd, wo.no, Nat.le_succ_of_le wo.fl, fun d => Nat.le_succ_of_le (wo.fd d), Nat.le_succ_of_le wo.sd, fun q => by
  show (fset w.pages p v q).length = 10
  unfold fset
  split
  · exact h
  · exact wo.pg q⟩
theorem WOk.feeds {fl : List (String × Addr)} {w : WS} (wo : WOk fl w) {d : String} {v : List Int} (hd : d ∈ fl.map (·.1)) (h : v.length ≤ w.sz + 1) : WOk fl { w with feeds := fset w.feeds d v, sz := w.sz + 1 } := ⟨wo.nd, fun y hy => by
  show fset w.feeds d v y = []
  rw [fset_ne fun (z : y = d) => hy (z ▸ hd)]
  exact wo.no y hy, Nat.le_succ_of_le wo.fl, fun y => by
  show (fset w.feeds d v y).length ≤ w.sz + 1
  unfold fset
  split
  · exact h
  · exact Nat.le_succ_of_le (wo.fd y), Nat.le_succ_of_le wo.sd, wo.pg⟩
end PL
namespace PL
open DL PySem L2
end PL

namespace PL
open DL PySem L2
/-- a machine alone -/
def MachA (p : Addr) (cs : CS) (ws : WS) : Asr := fun G => ∃ c w, Stars [pt p (.ins "Machine" [("core", .ref c), ("world", .ref w)]), pt c cs.ob, WorldA w ws] G
theorem MachA.op {p : Addr} {cs : CS} {ws : WS} {F : List Asr} {G : DG} (hs : Stars (MachA p cs ws :: F) G) : ∃ c w, Stars (pt p (.ins "Machine" [("core", .ref c), ("world", .ref w)]) :: pt c cs.ob :: WorldA w ws :: F) G := by
  obtain ⟨c, hs⟩ := hs.ex
  obtain ⟨w, hs⟩ := hs.ex
  exact ⟨c, w, hs.split⟩
theorem MachA.cl {p c w : Addr} {cs : CS} {ws : WS} {F : List Asr} {G : DG} (hs : Stars (pt p (.ins "Machine" [("core", .ref c), ("world", .ref w)]) :: pt c cs.ob :: WorldA w ws :: F) G) : Stars (MachA p cs ws :: F) G :=
  (Stars.join (ps := [pt p (.ins "Machine" [("core", .ref c), ("world", .ref w)]), pt c cs.ob, WorldA w ws]) hs).head fun h z => ⟨c, w, z⟩
/-- as it begins -/
structure Prg where
  prog : List Ins
  room : Nat
  asks : List String
  tells : List String
  looks : List String
  marks : List String
def Prg.cs (p : Prg) : CS := ⟨p.prog, p.room, p.asks, p.tells, p.looks, p.marks, 0, [0, 0, 0, 0], List.replicate p.room 0, [0, 0, 0, 0, 0], "going"⟩
def Prg.pD (p : Prg) : D := .tup (p.prog.map Ins.toD)
def Prg.rD (p : Prg) : D := .tup [nD p.room, tupS p.asks, tupS p.tells, tupS p.looks, tupS p.marks]
structure Prg.Ok (p : Prg) : Prop where
  prog : isProg p.pD = true
  rights : isRights p.rD = true
  ins : ∀ i ∈ p.prog, i.Ok
  len : p.prog.length ≤ 40
  room : p.room ≤ 60
theorem Prg.Ok.cs {p : Prg} (h : p.Ok) : p.cs.Ok := ⟨h.ins, h.len, rfl, by simp [Prg.cs], rfl, h.room, (by decide : "going".length ≤ 10)⟩
def ws0 (f : String → List Int) (g : String → List Int) (n : Nat) : WS := ⟨f, g, [], n⟩
theorem le_e {n : Nat} {P : Prop} (h : n ≤ 16000000) (k : P) : n ≤ 16000000 ∧ P := ⟨h, k⟩
theorem faultI_len {c : CS} {i : Ins} {s : String} (h : faultI c i = some s) : s.length ≤ 10 := by
  have : s = "right" ∨ s = "cell" ∨ s = "great" := by
    cases i <;> simp only [faultI] at h <;> (try split at h) <;> (try split at h) <;> (try cases h) <;> simp
  rcases this with rfl | rfl | rfl <;> decide
theorem actI_ok {full : Option Nat} {c : CS} {w : WS} {i : Ins} (ok : c.Ok) : (actI full c w i).1.Ok := by
  cases i <;> exact ⟨ok.ins, ok.len, by simp [actI, ok.row], by simp [actI, ok.own], ok.cnt, ok.room, ok.mood⟩
theorem bump_len {l : List Int} {n : Nat} : (bump l n).length = l.length := by
  unfold bump
  simp only
  split <;> simp
theorem stepM_ok {full : Option Nat} {c : CS} {w : WS} (ok : c.Ok) : (stepM full c w).2.1.Ok := by
  unfold stepM
  split
  · exact ⟨ok.ins, ok.len, ok.row, ok.own, ok.cnt, ok.room, (by decide : "place".length ≤ 10)⟩
  · rename_i i hi
    split
    · rename_i s hs
      exact ⟨ok.ins, ok.len, ok.row, ok.own, ok.cnt, ok.room, faultI_len hs⟩
    · split
      · exact ⟨ok.ins, ok.len, ok.row, ok.own, ok.cnt, ok.room, (by decide : "waiting".length ≤ 10)⟩
      · have h := actI_ok (full := full) (w := w) (i := i) ok
        exact ⟨h.ins, h.len, h.row, h.own, by show (bump c.count (meterAt i)).length = 5; rw [bump_len]; exact ok.cnt, h.room, endMood_len i⟩
theorem stepM_sz {full : Option Nat} {c : CS} {w : WS} : (stepM full c w).2.2.sz ≤ w.sz + 1 := by
  unfold stepM
  split
  · exact Nat.le_succ _
  · split
    · exact Nat.le_succ _
    · split
      · exact Nat.le_succ _
      · exact Nat.le_refl _
/-- so many steps at most, as run does them -/
def runM (full : Option Nat) : Nat → CS → WS → CS × WS
  | 0, c, w => (c, w)
  | n + 1, c, w => if c.open_ = true then (if (stepM full c w).2.1.mood = "going" then runM full n (stepM full c w).2.1 (stepM full c w).2.2 else ((stepM full c w).2.1, (stepM full c w).2.2)) else (c, w)
def CS.prg (c : CS) : Prg := ⟨c.prog, c.room, c.asks, c.tells, c.looks, c.marks⟩
theorem actI_prg {full : Option Nat} {c : CS} {w : WS} {i : Ins} : (actI full c w i).1.prg = c.prg := by cases i <;> rfl
theorem stepM_prg {full : Option Nat} {c : CS} {w : WS} : (stepM full c w).2.1.prg = c.prg := by
  unfold stepM
  split
  · rfl
  · split
    · rfl
    · split
      · rfl
      · exact actI_prg
theorem Stars.appR {l m m' : List Asr} {G : DG} (f : ∀ G, Stars m G → Stars m' G) (hs : Stars (l ++ m) G) : Stars (l ++ m') G := by
  induction l generalizing G with
  | nil => exact f G hs
  | cons P l ih => exact Stars.cons (fun _ h => ih h) hs
theorem asg_e {xs : List D} {ts : List DTG} {P : Prop} (h : xs.length = ts.length) (k : P) : xs.length = ts.length ∧ P := ⟨h, k⟩
end PL

namespace PL
open DL PySem L2
/-! ### runs -/
theorem fault_word {c : CS} {i : Ins} {s : String} (h : faultI c i = some s) : s = "right" ∨ s = "cell" ∨ s = "great" := by
  cases i <;> simp only [faultI] at h <;> (try split at h) <;> (try split at h) <;> (try cases h) <;> simp
/-- what holds of each machine of a law -/
structure Good (full : Option Nat) (c : CS) (w : WS) : Prop where
  ok : c.Ok
  prg : c.prg.Ok
  said : ∀ x ∈ w.said, x.1.length ≤ 100
  wait : c.mood = "waiting" → stepM full c w = (false, c, w)
theorem word_len {s : String} (h : wordS s = true) : s.length ≤ 8 := by
  unfold wordS at h
  simp only [Bool.and_eq_true, decide_eq_true_eq] at h
  exact h.1.2
theorem Good.step {full : Option Nat} {c : CS} {w : WS} (g : Good full c w) : Good full (stepM full c w).2.1 (stepM full c w).2.2 := by
  refine ⟨stepM_ok g.ok, by rw [stepM_prg]; exact g.prg, ?_, ?_⟩
  · have h := g.said
    unfold stepM
    split
    · exact h
    · rename_i i hi
      have io := g.ok.ins i (List.mem_of_getElem? hi)
      split
      · exact h
      · split
        · exact h
        · cases i with
          | tell r d =>
            intro x hx
            cases full with
            | none =>
              have hx : x ∈ w.said ++ [(d, c.at r)] := hx
              rcases List.mem_append.mp hx with hx | hx
              · exact h x hx
              · simp at hx
                subst hx
                have := word_len io.2
                show d.length ≤ 100
                omega
            | some n => exact h x hx
          | _ => exact h
  · unfold stepM
    split
    · intro z
      exact absurd z (show ¬ "place" = "waiting" by decide)
    · rename_i i hi
      split
      · rename_i s hf
        intro z
        have z : s = "waiting" := z
        rcases fault_word hf with e | e | e <;> (rw [e] at z; exact absurd z (by decide))
      · rename_i hf
        split
        · rename_i hw
          intro _
          have hf2 : faultI { c with mood := "waiting" } i = none := by cases i <;> exact hf
          simp only [hi, hf2, hw]
          rfl
        · intro z
          have z : endMood i = "waiting" := z
          cases i <;> exact absurd z (by simp [endMood])
theorem Good.run {full : Option Nat} : ∀ {n : Nat} {c : CS} {w : WS}, Good full c w → Good full (runM full n c w).1 (runM full n c w).2
  | 0, c, w, g => g
  | n + 1, c, w, g => by
    unfold runM
    split
    · split
      · exact Good.run g.step
      · exact g.step
    · exact g
def shownD (cs : CS) (sd : List (String × Int)) : D := .tup [.str cs.mood, nD cs.spot, tupI cs.row, tupI cs.own, .lst (sd.map saidD), tupI cs.count]
theorem okD_tupI (n : Nat) (l : List Int) : okD (n + 1) (tupI l) = true := by
  show (l.map D.int).all (okD n) = true
  rw [List.all_eq_true]
  intro x hx
  obtain ⟨y, _, rfl⟩ := List.mem_map.mp hx
  cases n <;> rfl
theorem Good.okD {full : Option Nat} {c : CS} {w : WS} (g : Good full c w) : okD 40 (shownD c w.said) = true := by
  have h1 : PL.okD 39 (.str c.mood) = true := decide_eq_true (by have := g.ok.mood; omega)
  have h2 : PL.okD 39 (.lst (w.said.map saidD)) = true := by
    show (w.said.map saidD).all (PL.okD 38) = true
    rw [List.all_eq_true]
    intro x hx
    obtain ⟨y, hy, rfl⟩ := List.mem_map.mp hx
    show (PL.okD 37 (.str y.1) && (PL.okD 37 (.int y.2) && true)) = true
    rw [show PL.okD 37 (.str y.1) = true from decide_eq_true (by have := g.said y hy; omega)]
    rfl
  show (PL.okD 39 _ && (PL.okD 39 _ && (PL.okD 39 _ && (PL.okD 39 _ && (PL.okD 39 _ && (PL.okD 39 _ && true)))))) = true
  rw [h1, h2, okD_tupI 38, okD_tupI 38, okD_tupI 38]
  rfl
end PL

namespace PL
open DL PySem L2
/-! ### two machines side by side -/
def stepO (c : CS) (w : WS) : CS × WS := if c.open_ = true then ((stepM none c w).2.1, (stepM none c w).2.2) else (c, w)
theorem Good.stepO {c : CS} {w : WS} (g : Good none c w) : Good none (PL.stepO c w).1 (PL.stepO c w).2 := by
  unfold PL.stepO
  split
  · exact g.step
  · exact g
end PL
namespace PL
open DL PySem L2
/-! ### walks -/
def WalkA (a : Addr) (cs : CS) (ws : WS) : Asr := fun G => ∃ (rw m : Addr) (ms : List D), Stars [pt a (.ins "Walk" [("rows", .ref rw)]), pt rw (.lst (ms ++ [.ref m])), MachA m cs ws] G ∧ ms.length ≤ ws.sz
theorem WalkA.op {a : Addr} {cs : CS} {ws : WS} {F : List Asr} {G : DG} (hs : Stars (WalkA a cs ws :: F) G) : ∃ (rw m : Addr) (ms : List D), Stars (pt a (.ins "Walk" [("rows", .ref rw)]) :: pt rw (.lst (ms ++ [.ref m])) :: MachA m cs ws :: F) G ∧ ms.length ≤ ws.sz := by
  obtain ⟨rw, hs⟩ := hs.ex
  obtain ⟨m, hs⟩ := hs.ex
  obtain ⟨ms, hs⟩ := hs.ex
  obtain ⟨hs, h⟩ := hs.pure
  exact ⟨rw, m, ms, hs.split, h⟩
theorem WalkA.cl {a rw m : Addr} {ms : List D} {cs : CS} {ws : WS} {F : List Asr} {G : DG} (hs : Stars (pt a (.ins "Walk" [("rows", .ref rw)]) :: pt rw (.lst (ms ++ [.ref m])) :: MachA m cs ws :: F) G) (h : ms.length ≤ ws.sz) : Stars (WalkA a cs ws :: F) G :=
  (Stars.join (ps := [pt a (.ins "Walk" [("rows", .ref rw)]), pt rw (.lst (ms ++ [.ref m])), MachA m cs ws]) hs).head fun _ z => ⟨rw, m, ms, z, h⟩
end PL

/-! where a program's places lead; rows that are sorted -/
namespace PL
open DL PySem L2
def dueN : Ins → Nat → List Nat
  | .fin, _ => []
  | .go g, _ => [g]
  | .zero _ g, p => [p + 1, g]
  | _, p => [p + 1]
inductive Reach (is : List Ins) : Nat → Prop
  | zero : Reach is 0
  | step {x g : Nat} {i : Ins} : Reach is x → is[x]? = some i → g ∈ dueN i x → Reach is g
/-! ### the program's way: found, work -/
def push (n : Nat) : List Nat → List Nat → List Nat → List Nat × List Nat
  | [], fs, wk => (fs, wk)
  | g :: gs, fs, wk => if g < n ∧ g ∉ fs then push n gs (fs ++ [g]) (wk ++ [g]) else push n gs fs wk
structure Pushed (n : Nat) (gs fs wk fs' wk' : List Nat) : Prop where
  sub : ∀ x ∈ fs, x ∈ fs'
  subw : ∀ x ∈ wk, x ∈ wk'
  new : ∀ x ∈ fs', x ∈ fs ∨ (x ∈ gs ∧ x < n ∧ x ∈ wk')
  neww : ∀ x ∈ wk', x ∈ wk ∨ x ∈ fs'
  all : ∀ g ∈ gs, g < n → g ∈ fs'
  nd : fs.Nodup → fs'.Nodup
  len : fs'.length + wk.length = wk'.length + fs.length
theorem pushed (n : Nat) : ∀ gs fs wk : List Nat, Pushed n gs fs wk (push n gs fs wk).1 (push n gs fs wk).2
  | [], fs, wk => ⟨fun _ m => m, fun _ m => m, fun _ m => .inl m, fun _ m => .inl m, fun _ m => (by cases m), id, Nat.add_comm _ _⟩
  | g :: gs, fs, wk => by
    unfold push
    by_cases c : g < n ∧ g ∉ fs
    · rw [if_pos c]
      have ih := pushed n gs (fs ++ [g]) (wk ++ [g])
      generalize push n gs (fs ++ [g]) (wk ++ [g]) = r at ih
      have mg : g ∈ r.1 := ih.sub g (by simp)
      refine ⟨fun x m => ih.sub x (by simp [m]), fun x m => ih.subw x (by simp [m]), fun x m => ?_, fun x m => ?_, fun x m lt => ?_, fun nd => ih.nd ?_, ?_⟩
      · rcases ih.new x m with q | ⟨q1, q2, q3⟩
        · rcases List.mem_append.mp q with q | q
          · exact .inl q
          · rw [List.mem_singleton.mp q]
            exact .inr ⟨List.mem_cons_self, c.1, ih.subw g (by simp)⟩
        · exact .inr ⟨List.mem_cons_of_mem _ q1, q2, q3⟩
      · rcases ih.neww x m with q | q
        · rcases List.mem_append.mp q with q | q
          · exact .inl q
          · rw [List.mem_singleton.mp q]
            exact .inr mg
        · exact .inr q
      · rcases List.mem_cons.mp m with q | q
        · rw [q]
          exact mg
        · exact ih.all x q lt
      · refine List.nodup_append.mpr ⟨nd, by simp, fun a ha b hb e => ?_⟩
        rw [List.mem_singleton.mp hb] at e
        exact c.2 (e ▸ ha)
      · have := ih.len
        rw [List.length_append, List.length_append] at this
        simp at this
        omega
    · rw [if_neg c]
      have ih := pushed n gs fs wk
      generalize push n gs fs wk = r at ih
      refine ⟨ih.sub, ih.subw, fun x m => (ih.new x m).imp id fun q => ⟨List.mem_cons_of_mem _ q.1, q.2⟩, ih.neww, fun x m lt => ?_, ih.nd, ih.len⟩
      rcases List.mem_cons.mp m with q | q
      · subst q
        refine ih.sub x ?_
        by_cases h : x ∈ fs
        · exact h
        · exact absurd ⟨lt, h⟩ c
      · exact ih.all x q lt
structure InvP (is : List Ins) (fs wk : List Nat) : Prop where
  nd : fs.Nodup
  ok : ∀ x ∈ fs, x < is.length ∧ Reach is x
  wf : ∀ x ∈ wk, x ∈ fs
  cl : ∀ x ∈ fs, x ∈ wk ∨ ∀ i g, is[x]? = some i → g ∈ dueN i x → g < is.length → g ∈ fs
  z : 0 ∈ fs
theorem InvP.start {is : List Ins} (h : 0 < is.length) : InvP is [0] [0] :=
  ⟨by simp, fun x m => by rw [List.mem_singleton.mp m]; exact ⟨h, .zero⟩, fun _ m => m, fun _ m => .inl m, by simp⟩
theorem InvP.next {is : List Ins} {fs wk : List Nat} {h : Nat} {i : Ins} {gs : List Nat} (I : InvP is fs (wk ++ [h])) (hi : is[h]? = some i) (hg : ∀ g, g ∈ gs ↔ g ∈ dueN i h) : InvP is (push is.length gs fs wk).1 (push is.length gs fs wk).2 := by
  have p := pushed is.length gs fs wk
  generalize push is.length gs fs wk = r at p
  have hh : h ∈ fs := I.wf h (by simp)
  refine ⟨p.nd I.nd, fun x m => ?_, fun x m => ?_, fun x m => ?_, p.sub 0 I.z⟩
  · rcases p.new x m with q | ⟨q1, q2, _⟩
    · exact I.ok x q
    · exact ⟨q2, .step (I.ok h hh).2 hi ((hg x).mp q1)⟩
  · rcases p.neww x m with q | q
    · exact p.sub x (I.wf x (by simp [q]))
    · exact q
  · rcases p.new x m with q | ⟨_, _, q3⟩
    · rcases I.cl x q with c | c
      · rcases List.mem_append.mp c with c | c
        · exact .inl (p.subw x c)
        · refine .inr fun j g hj mg lt => ?_
          rw [List.mem_singleton.mp c] at hj mg
          rw [hi] at hj
          cases hj
          exact p.all g ((hg g).mpr mg) lt
      · exact .inr fun j g hj mg lt => p.sub g (c j g hj mg lt)
    · exact .inl q3
theorem InvP.all {is : List Ins} {fs : List Nat} (I : InvP is fs []) {x : Nat} (r : Reach is x) : x < is.length → x ∈ fs := by
  induction r with
  | zero => exact fun _ => I.z
  | step r hi mg ih =>
    rename_i y g i
    intro lt
    have ly : y < is.length := (List.getElem?_eq_some_iff.mp hi).1
    rcases I.cl y (ih ly) with c | c
    · cases c
    · exact c i g hi mg lt
/-! ### the law's way: seen, work -/
structure InvL (is : List Ins) (sn wk : List Nat) : Prop where
  nd : sn.Nodup
  ok : ∀ x ∈ sn, x < is.length ∧ Reach is x
  wr : ∀ x ∈ wk, Reach is x
  cl : ∀ x ∈ sn, ∀ i g, is[x]? = some i → g ∈ dueN i x → g < is.length → g ∈ sn ∨ g ∈ wk
  z : 0 ∈ sn ∨ 0 ∈ wk
theorem InvL.start {is : List Ins} : InvL is [] [0] :=
  ⟨by simp, fun x m => (by cases m), fun x m => (by rw [List.mem_singleton.mp m]; exact .zero), fun x m => (by cases m), .inr (by simp)⟩
theorem InvL.skip {is : List Ins} {sn wk : List Nat} {h : Nat} (I : InvL is sn (wk ++ [h])) (c : ¬ (h < is.length ∧ h ∉ sn)) : 0 < is.length → InvL is sn wk := fun h0 => by
  have old : ∀ g, g < is.length → g ∈ sn ∨ g ∈ wk ++ [h] → g ∈ sn ∨ g ∈ wk := fun g lt q => by
    rcases q with q | q
    · exact .inl q
    · rcases List.mem_append.mp q with q | q
      · exact .inr q
      · rw [List.mem_singleton.mp q] at lt ⊢
        by_cases hs : h ∈ sn
        · exact .inl hs
        · exact absurd ⟨lt, hs⟩ c
  exact ⟨I.nd, I.ok, fun x m => I.wr x (by simp [m]), fun x m i g hi mg lt => old g lt (I.cl x m i g hi mg lt), old 0 h0 I.z⟩
theorem InvL.next {is : List Ins} {sn wk gs : List Nat} {h : Nat} {i : Ins} (I : InvL is sn (wk ++ [h])) (c : h < is.length ∧ h ∉ sn) (hi : is[h]? = some i) (hg : ∀ g, g ∈ gs ↔ g ∈ dueN i h) : InvL is (sn ++ [h]) (wk ++ gs) := by
  have rh : Reach is h := I.wr h (by simp)
  have old : ∀ g, g ∈ sn ∨ g ∈ wk ++ [h] → g ∈ sn ++ [h] ∨ g ∈ wk ++ gs := fun g q => by
    rcases q with q | q
    · exact .inl (by simp [q])
    · rcases List.mem_append.mp q with q | q
      · exact .inr (by simp [q])
      · exact .inl (by simp [List.mem_singleton.mp q])
  refine ⟨List.nodup_append.mpr ⟨I.nd, by simp, fun a ha b hb e => ?_⟩, fun x m => ?_, fun x m => ?_, fun x m j g hj mg lt => ?_, old 0 I.z⟩
  · rw [List.mem_singleton.mp hb] at e
    exact c.2 (e ▸ ha)
  · rcases List.mem_append.mp m with q | q
    · exact I.ok x q
    · rw [List.mem_singleton.mp q]
      exact ⟨c.1, rh⟩
  · rcases List.mem_append.mp m with q | q
    · exact I.wr x (by simp [q])
    · exact .step rh hi ((hg x).mp q)
  · rcases List.mem_append.mp m with q | q
    · exact old g (I.cl x q j g hj mg lt)
    · rw [List.mem_singleton.mp q] at hj mg
      rw [hi] at hj
      cases hj
      exact .inr (by simp [(hg g).mpr mg])
theorem InvL.all {is : List Ins} {sn : List Nat} (I : InvL is sn []) {x : Nat} (r : Reach is x) : x < is.length → x ∈ sn := by
  induction r with
  | zero => exact fun _ => I.z.elim id fun q => by cases q
  | step r hi mg ih =>
    rename_i y g i
    intro lt
    have ly : y < is.length := (List.getElem?_eq_some_iff.mp hi).1
    exact (I.cl y (ih ly) i g hi mg lt).elim id fun q => by cases q
/-! ### one layer less -/
/-! ### comprehensions, one by one -/
theorem lcl_nil {tg : Tg} {tt : DTT} {te : DTE} {guard : DG → Prop} {env : DSt} {G : DG} {Q : List D → DG → Prop} (hg : guard G) (h : Q [] G) : dLcL tg tt te guard env [] G Q := ⟨hg, h⟩
theorem lcl_one {i : Nat} {te : DTE} {guard : DG → Prop} {env : DSt} {d : D} {ds : List D} {G : DG} {Q : List D → DG → Prop} (hg : guard G) (h : te EF (env.set i (some d)) G fun y G2 => dLcL (.n i) dYes te guard env ds G2 fun ys G3 => Q (y :: ys) G3) : dLcL (.n i) dYes te guard env (d :: ds) G Q := by
  refine ⟨hg, ?_⟩
  simp only [dTg, dYes, if_true]
  exact h
theorem lcl_map {i : Nat} {te : DTE} {guard : DG → Prop} {env : DSt} {G : DG} {f : D → D} (hg : guard G) : ∀ {ds : List D} {Q : List D → DG → Prop}, (∀ d ∈ ds, ∀ Q : DK, Q (f d) G → te EF (env.set i (some d)) G Q) → Q (ds.map f) G → dLcL (.n i) dYes te guard env ds G Q
  | [], Q, _, k => lcl_nil hg k
  | d :: ds, Q, h, k => lcl_one hg (h d List.mem_cons_self _ (lcl_map hg (fun x m => h x (List.mem_cons_of_mem _ m)) k))
/-! ### rows of words -/
/-- the words of a kind -/
def wordsI (w : String) (i : Ins) : Option String := match i with
  | .ask _ d => if w = "ask" then some d else none
  | .tell _ d => if w = "tell" then some d else none
  | .look _ _ d => if w = "look" then some d else none
  | .mark _ _ d => if w = "mark" then some d else none
  | _ => none
end PL

/-! cages, plain -/
namespace PL
open DL PySem L2
/-! ### rows of names, sorted -/
def insS (x : String) : List String → List String
  | [] => [x]
  | y :: ys => if strLt y x = true then y :: insS x ys else x :: y :: ys
def srtS : List String → List String
  | [] => []
  | x :: xs => insS x (srtS xs)
theorem insD_str (x : String) : ∀ ys : List String, insD (.str x) (ys.map .str) = (insS x ys).map .str
  | [] => rfl
  | y :: ys => by
    show (if strLt y x = true then _ else _) = _
    unfold insS
    by_cases c : strLt y x = true
    · rw [if_pos c, if_pos c, insD_str x ys]
      rfl
    · rw [if_neg c, if_neg c]
      rfl
theorem sortD_str : ∀ xs : List String, sortD (xs.map .str) = (srtS xs).map .str
  | [] => rfl
  | x :: xs => by
    show insD (.str x) (sortD (xs.map .str)) = _
    rw [sortD_str xs, insD_str]
    rfl
theorem insS_perm (x : String) : ∀ ys, (insS x ys).Perm (x :: ys)
  | [] => .refl _
  | y :: ys => by
    unfold insS
    split
    · exact ((insS_perm x ys).cons y).trans (List.Perm.swap x y ys)
    · exact .refl _
theorem srtS_perm : ∀ xs, (srtS xs).Perm xs
  | [] => .refl _
  | x :: xs => (insS_perm x _).trans ((srtS_perm xs).cons x)
theorem strs_at {l : List String} : ∀ d ∈ l.map D.str, atK d = some false := fun d m => by
  obtain ⟨n, _, rfl⟩ := List.mem_map.mp m
  rfl
theorem hom_strs (l : List String) : homD (l.map .str) = true := homD_of fun d m => shD_at (strs_at d m)
theorem srtS_eq {l m : List String} (h : l.Perm m) : srtS l = srtS m := by
  have sh : ∀ l : List String, ∀ d ∈ l.map D.str, shD d = some [true, false] := fun l d m => shD_at (strs_at d m)
  have e : sortD (l.map .str) = sortD (m.map .str) := rise_eq (((sortD_perm _).trans (h.map D.str)).trans (sortD_perm _).symm) (fun x m => sh l x ((sortD_perm _).mem_iff.mp m)) (sortD_rise (sh l)) (sortD_rise (sh m))
  rw [sortD_str, sortD_str] at e
  have inj : ∀ {a b : List String}, a.map D.str = b.map D.str → a = b := by
    intro a
    induction a with
    | nil =>
      intro b e
      cases b with
      | nil => rfl
      | cons _ _ => cases e
    | cons x a ih =>
      intro b e
      cases b with
      | nil => cases e
      | cons y b =>
        rw [List.map_cons, List.map_cons, List.cons.injEq, D.str.injEq] at e
        rw [e.1, ih e.2]
  exact inj e
/-! ### a tenant -/
structure TnS where
  cs : CS
  fuel : Nat
  part : Nat
  paused : Bool
  stops : List Nat
  over : Bool
def TnS.held (t : TnS) : Bool := t.cs.open_ && (decide (t.cs.spot ∈ t.stops) && !t.over)
def TnS.may (t : TnS) : Bool := t.cs.open_ && (decide (0 < t.fuel) && (!t.paused && !t.held))
/-- its part of a turn: how many steps -/
def turnT : Nat → TnS → WS → Nat × TnS × WS
  | 0, t, w => (0, t, w)
  | n + 1, t, w => if t.may = true then
      (if (stepM (some 50) t.cs w).1 = true then
        let r := turnT n { t with cs := (stepM (some 50) t.cs w).2.1, fuel := t.fuel - 1, over := false } (stepM (some 50) t.cs w).2.2
        (r.1 + 1, r.2.1, r.2.2)
      else (0, { t with cs := (stepM (some 50) t.cs w).2.1 }, (stepM (some 50) t.cs w).2.2))
    else (0, t, w)
def TnS.turn (t : TnS) (w : WS) : Nat × TnS × WS := turnT t.part t w
theorem turnT_sz : ∀ {n : Nat} {t : TnS} {w : WS}, (turnT n t w).2.2.sz ≤ w.sz + n
  | 0, _, _ => Nat.le_refl _
  | n + 1, t, w => by
    unfold turnT
    have := stepM_sz (full := some 50) (c := t.cs) (w := w)
    split
    · split
      · have h := turnT_sz (n := n) (t := { t with cs := (stepM (some 50) t.cs w).2.1, fuel := t.fuel - 1, over := false }) (w := (stepM (some 50) t.cs w).2.2)
        show (turnT n _ _).2.2.sz ≤ _
        omega
      · show (stepM (some 50) t.cs w).2.2.sz ≤ _
        omega
    · show w.sz ≤ _
      omega
structure TnS.Ok (t : TnS) : Prop where
  cs : t.cs.Ok
  prg : t.cs.prg.Ok
  stops : t.stops.length ≤ 1000
theorem turnT_ok : ∀ {n : Nat} {t : TnS} {w : WS}, t.Ok → (turnT n t w).2.1.Ok
  | 0, _, _, h => h
  | n + 1, t, w, h => by
    have h1 : (stepM (some 50) t.cs w).2.1.Ok := stepM_ok h.cs
    have h2 : (stepM (some 50) t.cs w).2.1.prg.Ok := by
      rw [stepM_prg]
      exact h.prg
    unfold turnT
    split
    · split
      · exact turnT_ok (n := n) ⟨h1, h2, h.stops⟩
      · exact ⟨h1, h2, h.stops⟩
    · exact h
/-- the keys of boxes and pages: words -/
structure PdOk (fl : List (String × Addr)) (pl : List (String × List Int)) : Prop where
  nd : (pl.map (·.1)).Nodup
  wd : ∀ d ∈ fl.map (·.1), wordS d = true
  wp : ∀ d ∈ pl.map (·.1), wordS d = true
theorem mem_aput {α : Type} {l : List (String × α)} {k : String} {v : α} {x : String} (h : x ∈ (aput l k v).map (·.1)) : x ∈ l.map (·.1) ∨ x = k := by
  rw [aput_keys] at h
  split at h
  · exact .inl h
  · rcases List.mem_append.mp h with h | h
    · exact .inl h
    · exact .inr (List.mem_singleton.mp h)
theorem PdOk.box {fl : List (String × Addr)} {pl : List (String × List Int)} {d : String} {b : Addr} (h : PdOk fl pl) (hd : wordS d = true) : PdOk (aput fl d b) pl := ⟨h.nd, fun x m => by
  rcases mem_aput m with m | rfl
  · exact h.wd x m
  · exact hd, h.wp⟩
/-! ### where they stand -/
/-- the boxes and pages of a cage -/
def SharA (a : Addr) (w : WS) : Asr := fun G => ∃ (f g : Addr) (fl : List (String × Addr)) (pl : List (String × List Int)),
  Stars ([pt a (.ins "Shared" [("boxes", .ref f), ("sheets", .ref g)]), pt f (.dct (keyL fl)), pt g (.dct (pageL pl))] ++ feedsA fl w.feeds) G ∧ WOk fl w ∧ pl.length ≤ w.sz ∧ PdOk fl pl ∧ ∀ p, pageOf pl p = w.pages p
theorem SharA.op {a : Addr} {w : WS} {F : List Asr} {G : DG} (hs : Stars (SharA a w :: F) G) : ∃ (f g : Addr) (fl : List (String × Addr)) (pl : List (String × List Int)),
    Stars (pt a (.ins "Shared" [("boxes", .ref f), ("sheets", .ref g)]) :: pt f (.dct (keyL fl)) :: pt g (.dct (pageL pl)) :: (feedsA fl w.feeds ++ F)) G ∧ WOk fl w ∧ pl.length ≤ w.sz ∧ PdOk fl pl ∧ ∀ p, pageOf pl p = w.pages p := by
  obtain ⟨f, hs⟩ := Stars.ex hs
  obtain ⟨g, hs⟩ := Stars.ex hs
  obtain ⟨fl, hs⟩ := Stars.ex hs
  obtain ⟨pl, hs⟩ := Stars.ex hs
  obtain ⟨hs, q⟩ := Stars.pure hs
  exact ⟨f, g, fl, pl, Stars.split hs, q⟩
theorem SharA.cl {a f g : Addr} {w : WS} {fl : List (String × Addr)} {pl : List (String × List Int)} {F : List Asr} {G : DG} (hs : Stars (pt a (.ins "Shared" [("boxes", .ref f), ("sheets", .ref g)]) :: pt f (.dct (keyL fl)) :: pt g (.dct (pageL pl)) :: (feedsA fl w.feeds ++ F)) G)
    (wo : WOk fl w) (h1 : pl.length ≤ w.sz) (h2 : PdOk fl pl) (h3 : ∀ p, pageOf pl p = w.pages p) : Stars (SharA a w :: F) G :=
  Stars.mk (Stars.join (ps := [pt a (.ins "Shared" [("boxes", .ref f), ("sheets", .ref g)]), pt f (.dct (keyL fl)), pt g (.dct (pageL pl))] ++ feedsA fl w.feeds) (by simpa using hs)) fun h z => ⟨f, g, fl, pl, z, wo, h1, h2, h3⟩
def TnS.fs (t : TnS) (c : Addr) : List (String × D) := [("core", .ref c), ("fuel", nD t.fuel), ("part", nD t.part), ("is_paused", .bl t.paused), ("stops", .lst (t.stops.map nD)), ("is_over", .bl t.over)]
def TenA (a : Addr) (t : TnS) : Asr := fun G => ∃ c, Stars [pt a (.ins "Tenant" (t.fs c)), pt c t.cs.ob] G
theorem TenA.op {a : Addr} {t : TnS} {F : List Asr} {G : DG} (hs : Stars (TenA a t :: F) G) : ∃ c, Stars (pt a (.ins "Tenant" (t.fs c)) :: pt c t.cs.ob :: F) G := by
  obtain ⟨c, hs⟩ := Stars.ex hs
  exact ⟨c, Stars.split hs⟩
theorem TenA.cl {a c : Addr} {t : TnS} {F : List Asr} {G : DG} (hs : Stars (pt a (.ins "Tenant" (t.fs c)) :: pt c t.cs.ob :: F) G) : Stars (TenA a t :: F) G :=
  Stars.mk (Stars.join (ps := [pt a (.ins "Tenant" (t.fs c)), pt c t.cs.ob]) hs) fun h z => ⟨c, z⟩
abbrev tensA (al : List (String × Addr)) (f : String → TnS) : List Asr := al.map fun x => TenA x.2 (f x.1)
theorem tens_get {al : List (String × Addr)} {j : Nat} {n : String} {a : Addr} {F : List Asr} {f : String → TnS} (h : al[j]? = some (n, a)) : (tensA al f ++ F)[j]? = some (TenA a (f n)) := by
  have lt : j < al.length := (List.getElem?_eq_some_iff.mp h).1
  rw [List.getElem?_append_left (by rw [List.length_map]; exact lt), List.getElem?_map, h]
  rfl
theorem tens_set {al : List (String × Addr)} {j : Nat} {n : String} {a : Addr} {F : List Asr} {f : String → TnS} {v : TnS} (h : al[j]? = some (n, a)) (nd : (al.map (·.1)).Nodup) : (tensA al f ++ F).set j (TenA a v) = tensA al (fset f n v) ++ F := by
  have lt : j < al.length := (List.getElem?_eq_some_iff.mp h).1
  rw [List.set_append_left _ _ (by rw [List.length_map]; exact lt)]
  congr 1
  apply List.ext_getElem?
  intro i
  rw [List.getElem?_set, List.getElem?_map, List.length_map, List.getElem?_map]
  by_cases e : j = i
  · subst e
    rw [if_pos rfl, if_pos lt, h]
    show some (TenA a v) = some (TenA a (fset f n v n))
    rw [fset_same]
  · rw [if_neg e]
    cases q : al[i]? with
    | none => rfl
    | some x =>
      show some (TenA x.2 (f x.1)) = some (TenA x.2 (fset f n v x.1))
      rw [fset_ne]
      intro z
      refine e (nodup_get nd (x := n) ?_ ?_)
      · rw [List.getElem?_map, h]
        rfl
      · rw [List.getElem?_map, q]
        show some x.1 = _
        rw [z]
/-- one part of some, by place: it is taken out, and put back -/
theorem Stars.out {l : List Asr} {G : DG} (hs : Stars l G) (i : Nat) {P : Asr} (e : l[i]? = some P) : Stars (P :: l.eraseIdx i) G := hs.front i e
theorem perm_back {α : Type} : ∀ {l : List α} {i : Nat} {x y : α}, l[i]? = some x → (y :: l.eraseIdx i).Perm (l.set i y)
  | [], i, x, y, h => by simp at h
  | a :: l, 0, x, y, h => .refl _
  | a :: l, i + 1, x, y, h => (List.Perm.swap a y _).trans ((perm_back (l := l) (i := i) h).cons a)
theorem Stars.back {l : List Asr} {G : DG} {i : Nat} {P P' : Asr} (e : l[i]? = some P) (hs : Stars (P' :: l.eraseIdx i) G) : Stars (l.set i P') G := hs.perm (perm_back e)
/-! ### a cage -/
structure CG where
  given : D
  names : List String
  ten : String → TnS
  ws : WS
def CageA (p : Addr) (c : CG) : Asr := fun G => ∃ (tb w : Addr) (al : List (String × Addr)),
  Stars ([pt p (.ins "Cage" [("given", c.given), ("table", .ref tb), ("world", .ref w)]), pt tb (.dct (keyL al)), SharA w c.ws] ++ tensA al c.ten) G ∧ al.map (·.1) = c.names ∧ c.names.Nodup
theorem CageA.op {p : Addr} {c : CG} {F : List Asr} {G : DG} (hs : Stars (CageA p c :: F) G) : ∃ (tb w : Addr) (al : List (String × Addr)),
    Stars (pt p (.ins "Cage" [("given", c.given), ("table", .ref tb), ("world", .ref w)]) :: pt tb (.dct (keyL al)) :: SharA w c.ws :: (tensA al c.ten ++ F)) G ∧ al.map (·.1) = c.names ∧ c.names.Nodup := by
  obtain ⟨tb, hs⟩ := Stars.ex hs
  obtain ⟨w, hs⟩ := Stars.ex hs
  obtain ⟨al, hs⟩ := Stars.ex hs
  obtain ⟨hs, q⟩ := Stars.pure hs
  exact ⟨tb, w, al, Stars.split hs, q⟩
theorem CageA.cl {p tb w : Addr} {al : List (String × Addr)} {c : CG} {F : List Asr} {G : DG} (hs : Stars (pt p (.ins "Cage" [("given", c.given), ("table", .ref tb), ("world", .ref w)]) :: pt tb (.dct (keyL al)) :: SharA w c.ws :: (tensA al c.ten ++ F)) G)
    (h1 : al.map (·.1) = c.names) (h2 : c.names.Nodup) : Stars (CageA p c :: F) G :=
  Stars.mk (Stars.join (ps := [pt p (.ins "Cage" [("given", c.given), ("table", .ref tb), ("world", .ref w)]), pt tb (.dct (keyL al)), SharA w c.ws] ++ tensA al c.ten) (by simpa using hs)) fun h z => ⟨tb, w, al, z, h1, h2⟩
/-- the turns of these, one by one -/
def turnsC : List String → CG → List (String × Nat) × CG
  | [], c => ([], c)
  | n :: ns, c =>
    let r := (c.ten n).turn c.ws
    let q := turnsC ns { c with ten := fset c.ten n r.2.1, ws := r.2.2 }
    ((n, r.1) :: q.1, q.2)
def CG.turn (c : CG) : List (String × Nat) × CG := turnsC (srtS c.names) c
def didD (l : List (String × Nat)) : List D := l.map fun x => .tup [.str x.1, nD x.2]
end PL

/-! boxes, by place -/
namespace PL
open DL PySem L2
section
variable {ws : WS} {w : Addr} {G : DG} {F : List Asr}
end
end PL

/-! a cage's parts, taken out and put back -/
namespace PL
open DL PySem L2
theorem perm_rev3 {α : Type} (a b c : α) (l : List α) : (a :: b :: c :: l).Perm (c :: b :: a :: l) :=
  ((List.Perm.swap b a (c :: l))).trans ((List.Perm.cons b (List.Perm.swap c a l)).trans (List.Perm.swap c b (a :: l)))
abbrev cageO (c : CG) (tb w : Addr) : DO := .ins "Cage" [("given", c.given), ("table", .ref tb), ("world", .ref w)]
section
variable {p : Addr} {c : CG} {F : List Asr} {G : DG} {n : String}
theorem cg_item {tb a : Addr} {al : List (String × Addr)} (h : G tb = some (.dct (keyL al))) (e : al.lookup n = some a) : pyItem G (.ref tb) (.str n) = some (.ref a) :=
  item_d h (by rw [dget_map, e]; rfl)
/-- one tenant taken out -/
theorem CageA.ten (hs : Stars (CageA p c :: F) G) (hn : n ∈ c.names) : ∃ tb w a X, G p = some (cageO c tb w) ∧ pyItem G (.ref tb) (.str n) = some (.ref a) ∧ Stars (TenA a (c.ten n) :: SharA w c.ws :: pt p (cageO c tb w) :: X) G ∧
    (∀ G', Stars (pt p (cageO c tb w) :: X) G' → pyItem G' (.ref tb) (.str n) = some (.ref a)) ∧
    ∀ t' ws' G', Stars (TenA a t' :: SharA w ws' :: pt p (cageO c tb w) :: X) G' → Stars (CageA p { c with ten := fset c.ten n t', ws := ws' } :: F) G' := by
  obtain ⟨tb, w, al, hs, e1, nd⟩ := CageA.op hs
  have hp := hs.get 0 rfl
  have ht := hs.get 1 rfl
  obtain ⟨a, q⟩ := lookup_some (l := al) (k := n) (by rw [e1]; exact hn)
  obtain ⟨j, hj⟩ := feeds_at (lookup_mem q)
  have eT := tens_get (F := F) (f := c.ten) hj
  refine ⟨tb, w, a, pt tb (.dct (keyL al)) :: (tensA al c.ten ++ F).eraseIdx j, hp, cg_item ht q, ?_, fun G' h => cg_item (h.get 1 rfl) q, fun t' ws' G' h => ?_⟩
  · have h1 : Stars (TenA a (c.ten n) :: pt p (cageO c tb w) :: pt tb (.dct (keyL al)) :: SharA w c.ws :: (tensA al c.ten ++ F).eraseIdx j) G := hs.front (j + 3) eT
    exact h1.perm (.cons _ ((List.Perm.cons _ (List.Perm.swap _ _ _)).trans (List.Perm.swap _ _ _)))
  · refine CageA.cl (c := { c with ten := fset c.ten n t', ws := ws' }) (tb := tb) (w := w) (al := al) ?_ e1 nd
    have h1 : Stars (pt p (cageO c tb w) :: pt tb (.dct (keyL al)) :: SharA w ws' :: TenA a t' :: (tensA al c.ten ++ F).eraseIdx j) G' :=
      (h.front 2 rfl).perm (.cons _ (perm_rev3 _ _ _ _))
    have h2 : Stars (pt p (cageO c tb w) :: pt tb (.dct (keyL al)) :: SharA w ws' :: (tensA al c.ten ++ F).set j (TenA a t')) G' := h1.perm (.cons _ (.cons _ (.cons _ (perm_back eT))))
    rw [tens_set hj (by rw [e1]; exact nd)] at h2
    exact h2
theorem cg_sorted {tb : Addr} {al : List (String × Addr)} {ns : List String} (h : G tb = some (.dct (keyL al))) (e : al.map (·.1) = ns) : pySorted G [.ref tb] = some (.lst ((srtS ns).map .str)) := by
  have e1 : (keyL al).map (·.1) = ns.map D.str := by
    rw [← e, List.map_map, List.map_map]
    rfl
  simp only [pySorted, itD, asQ, asL, h, lstO, asD, dctO, e1, hom_strs, if_true, sortD_str]
/-- how a tenant stands -/
def TnS.stand (t : TnS) : String := if t.cs.open_ = true then (if t.fuel = 0 then "dry" else if t.paused = true then "paused" else if t.held = true then "held" else t.cs.mood) else t.cs.mood
structure CG.Ok (c : CG) : Prop where
  ten : ∀ n ∈ c.names, (c.ten n).Ok
  word : ∀ n ∈ c.names, wordS n = true
  part : ∀ n ∈ c.names, (c.ten n).part ≤ 20
  eight : c.names.length ≤ 8
theorem turnT_part : ∀ {n : Nat} {t : TnS} {w : WS}, (turnT n t w).2.1.part = t.part
  | 0, _, _ => rfl
  | n + 1, t, w => by
    unfold turnT
    split
    · split
      · exact turnT_part (n := n)
      · rfl
    · rfl
theorem CG.Ok.set {c : CG} (h : c.Ok) {n : String} {t : TnS} {w : WS} (ht : t.Ok) (hp : t.part ≤ 20) : CG.Ok { c with ten := fset c.ten n t, ws := w } := by
  refine ⟨fun m hm => ?_, h.word, fun m hm => ?_, h.eight⟩
  · show (fset c.ten n t m).Ok
    unfold fset
    split
    · exact ht
    · exact h.ten m hm
  · show (fset c.ten n t m).part ≤ 20
    unfold fset
    split
    · exact hp
    · exact h.part m hm
theorem turnsC_ok : ∀ {ns : List String} {c : CG}, (∀ n ∈ ns, n ∈ c.names) → c.Ok → (turnsC ns c).2.Ok ∧ (turnsC ns c).2.names = c.names ∧ (turnsC ns c).2.given = c.given ∧ (turnsC ns c).2.ws.sz ≤ c.ws.sz + 20 * ns.length
  | [], c, _, h => ⟨h, rfl, rfl, Nat.le_refl _⟩
  | n :: ns, c, hn, h => by
    have mn := hn n List.mem_cons_self
    have h1 : CG.Ok { c with ten := fset c.ten n ((c.ten n).turn c.ws).2.1, ws := ((c.ten n).turn c.ws).2.2 } := h.set (turnT_ok (h.ten n mn)) (by unfold TnS.turn; rw [turnT_part]; exact h.part n mn)
    obtain ⟨a1, a2, a3, a4⟩ := turnsC_ok (ns := ns) (c := { c with ten := fset c.ten n ((c.ten n).turn c.ws).2.1, ws := ((c.ten n).turn c.ws).2.2 }) (fun m hm => hn m (List.mem_cons_of_mem _ hm)) h1
    refine ⟨a1, a2, a3, Nat.le_trans a4 ?_⟩
    have z := turnT_sz (n := (c.ten n).part) (t := c.ten n) (w := c.ws)
    have := h.part n mn
    show ((c.ten n).turn c.ws).2.2.sz + _ ≤ _
    unfold TnS.turn
    rw [List.length_cons]
    omega
theorem CG.Ok.turn {c : CG} (h : c.Ok) : c.turn.2.Ok ∧ c.turn.2.names = c.names ∧ c.turn.2.given = c.given ∧ c.turn.2.ws.sz ≤ c.ws.sz + 160 := by
  obtain ⟨a, b, d, e⟩ := turnsC_ok (ns := srtS c.names) (c := c) (fun n m => (srtS_perm _).mem_iff.mp m) h
  refine ⟨a, b, d, Nat.le_trans e ?_⟩
  rw [(srtS_perm _).length_eq]
  have := h.eight
  omega
end
end PL
namespace PL
open DL PySem L2
def tn0 : TnS := ⟨⟨[], 0, [], [], [], [], 0, [], [], [], ""⟩, 0, 0, false, [], false⟩
/-- a cage as it begins -/
def cg0 (g : D) : CG := ⟨g, [], fun _ => tn0, ws0 (fun _ => []) (fun _ => zero10) 0⟩
structure Prg.Within (a b : Prg) : Prop where
  room : a.room ≤ b.room
  asks : ∀ w ∈ a.asks, w ∈ b.asks
  tells : ∀ w ∈ a.tells, w ∈ b.tells
  looks : ∀ w ∈ a.looks, w ∈ b.looks
  marks : ∀ w ∈ a.marks, w ∈ b.marks
/-- a tenant as it comes in -/
def Prg.ten (p : Prg) (fuel part : Nat) : TnS := ⟨p.cs, fuel, part, false, [], false⟩
end PL
namespace PL
open DL PySem L2
theorem strLt_tr {a b c : String} (h1 : strLt a b = true) (h2 : strLt b c = true) : strLt a c = true := by
  unfold strLt at *
  rw [decide_eq_true_eq] at *
  exact List.lt_trans h1 h2
theorem strLt_irr (a : String) : strLt a a = false := by
  unfold strLt
  exact decide_eq_false (List.lt_irrefl _)
theorem asc_pw : ∀ {l : List String}, ascD (l.map .str) = true → l.Pairwise fun a b => strLt a b = true
  | [], _ => List.Pairwise.nil
  | [a], _ => List.pairwise_singleton _ _
  | a :: b :: l, h => by
    have h : (strLt a b && ascD ((b :: l).map .str)) = true := h
    rw [Bool.and_eq_true] at h
    have ih := asc_pw (l := b :: l) h.2
    refine List.pairwise_cons.mpr ⟨fun x m => ?_, ih⟩
    rcases List.mem_cons.mp m with m | m
    · rw [m]
      exact h.1
    · exact strLt_tr h.1 ((List.pairwise_cons.mp ih).1 x m)
theorem row_facts {l : List String} (h : isRow (.tup (l.map .str)) = true) : l.Nodup ∧ (∀ d ∈ l, wordS d = true) ∧ l.length ≤ 6 := by
  obtain ⟨xs, e, h6, hw, ha⟩ := isRow_cases h
  cases e
  rw [List.length_map] at h6
  refine ⟨(asc_pw ha).imp fun {a b} q e => ?_, fun d m => hw _ (List.mem_map.mpr ⟨d, m, rfl⟩), h6⟩
  rw [e, strLt_irr] at q
  cases q
end PL
namespace PL
open DL PySem L2
end PL

/-! the law's own tenants, plain -/
namespace PL
open DL PySem L2
section
variable {A : Addr → TnS → Asr} {F : List Asr} {G : DG} {n : String}
abbrev partsA (A : Addr → TnS → Asr) (al : List (String × Addr)) (f : String → TnS) : List Asr := al.map fun x => A x.2 (f x.1)
theorem parts_get {al : List (String × Addr)} {j : Nat} {n : String} {a : Addr} {f : String → TnS} (h : al[j]? = some (n, a)) : (partsA A al f ++ F)[j]? = some (A a (f n)) := by
  have lt : j < al.length := (List.getElem?_eq_some_iff.mp h).1
  rw [List.getElem?_append_left (by rw [List.length_map]; exact lt), List.getElem?_map, h]
  rfl
theorem parts_set {al : List (String × Addr)} {j : Nat} {n : String} {a : Addr} {f : String → TnS} {v : TnS} (h : al[j]? = some (n, a)) (nd : (al.map (·.1)).Nodup) : (partsA A al f ++ F).set j (A a v) = partsA A al (fset f n v) ++ F := by
  have lt : j < al.length := (List.getElem?_eq_some_iff.mp h).1
  rw [List.set_append_left _ _ (by rw [List.length_map]; exact lt)]
  congr 1
  apply List.ext_getElem?
  intro i
  rw [List.getElem?_set, List.getElem?_map, List.length_map, List.getElem?_map]
  by_cases e : j = i
  · subst e
    rw [if_pos rfl, if_pos lt, h]
    show some (A a v) = some (A a (fset f n v n))
    rw [fset_same]
  · rw [if_neg e]
    cases q : al[i]? with
    | none => rfl
    | some x =>
      show some (A x.2 (f x.1)) = some (A x.2 (fset f n v x.1))
      rw [fset_ne]
      intro z
      refine e (nodup_get nd (x := n) ?_ ?_)
      · rw [List.getElem?_map, h]
        rfl
      · rw [List.getElem?_map, q]
        show some x.1 = _
        rw [z]
end
/-- a tenant of the law's own -/
def LawTn (q : Addr) (t : TnS) : Asr := fun G => ∃ f g, LawC q f g t.cs ⟨some 50, some (t.fuel, t.part)⟩ [] G
theorem LawTn.op {q : Addr} {t : TnS} {F : List Asr} {G : DG} (hs : Stars (LawTn q t :: F) G) : ∃ f g, Stars (LawC q f g t.cs ⟨some 50, some (t.fuel, t.part)⟩ [] :: F) G := by
  obtain ⟨f, hs⟩ := Stars.ex hs
  obtain ⟨g, hs⟩ := Stars.ex hs
  exact ⟨f, g, hs⟩
theorem LawTn.cl {q f g : Addr} {t : TnS} {F : List Asr} {G : DG} (hs : Stars (LawC q f g t.cs ⟨some 50, some (t.fuel, t.part)⟩ [] :: F) G) : Stars (LawTn q t :: F) G := Stars.mk hs fun h z => ⟨f, g, z⟩
/-- all of them -/
def LawTs (ta : Addr) (ns : List String) (ten : String → TnS) : Asr := fun G => ∃ tl : List (String × Addr), Stars (pt ta (.dct (keyL tl)) :: partsA LawTn tl ten) G ∧ tl.map (·.1) = ns ∧ ns.Nodup
section
variable {ta : Addr} {ns : List String} {ten : String → TnS} {F : List Asr} {G : DG} {n : String}
theorem LawTs.op (hs : Stars (LawTs ta ns ten :: F) G) : ∃ tl : List (String × Addr), Stars (pt ta (.dct (keyL tl)) :: (partsA LawTn tl ten ++ F)) G ∧ tl.map (·.1) = ns ∧ ns.Nodup := by
  obtain ⟨tl, hs⟩ := Stars.ex hs
  obtain ⟨hs, q⟩ := Stars.pure hs
  exact ⟨tl, Stars.split hs, q⟩
theorem LawTs.cl {tl : List (String × Addr)} (hs : Stars (pt ta (.dct (keyL tl)) :: (partsA LawTn tl ten ++ F)) G) (h1 : tl.map (·.1) = ns) (h2 : ns.Nodup) : Stars (LawTs ta ns ten :: F) G :=
  Stars.mk (Stars.join (ps := pt ta (.dct (keyL tl)) :: partsA LawTn tl ten) (by simpa using hs)) fun h z => ⟨tl, z, h1, h2⟩
theorem LawTs.out (hs : Stars (LawTs ta ns ten :: F) G) (hn : n ∈ ns) : ∃ a X, pyItem G (.ref ta) (.str n) = some (.ref a) ∧ Stars (LawTn a (ten n) :: X ++ F) G ∧ ∀ t' G' F', Stars (LawTn a t' :: X ++ F') G' → Stars (LawTs ta ns (fset ten n t') :: F') G' := by
  obtain ⟨tl, hs, e1, nd⟩ := LawTs.op hs
  obtain ⟨a, q⟩ := lookup_some (l := tl) (k := n) (by rw [e1]; exact hn)
  obtain ⟨j, hj⟩ := feeds_at (lookup_mem q)
  have lt : j < tl.length := (List.getElem?_eq_some_iff.mp hj).1
  refine ⟨a, pt ta (.dct (keyL tl)) :: (partsA LawTn tl ten).eraseIdx j, cg_item (hs.get 0 rfl) q, ?_, fun t' G' F' h => ?_⟩
  · have h1 := hs.front (j + 1) (parts_get (F := F) (f := ten) hj)
    have e : (partsA LawTn tl ten ++ F).eraseIdx j = (partsA LawTn tl ten).eraseIdx j ++ F := List.eraseIdx_append_of_lt_length (by rw [List.length_map]; exact lt) _
    have h1 : Stars (LawTn a (ten n) :: pt ta (.dct (keyL tl)) :: (partsA LawTn tl ten ++ F).eraseIdx j) G := h1
    rw [e] at h1
    exact h1
  · refine LawTs.cl (tl := tl) ?_ e1 nd
    have e : (partsA LawTn tl ten).eraseIdx j ++ F' = (partsA LawTn tl ten ++ F').eraseIdx j := (List.eraseIdx_append_of_lt_length (by rw [List.length_map]; exact lt) _).symm
    have h1 : Stars (LawTn a t' :: pt ta (.dct (keyL tl)) :: ((partsA LawTn tl ten).eraseIdx j ++ F')) G' := h
    rw [e] at h1
    have h2 := h1.swap.perm (.cons _ (perm_back (parts_get (F := F') (f := ten) hj)))
    rw [parts_set hj (by rw [e1]; exact nd)] at h2
    exact h2
theorem LawTs.sorted (hs : Stars (LawTs ta ns ten :: F) G) : pySorted G [.ref ta] = some (.lst ((srtS ns).map .str)) := by
  obtain ⟨tl, hs, e1, nd⟩ := LawTs.op hs
  exact cg_sorted (hs.get 0 rfl) e1
end
/-- neither paused nor held -/
structure TnS.Plain (t : TnS) : Prop where
  paused : t.paused = false
  stops : t.stops = []
  over : t.over = false
theorem turnT_plain : ∀ {n : Nat} {t : TnS} {w : WS}, t.Plain → (turnT n t w).2.1.Plain
  | 0, _, _, h => h
  | n + 1, t, w, h => by
    unfold turnT
    split
    · split
      · exact turnT_plain (n := n) ⟨h.paused, h.stops, rfl⟩
      · exact ⟨h.paused, h.stops, h.over⟩
    · exact h
end PL

namespace PL
open DL PySem L2
theorem feeds_put {b : Addr} {d : String} {v : List Int} {fl : List (String × Addr)} {fn : String → List Int} {F : List Asr} {G : DG} (nd : (fl.map (·.1)).Nodup) (hs : Stars (pt b (.lst (lstI v)) :: (feedsA fl fn ++ F)) G) : Stars (feedsA (aput fl d b) (fset fn d v) ++ F) G := by
  by_cases hd : d ∈ fl.map (·.1)
  · obtain ⟨a, q⟩ := lookup_some hd
    obtain ⟨j, hj⟩ := feeds_at (lookup_mem q)
    have e : feedsA (aput fl d b) (fset fn d v) ++ F = (feedsA fl fn ++ F).set j (pt b (.lst (lstI v))) := by
      have lt : j < fl.length := (List.getElem?_eq_some_iff.mp hj).1
      rw [List.set_append_left _ _ (by rw [List.length_map]; exact lt)]
      congr 1
      apply List.ext_getElem?
      intro i
      rw [List.getElem?_set, List.getElem?_map, List.length_map, List.getElem?_map, aput, if_pos hd, List.getElem?_map]
      by_cases c : j = i
      · subst c
        rw [if_pos rfl, if_pos lt, hj]
        show some (pt (if d = d then (d, b) else (d, a)).2 (.lst (lstI (fset fn d v (if d = d then (d, b) else (d, a)).1)))) = _
        rw [if_pos rfl, fset_same]
      · rw [if_neg c]
        cases z : fl[i]? with
        | none => rfl
        | some x =>
          have ne : x.1 ≠ d := fun e => c (nodup_get nd (x := d) (by rw [List.getElem?_map, hj]; rfl) (by rw [List.getElem?_map, z]; show some x.1 = _; rw [e]))
          show some (pt (if x.1 = d then (x.1, b) else x).2 (.lst (lstI (fset fn d v (if x.1 = d then (x.1, b) else x).1)))) = some (pt x.2 (.lst (lstI (fn x.1))))
          rw [if_neg ne, fset_ne ne]
    show Stars (feedsA (aput fl d b) (fset fn d v) ++ F) G
    rw [e]
    refine Stars.back (feeds_get hj) ?_
    exact Stars.cons (fun G h => (h.front j (feeds_get hj)).tail) hs
  · have e : feedsA (aput fl d b) (fset fn d v) = feedsA fl fn ++ [pt b (.lst (lstI v))] := by
      unfold feedsA
      rw [aput, if_neg hd, List.map_append]
      show _ ++ [pt b (.lst (lstI (fset fn d v d)))] = _
      rw [fset_same]
      congr 1
      refine List.map_congr_left fun x m => ?_
      rw [fset_ne fun z => hd (by rw [← z]; exact List.mem_map.mpr ⟨x, m, rfl⟩)]
    show Stars (feedsA (aput fl d b) (fset fn d v) ++ F) G
    rw [e, List.append_assoc]
    exact hs.perm (List.perm_middle.symm)
theorem WOk.put {b : Addr} {d : String} {v : List Int} {fl : List (String × Addr)} {ws : WS} (wo : WOk fl ws) (hv : v.length ≤ ws.sz + 1) : WOk (aput fl d b) { ws with feeds := fset ws.feeds d v, sz := ws.sz + 1 } := by
  refine ⟨aput_nodup wo.nd, fun y hy => ?_, ?_, fun y => ?_, Nat.le_succ_of_le wo.sd, wo.pg⟩
  · show fset ws.feeds d v y = []
    rw [aput_keys] at hy
    have hyd : y ≠ d := fun z => hy (by
      subst z
      split
      · assumption
      · simp)
    have hyf : y ∉ fl.map (·.1) := fun z => hy (by
      split
      · exact z
      · simp only [List.mem_append]
        exact .inl z)
    rw [fset_ne hyd]
    exact wo.no y hyf
  · have := aput_len (l := fl) (k := d) (v := b)
    have := wo.fl
    show _ ≤ ws.sz + 1
    omega
  · show (fset ws.feeds d v y).length ≤ ws.sz + 1
    unfold fset
    split
    · exact hv
    · exact Nat.le_succ_of_le (wo.fd y)
/-- the law's box gets another row -/
theorem LawW.put {f g b : Addr} {d : String} {v : List Int} {ws : WS} {fl gl : List (String × Addr)} {F : List Asr} {G : DG} (wo : WOk fl ws) (po : POk gl ws) (hv : v.length ≤ ws.sz + 1)
    (hs : Stars (pt b (.lst (lstI v)) :: pt f (.dct (keyL (aput fl d b))) :: pt g (.dct (keyL gl)) :: (feedsA fl ws.feeds ++ (feedsA gl ws.pages ++ F))) G) : Stars (LawW f g { ws with feeds := fset ws.feeds d v, sz := ws.sz + 1 } :: F) G := by
  refine LawW.cl (fl := aput fl d b) (gl := gl) ?_ (wo.put hv) ⟨po.nd, po.no, Nat.le_succ_of_le po.len⟩
  have hs : Stars (pt f (.dct (keyL (aput fl d b))) :: pt g (.dct (keyL gl)) :: pt b (.lst (lstI v)) :: (feedsA fl ws.feeds ++ (feedsA gl ws.pages ++ F))) G := hs.perm ((List.Perm.swap _ _ _).trans (.cons _ (List.Perm.swap _ _ _)))
  exact Stars.appR (l := [_, _]) (fun G h => feeds_put wo.nd h) hs
/-! ### rights of the pools -/
def doors3 : List String := ["bus", "in", "out"]
def sheets2 : List String := ["log", "sky"]
def allP : Prg := ⟨[], 60, doors3, doors3, sheets2, sheets2⟩
theorem strs_inj : ∀ {a b : List String}, a.map D.str = b.map D.str → a = b
  | [], [], _ => rfl
  | [], _ :: _, e => by cases e
  | _ :: _, [], e => by cases e
  | x :: a, y :: b, e => by
    rw [List.map_cons, List.map_cons, List.cons.injEq, D.str.injEq] at e
    rw [e.1, strs_inj e.2]
end PL

namespace PL
open DL PySem L2
/-! ### calm instructions -/
def Ins.Calm (m : Int) : Ins → Prop
  | .set r n => r < 4 ∧ 0 ≤ n ∧ n ≤ 3
  | .copy r s => r < 4 ∧ s < 4
  | .add r s => r < 4 ∧ s < 4
  | .take r s => r < 4 ∧ s < 4
  | .less r s => r < 4 ∧ s < 4
  | .go g => (g : Int) < m
  | .zero r g => r < 4 ∧ (g : Int) < m
  | .read r s => r < 4 ∧ s < 4
  | .write r s => r < 4 ∧ s < 4
  | .ask r d => r < 4 ∧ d = "in"
  | .tell r d => r < 4 ∧ d = "out"
  | .look r s p => r < 4 ∧ s < 4 ∧ p = "sky"
  | .mark _ _ _ => False
  | .fin => True
theorem Ins.Calm.mono {m m' : Int} (h : m ≤ m') {i : Ins} (c : i.Calm m) : i.Calm m' := by
  cases i <;> simp only [Ins.Calm] at c ⊢ <;> first | exact c | omega
theorem Ins.Calm.ok {m : Int} (h : m ≤ 100) {i : Ins} (c : i.Calm m) : i.Ok := by
  cases i <;> simp only [Ins.Calm, Ins.Ok] at c ⊢ <;> first | exact c | exact c.elim | omega | exact ⟨c.1, by rw [c.2]; decide⟩ | exact ⟨c.1, c.2.1, by rw [c.2.2]; decide⟩
theorem pr {r : Nat} (h : r < 4) : isPart 'r' (nD r) = true := by
  show (decide (0 ≤ (r : Int)) && decide ((r : Int) ≤ 3)) = true
  rw [decide_eq_true (by omega), decide_eq_true (by omega)]; rfl
theorem pg {r : Nat} (h : r ≤ 99) : isPart 'g' (nD r) = true := by
  show (decide (0 ≤ (r : Int)) && decide ((r : Int) ≤ 99)) = true
  rw [decide_eq_true (by omega), decide_eq_true (by omega)]; rfl
theorem pn {n : Int} (h : -999 ≤ n ∧ n ≤ 999) : isPart 'n' (.int n) = true := by
  show (decide _ && decide _) = true
  rw [decide_eq_true h.1, decide_eq_true h.2]; rfl
/-! ### tracked lists read -/
section
variable {G : DG} {a : Addr} {xs ys : List D} {d : D} {k : Nat}
end
end PL

namespace PL
open DL PySem L2
/-! ### spans, rows, papers -/
abbrev Spn := Int × Int
abbrev spD (s : Spn) : D := .tup [.int s.1, .int s.2]
abbrev rwsD (l : List Spn) : D := .tup (l.map spD)
def orD : Option (List Spn) → D
  | none => .non
  | some l => rwsD l
abbrev papD (xs : List (Option (List Spn))) : List D := xs.map orD
def SpOk (s : Spn) : Prop := -999 ≤ s.1 ∧ s.1 ≤ s.2 ∧ s.2 ≤ 999
instance (s : Spn) : Decidable (SpOk s) := by unfold SpOk; exact inferInstance
def RowOk (l : List Spn) : Prop := l.length = 4 ∧ ∀ s ∈ l, SpOk s
theorem RowOk.four {l : List Spn} (h : RowOk l) : ∃ a b c d e f g i : Int, l = [(a, b), (c, d), (e, f), (g, i)] ∧ SpOk (a, b) ∧ SpOk (c, d) ∧ SpOk (e, f) ∧ SpOk (g, i) := by
  obtain ⟨h1, h2⟩ := h
  match l, h1 with
  | [(a, b), (c, d), (e, f), (g, i)], _ => exact ⟨a, b, c, d, e, f, g, i, rfl, h2 _ (by simp), h2 _ (by simp), h2 _ (by simp), h2 _ (by simp)⟩
theorem RowOk.set {l : List Spn} (h : RowOk l) {r : Nat} {s : Spn} (hs : SpOk s) : RowOk (l.set r s) := ⟨by rw [List.length_set]; exact h.1, fun t m => by
  rcases List.mem_or_eq_of_mem_set m with m | rfl
  · exact h.2 t m
  · exact hs⟩
def spAt (l : List Spn) (r : Nat) : Spn := l.getD r (0, 0)
theorem RowOk.at {l : List Spn} (h : RowOk l) {r : Nat} (hr : r < 4) : l[r]? = some (spAt l r) ∧ SpOk (spAt l r) := by
  have lt : r < l.length := by rw [h.1]; exact hr
  have e : l[r]? = some l[r] := List.getElem?_eq_getElem lt
  have e2 : spAt l r = l[r] := by
    unfold spAt
    rw [List.getD_eq_getElem?_getD, e]; rfl
  rw [e2]
  exact ⟨e, h.2 _ (List.getElem_mem _)⟩
def lowZ (s : Spn) : Spn := (if s.1 = 0 then 1 else s.1, if s.2 = 0 then -1 else s.2)
def zeroS (r g k : Nat) (l : List Spn) : List (Nat × List Spn) :=
  (if (spAt l r).1 ≤ 0 ∧ 0 ≤ (spAt l r).2 then [(g, l.set r (0, 0))] else []) ++ (if (lowZ (spAt l r)).1 ≤ (lowZ (spAt l r)).2 then [(k + 1, l.set r (lowZ (spAt l r)))] else [])
def addS (s t : Spn) : Spn := (s.1 + t.1, s.2 + t.2)
def takeS (s t : Spn) : Spn := (s.1 - t.2, s.2 - t.1)
def lessS (s t : Spn) : Spn := (if s.2 < t.1 then 1 else 0, if s.1 < t.2 then 1 else 0)
def chkS (k r : Nat) (l : List Spn) (s : Spn) : Option (List (Nat × List Spn)) := if -999 ≤ s.1 ∧ s.2 ≤ 999 then some [(k + 1, l.set r s)] else none
def celS (s : Spn) (m : Int) : Prop := 0 ≤ s.1 ∧ s.2 < m
instance (s : Spn) (m : Int) : Decidable (celS s m) := by unfold celS; exact inferInstance
def stepS (room : Int) (k : Nat) (l : List Spn) : Ins → Option (List (Nat × List Spn))
  | .fin => some []
  | .go g => some [(g, l)]
  | .zero r g => some (zeroS r g k l)
  | .set r n => some [(k + 1, l.set r (n, n))]
  | .copy r s => some [(k + 1, l.set r (spAt l s))]
  | .add r s => chkS k r l (addS (spAt l r) (spAt l s))
  | .take r s => chkS k r l (takeS (spAt l r) (spAt l s))
  | .less r s => some [(k + 1, l.set r (lessS (spAt l r) (spAt l s)))]
  | .read r s => if celS (spAt l s) room then some [(k + 1, l.set r (-999, 999))] else none
  | .write r _ => if celS (spAt l r) room then some [(k + 1, l)] else none
  | .ask r _ => some [(k + 1, l.set r (-999, 999))]
  | .tell _ _ => some [(k + 1, l)]
  | .look r s _ => if celS (spAt l s) 10 then some [(k + 1, l.set r (-999, 999))] else none
  | .mark r _ _ => if celS (spAt l r) 10 then some [(k + 1, l)] else none
theorem addS_ok {s t : Spn} (h : SpOk s) (h' : SpOk t) (c : -999 ≤ (addS s t).1 ∧ (addS s t).2 ≤ 999) : SpOk (addS s t) := by
  unfold SpOk addS at *; simp only at *; omega
theorem takeS_ok {s t : Spn} (h : SpOk s) (h' : SpOk t) (c : -999 ≤ (takeS s t).1 ∧ (takeS s t).2 ≤ 999) : SpOk (takeS s t) := by
  unfold SpOk takeS at *; simp only at *; omega
theorem lessS_ok {s t : Spn} (h : SpOk s) (h' : SpOk t) : SpOk (lessS s t) := by
  unfold SpOk lessS at *; simp only at *; split <;> split <;> omega
theorem stepS_ok {room : Int} {k : Nat} {l : List Spn} (h : RowOk l) : ∀ {i : Ins}, i.Ok → ∀ {xs}, stepS room k l i = some xs → ∀ p ∈ xs, RowOk p.2 := by
  have any : SpOk (-999, 999) := by unfold SpOk; simp
  intro i hi xs e p m
  cases i <;> simp only [stepS, Ins.Ok] at e hi
  case fin => cases e; cases m
  case go g => cases e; rw [List.mem_singleton.mp m]; exact h
  case zero r g =>
    cases e
    rcases List.mem_append.mp m with m | m
    · split at m
      · rw [List.mem_singleton.mp m]; exact h.set (by unfold SpOk; simp)
      · cases m
    · split at m
      · rename_i c
        rw [List.mem_singleton.mp m]; refine h.set ?_
        have := (h.at hi.1).2
        unfold SpOk lowZ at *; simp only at *
        revert c; split <;> split <;> omega
      · cases m
  case set r n => cases e; rw [List.mem_singleton.mp m]; exact h.set (by unfold SpOk; simp only; omega)
  case copy r s => cases e; rw [List.mem_singleton.mp m]; exact h.set (h.at hi.2).2
  case add r s =>
    unfold chkS at e; split at e
    · rename_i c; cases e; rw [List.mem_singleton.mp m]; exact h.set (addS_ok (h.at hi.1).2 (h.at hi.2).2 c)
    · cases e
  case take r s =>
    unfold chkS at e; split at e
    · rename_i c; cases e; rw [List.mem_singleton.mp m]; exact h.set (takeS_ok (h.at hi.1).2 (h.at hi.2).2 c)
    · cases e
  case less r s => cases e; rw [List.mem_singleton.mp m]; exact h.set (lessS_ok (h.at hi.1).2 (h.at hi.2).2)
  case read r s => split at e; · cases e; rw [List.mem_singleton.mp m]; exact h.set any
                   · cases e
  case write r s => split at e; · cases e; rw [List.mem_singleton.mp m]; exact h
                    · cases e
  case ask r d => cases e; rw [List.mem_singleton.mp m]; exact h.set any
  case tell r d => cases e; rw [List.mem_singleton.mp m]; exact h
  case look r s p => split at e; · cases e; rw [List.mem_singleton.mp m]; exact h.set any
                     · cases e
  case mark r s p => split at e; · cases e; rw [List.mem_singleton.mp m]; exact h
                     · cases e
def inS (l o : List Spn) : Bool := (l.zip o).all fun p => decide (p.2.1 ≤ p.1.1) && decide (p.1.2 ≤ p.2.2)
def bare : List Spn := [(0, 0), (0, 0), (0, 0), (0, 0)]
abbrev Pap := List (Option (List Spn))
def PapOk (n : Nat) (xs : Pap) : Prop := xs.length = n ∧ ∀ l, some l ∈ xs → RowOk l
def goalB (n : Nat) (xs : Pap) (p : Nat × List Spn) : Bool := match xs[p.1]? with
  | some (some o) => inS p.2 o
  | _ => false
def headB (xs : Pap) : Bool := match xs[0]? with
  | some (some o) => inS bare o
  | _ => false
def goodB (room : Int) (is : List Ins) (xs : Pap) (k : Nat) : Bool := (decide (k ≠ 0) || headB xs) && match xs[k]?, is[k]? with
  | some (some l), some i => (match stepS room k l i with | none => false | some gs => gs.all (goalB is.length xs))
  | _, _ => true
def wrongP (room : Int) (is : List Ins) (xs : Pap) : Option Nat := (List.range is.length).find? fun k => !goodB room is xs k
/-! ### comprehensions over a heap that grows -/
end PL

namespace PL
open DL PySem L2
theorem PapOk.at {n : Nat} {xs : Pap} (h : PapOk n xs) {k : Nat} (hk : k < n) : ∃ x, xs[k]? = some x ∧ ∀ l, x = some l → RowOk l := by
  have lt : k < xs.length := by rw [h.1]; exact hk
  exact ⟨xs[k], List.getElem?_eq_getElem lt, fun l e => h.2 l (e ▸ List.getElem_mem _)⟩
theorem PapOk.set {n : Nat} {xs : Pap} (h : PapOk n xs) {k : Nat} {x : Option (List Spn)} (hx : ∀ l, x = some l → RowOk l) : PapOk n (xs.set k x) := ⟨by rw [List.length_set]; exact h.1, fun l m => by
  rcases List.mem_or_eq_of_mem_set m with m | e
  · exact h.2 l m
  · exact hx l e.symm⟩
theorem PapOk.rep {n : Nat} {x : Option (List Spn)} (hx : ∀ l, x = some l → RowOk l) : PapOk n (List.replicate n x) := ⟨List.length_replicate, fun l m => hx l (List.eq_of_mem_replicate m).symm⟩
def PapA (n : Nat) (a : Addr) : Asr := fun G => ∃ xs : Pap, PapOk n xs ∧ pt a (.lst (papD xs)) G
theorem PapA.open {n : Nat} {a : Addr} {F : List Asr} {G : DG} (hs : Stars (PapA n a :: F) G) : ∃ xs, PapOk n xs ∧ Stars (pt a (.lst (papD xs)) :: F) G := by
  obtain ⟨xs, hs⟩ := Stars.ex hs
  obtain ⟨h, k, a1, b1, c1, ⟨d1, d2⟩, e1⟩ := hs
  exact ⟨xs, d1, h, k, a1, b1, c1, d2, e1⟩
end PL

namespace PL
open DL PySem L2
/-! ### papers found -/
end PL

namespace PL
open DL PySem L2
/-! ### a paper found is right -/
theorem in_trans {a b c : List Spn} (ha : RowOk a) (hb : RowOk b) (hc : RowOk c) (h1 : inS a b = true) (h2 : inS b c = true) : inS a c = true := by
  obtain ⟨a1, a2, a3, a4, a5, a6, a7, a8, rfl, _⟩ := ha.four
  obtain ⟨b1, b2, b3, b4, b5, b6, b7, b8, rfl, _⟩ := hb.four
  obtain ⟨c1, c2, c3, c4, c5, c6, c7, c8, rfl, _⟩ := hc.four
  simp [inS] at h1 h2 ⊢
  omega
end PL

namespace PL
open DL PySem L2
/-! ### steps of wider rows -/
theorem inS_at {l o : List Spn} (h : RowOk l) (h' : RowOk o) (e : inS l o = true) {r : Nat} (hr : r < 4) : (spAt o r).1 ≤ (spAt l r).1 ∧ (spAt l r).2 ≤ (spAt o r).2 := by
  obtain ⟨a1, a2, a3, a4, a5, a6, a7, a8, rfl, _⟩ := h.four
  obtain ⟨b1, b2, b3, b4, b5, b6, b7, b8, rfl, _⟩ := h'.four
  simp [inS] at e
  rcases (show r = 0 ∨ r = 1 ∨ r = 2 ∨ r = 3 by omega) with rfl | rfl | rfl | rfl <;> simp [spAt] <;> omega
theorem inS_set {l o : List Spn} (h : RowOk l) (h' : RowOk o) (e : inS l o = true) {r : Nat} {s t : Spn} (hr : r < 4) (hs : t.1 ≤ s.1 ∧ s.2 ≤ t.2) : inS (l.set r s) (o.set r t) = true := by
  obtain ⟨a1, a2, a3, a4, a5, a6, a7, a8, rfl, _⟩ := h.four
  obtain ⟨b1, b2, b3, b4, b5, b6, b7, b8, rfl, _⟩ := h'.four
  simp [inS] at e
  rcases (show r = 0 ∨ r = 1 ∨ r = 2 ∨ r = 3 by omega) with rfl | rfl | rfl | rfl <;> simp [inS] <;> omega
theorem inS_refl {l : List Spn} (h : RowOk l) : inS l l = true := by
  obtain ⟨a1, a2, a3, a4, a5, a6, a7, a8, rfl, _⟩ := h.four
  simp [inS]
theorem stepS_mono {room : Int} {k : Nat} {l L : List Spn} (h : RowOk l) (h' : RowOk L) (e : inS l L = true) {i : Ins} (ok : i.Ok) {GS} (hS : stepS room k L i = some GS) : ∃ gs, stepS room k l i = some gs ∧ ∀ p ∈ gs, ∃ q ∈ GS, p.1 = q.1 ∧ inS p.2 q.2 = true := by
  have one : ∀ {g : Nat} {a b : List Spn} {X : List (Nat × List Spn)}, X = [(g, b)] → inS a b = true → ∀ p ∈ [(g, a)], ∃ q ∈ X, p.1 = q.1 ∧ inS p.2 q.2 = true := fun {g a b X} eX ei p m => by
    subst eX
    rw [List.mem_singleton.mp m]
    exact ⟨_, List.mem_singleton.mpr rfl, rfl, ei⟩
  cases i with
  | fin => exact ⟨[], rfl, fun p m => by cases m⟩
  | go g => cases hS; exact ⟨_, rfl, one rfl e⟩
  | set r n => cases hS; exact ⟨_, rfl, one rfl (inS_set h h' e ok.1 ⟨Int.le_refl _, Int.le_refl _⟩)⟩
  | copy r s => cases hS; exact ⟨_, rfl, one rfl (inS_set h h' e ok.1 (inS_at h h' e ok.2))⟩
  | add r s =>
    have a1 := inS_at h h' e ok.1
    have a2 := inS_at h h' e ok.2
    simp only [stepS, chkS] at hS ⊢
    split at hS
    · rename_i c
      cases hS
      have c' : -999 ≤ (addS (spAt l r) (spAt l s)).1 ∧ (addS (spAt l r) (spAt l s)).2 ≤ 999 := by
        unfold addS at *; simp only at *; omega
      rw [if_pos c']
      exact ⟨_, rfl, one rfl (inS_set h h' e ok.1 (by unfold addS; simp only; omega))⟩
    · cases hS
  | take r s =>
    have a1 := inS_at h h' e ok.1
    have a2 := inS_at h h' e ok.2
    simp only [stepS, chkS] at hS ⊢
    split at hS
    · rename_i c
      cases hS
      have c' : -999 ≤ (takeS (spAt l r) (spAt l s)).1 ∧ (takeS (spAt l r) (spAt l s)).2 ≤ 999 := by
        unfold takeS at *; simp only at *; omega
      rw [if_pos c']
      exact ⟨_, rfl, one rfl (inS_set h h' e ok.1 (by unfold takeS; simp only; omega))⟩
    · cases hS
  | less r s =>
    have a1 := inS_at h h' e ok.1
    have a2 := inS_at h h' e ok.2
    cases hS
    refine ⟨_, rfl, one rfl (inS_set h h' e ok.1 ?_)⟩
    unfold lessS
    simp only
    constructor <;> (split <;> split <;> omega)
  | zero r g =>
    have a1 := inS_at h h' e ok.1
    cases hS
    refine ⟨_, rfl, fun p m => ?_⟩
    unfold zeroS at m ⊢
    rcases List.mem_append.mp m with m | m
    · split at m
      · rename_i c
        rw [List.mem_singleton.mp m]
        refine ⟨(g, L.set r (0, 0)), List.mem_append_left _ ?_, rfl, inS_set h h' e ok.1 ⟨Int.le_refl _, Int.le_refl _⟩⟩
        rw [if_pos (by omega)]
        exact List.mem_singleton.mpr rfl
      · cases m
    · split at m
      · rename_i c
        rw [List.mem_singleton.mp m]
        have w : (lowZ (spAt L r)).1 ≤ (lowZ (spAt l r)).1 ∧ (lowZ (spAt l r)).2 ≤ (lowZ (spAt L r)).2 := by
          have s1 := (h.at ok.1).2
          have s2 := (h'.at ok.1).2
          unfold SpOk at s1 s2
          clear c m
          unfold lowZ
          simp only at *
          constructor <;> (split <;> split <;> omega)
        refine ⟨(k + 1, L.set r (lowZ (spAt L r))), List.mem_append_right _ ?_, rfl, inS_set h h' e ok.1 w⟩
        rw [if_pos (by omega)]
        exact List.mem_singleton.mpr rfl
      · cases m
  | read r s =>
    have a2 := inS_at h h' e ok.2
    simp only [stepS] at hS ⊢
    split at hS
    · rename_i c
      cases hS
      rw [if_pos (by unfold celS at *; omega)]
      exact ⟨_, rfl, one rfl (inS_set h h' e ok.1 ⟨Int.le_refl _, Int.le_refl _⟩)⟩
    · cases hS
  | write r s =>
    have a2 := inS_at h h' e ok.1
    simp only [stepS] at hS ⊢
    split at hS
    · rename_i c
      cases hS
      rw [if_pos (by unfold celS at *; omega)]
      exact ⟨_, rfl, one rfl e⟩
    · cases hS
  | ask r d => cases hS; exact ⟨_, rfl, one rfl (inS_set h h' e ok.1 ⟨Int.le_refl _, Int.le_refl _⟩)⟩
  | tell r d => cases hS; exact ⟨_, rfl, one rfl e⟩
  | look r s p =>
    have a2 := inS_at h h' e ok.2.1
    simp only [stepS] at hS ⊢
    split at hS
    · rename_i c
      cases hS
      rw [if_pos (by unfold celS at *; omega)]
      exact ⟨_, rfl, one rfl (inS_set h h' e ok.1 ⟨Int.le_refl _, Int.le_refl _⟩)⟩
    · cases hS
  | mark r s p =>
    have a2 := inS_at h h' e ok.1
    simp only [stepS] at hS ⊢
    split at hS
    · rename_i c
      cases hS
      rw [if_pos (by unfold celS at *; omega)]
      exact ⟨_, rfl, one rfl e⟩
    · cases hS
end PL

namespace PL
open DL PySem L2
/-! ### the law's least paper and the paper found -/
def LeP (xs zs : Pap) : Prop := ∀ (k : Nat) (l : List Spn), xs[k]? = some (some l) → ∃ L, zs[k]? = some (some L) ∧ inS l L = true
theorem PapOk.mem {n : Nat} {xs : Pap} (h : PapOk n xs) {k : Nat} {l : List Spn} (e : xs[k]? = some (some l)) : RowOk l := h.2 l (List.mem_of_getElem? e)
theorem LeP.refl {n : Nat} {xs : Pap} (h : PapOk n xs) : LeP xs xs := fun k l e => ⟨l, e, inS_refl (h.mem e)⟩
theorem LeP.trans {n : Nat} {xs ys zs : Pap} (h1 : PapOk n xs) (h2 : PapOk n ys) (h3 : PapOk n zs) (a : LeP xs ys) (b : LeP ys zs) : LeP xs zs := fun k l e => by
  obtain ⟨L, e1, i1⟩ := a k l e
  obtain ⟨M, e2, i2⟩ := b k L e1
  exact ⟨M, e2, in_trans (h1.mem e) (h2.mem e1) (h3.mem e2) i1 i2⟩
theorem right_at {room : Int} {is : List Ins} {zs : Pap} (hz : wrongP room is zs = none) {k : Nat} (hk : k < is.length) : goodB room is zs k = true := by
  have := List.find?_eq_none.mp hz k (List.mem_range.mpr hk)
  simpa using this
end PL

namespace PL
open DL PySem L2
/-! ### rows stand only where the program comes -/
def SubR (is : List Ins) (xs : Pap) : Prop := ∀ (k : Nat) (l : List Spn), xs[k]? = some (some l) → Reach is k
theorem SubR.set {is : List Ins} {xs : Pap} (h : SubR is xs) {g : Nat} {x : Option (List Spn)} (hg : Reach is g) : SubR is (xs.set g x) := fun k l e => by
  by_cases c : g = k
  · exact c ▸ hg
  · rw [List.getElem?_set_ne c] at e
    exact h k l e
end PL

namespace PL
open DL PySem L2
end PL

namespace PL
open DL PySem L2
/-! ### a right paper holds all runs -/
def ptsR (row : List Int) : List Spn := row.map fun x => (x, x)
def Num (x : Int) : Prop := -999 ≤ x ∧ x ≤ 999
theorem pts_ok {row : List Int} (h : row.length = 4) (hn : ∀ x ∈ row, Num x) : RowOk (ptsR row) := ⟨by simp [ptsR, h], fun s m => by
  obtain ⟨x, mx, rfl⟩ := List.mem_map.mp m
  have := hn x mx
  unfold Num at this
  unfold SpOk
  simp only
  omega⟩
theorem pts_at {row : List Int} (h : row.length = 4) {r : Nat} (hr : r < 4) : spAt (ptsR row) r = (row.getD r 0, row.getD r 0) := by
  unfold spAt ptsR
  rw [List.getD_eq_getElem?_getD, List.getD_eq_getElem?_getD, List.getElem?_map, List.getElem?_eq_getElem (by omega)]
  rfl
theorem pts_set {row : List Int} {r : Nat} {x : Int} : (ptsR row).set r (x, x) = ptsR (row.set r x) := by
  unfold ptsR
  rw [List.map_set]
theorem num_at {row : List Int} (hn : ∀ x ∈ row, Num x) (r : Nat) : Num (row.getD r 0) := by
  rw [List.getD_eq_getElem?_getD]
  cases e : row[r]? with
  | none => exact ⟨by decide, by decide⟩
  | some x => exact hn x (List.mem_of_getElem? e)
theorem num_set {row : List Int} (hn : ∀ x ∈ row, Num x) {r : Nat} {x : Int} (hx : Num x) : ∀ y ∈ row.set r x, Num y := fun y m => by
  rcases List.mem_or_eq_of_mem_set m with m | rfl
  · exact hn y m
  · exact hx
structure Snd (room : Int) (is : List Ins) (xs : Pap) (c : CS) (w : WS) : Prop where
  prog : c.prog = is
  own : (c.own.length : Int) = room
  rl : c.row.length = 4
  rn : ∀ x ∈ c.row, Num x
  on : ∀ x ∈ c.own, Num x
  fd : ∀ d, ∀ x ∈ w.feeds d, Num x
  pg : ∀ d, ∀ x ∈ w.pages d, Num x
  at_ : ∃ l, xs[c.spot]? = some (some l) ∧ inS (ptsR c.row) l = true
/-- one step of points -/
theorem point_step {room : Int} {c : CS} {w : WS} {i : Ins} (ok : i.Ok) (own : (c.own.length : Int) = room) (rl : c.row.length = 4) (rn : ∀ x ∈ c.row, Num x) (on : ∀ x ∈ c.own, Num x) (fd : ∀ d, ∀ x ∈ w.feeds d, Num x) (pg : ∀ d, ∀ x ∈ w.pages d, Num x) {gs} (e : stepS room c.spot (ptsR c.row) i = some gs) :
    (faultI c i = none ∨ faultI c i = some "right") ∧ (faultI c i = none → i ≠ .fin → ∃ p ∈ gs, p.1 = (actI none c w i).1.spot ∧ (p.2 = ptsR (actI none c w i).1.row ∨ ∃ r x, Num x ∧ r < 4 ∧ p.2 = (ptsR c.row).set r (-999, 999) ∧ (actI none c w i).1.row = c.row.set r x)) ∧ (actI none c w i).1.prog = c.prog ∧ (actI none c w i).1.own.length = c.own.length ∧ (actI none c w i).1.row.length = 4 ∧ (faultI c i = none → ∀ x ∈ (actI none c w i).1.row, Num x) ∧ (∀ x ∈ (actI none c w i).1.own, Num x) ∧ (∀ d, ∀ x ∈ (actI none c w i).2.feeds d, Num x) ∧ (∀ d, ∀ x ∈ (actI none c w i).2.pages d, Num x) := by
  have pa : ∀ {r}, r < 4 → spAt (ptsR c.row) r = (c.at r, c.at r) := fun hr => pts_at rl hr
  have na : ∀ r, Num (c.at r) := fun r => num_at rn r
  have l4 : ∀ r x, (c.row.set r x).length = 4 := fun r x => by rw [List.length_set]; exact rl
  have one : ∀ {g : Nat} {a : List Spn}, ∃ p ∈ [(g, a)], p.1 = g ∧ p.2 = a := fun {g a} => ⟨(g, a), List.mem_singleton.mpr rfl, rfl, rfl⟩
  cases i with
  | set r n =>
    cases e
    exact ⟨.inl rfl, fun _ _ => ⟨_, List.mem_singleton.mpr rfl, rfl, .inl pts_set⟩, rfl, rfl, l4 _ _, fun _ => num_set rn ok.2, on, fd, pg⟩
  | copy r s =>
    cases e
    exact ⟨.inl rfl, fun _ _ => ⟨_, List.mem_singleton.mpr rfl, rfl, .inl (by rw [pa ok.2]; exact pts_set)⟩, rfl, rfl, l4 _ _, fun _ => num_set rn (na s), on, fd, pg⟩
  | add r s =>
    simp only [stepS, chkS, pa ok.1, pa ok.2, addS] at e
    split at e
    · rename_i cc
      cases e
      have f : faultI c (.add r s) = none := by
        show (if inNum (c.at r + c.at s) = true then none else some "great") = none
        rw [if_pos (by unfold inNum; rw [decide_eq_true cc.1, decide_eq_true cc.2]; rfl)]
      exact ⟨.inl f, fun _ _ => ⟨_, List.mem_singleton.mpr rfl, rfl, .inl pts_set⟩, rfl, rfl, l4 _ _, fun _ => num_set rn cc, on, fd, pg⟩
    · cases e
  | take r s =>
    simp only [stepS, chkS, pa ok.1, pa ok.2, takeS] at e
    split at e
    · rename_i cc
      cases e
      have f : faultI c (.take r s) = none := by
        show (if inNum (c.at r - c.at s) = true then none else some "great") = none
        rw [if_pos (by unfold inNum; rw [decide_eq_true cc.1, decide_eq_true cc.2]; rfl)]
      exact ⟨.inl f, fun _ _ => ⟨_, List.mem_singleton.mpr rfl, rfl, .inl pts_set⟩, rfl, rfl, l4 _ _, fun _ => num_set rn cc, on, fd, pg⟩
    · cases e
  | less r s =>
    cases e
    refine ⟨.inl rfl, fun _ _ => ⟨_, List.mem_singleton.mpr rfl, rfl, .inl ?_⟩, rfl, rfl, l4 _ _, fun _ => num_set rn ?_, on, fd, pg⟩
    · rw [pa ok.1, pa ok.2]
      exact pts_set
    · unfold Num
      split <;> omega
  | go g =>
    cases e
    exact ⟨.inl rfl, fun _ _ => ⟨_, List.mem_singleton.mpr rfl, rfl, .inl rfl⟩, rfl, rfl, rl, fun _ => rn, on, fd, pg⟩
  | zero r g =>
    cases e
    refine ⟨.inl rfl, fun _ _ => ?_, rfl, rfl, rl, fun _ => rn, on, fd, pg⟩
    have same : ptsR (c.row.set r (c.at r)) = ptsR c.row := by
      congr 1
      refine List.ext_getElem? fun j => ?_
      by_cases cj : r = j
      · subst cj
        rw [List.getElem?_set_self (by rw [rl]; exact ok.1)]
        unfold CS.at
        rw [List.getD_eq_getElem?_getD, List.getElem?_eq_getElem (by rw [rl]; exact ok.1)]
        rfl
      · rw [List.getElem?_set_ne cj]
    by_cases cz : c.at r = 0
    · refine ⟨(g, (ptsR c.row).set r (0, 0)), List.mem_append_left _ ?_, by show g = (if c.at r = 0 then g else c.spot + 1); rw [if_pos cz], .inl ?_⟩
      · rw [pa ok.1, if_pos (by simp only; omega)]
        exact List.mem_singleton.mpr rfl
      · show (ptsR c.row).set r (0, 0) = ptsR c.row
        rw [pts_set, ← cz, same]
    · refine ⟨(c.spot + 1, (ptsR c.row).set r (c.at r, c.at r)), List.mem_append_right _ ?_, by show c.spot + 1 = (if c.at r = 0 then g else c.spot + 1); rw [if_neg cz], .inl ?_⟩
      · have ez : lowZ (c.at r, c.at r) = (c.at r, c.at r) := by unfold lowZ; simp only; rw [if_neg cz, if_neg cz]
        rw [pa ok.1, ez, if_pos (Int.le_refl _)]
        exact List.mem_singleton.mpr rfl
      · show (ptsR c.row).set r (c.at r, c.at r) = ptsR c.row
        rw [pts_set, same]
  | read r s =>
    simp only [stepS, pa ok.2] at e
    split at e
    · rename_i cc
      cases e
      have f : faultI c (.read r s) = none := by
        show (if inCell (c.at s) c.own.length = true then none else some "cell") = none
        rw [if_pos (by unfold inCell; rw [decide_eq_true cc.1, decide_eq_true (by have := cc.2; simp only at this; omega)]; rfl)]
      exact ⟨.inl f, fun _ _ => ⟨_, List.mem_singleton.mpr rfl, rfl, .inr ⟨r, _, num_at on _, ok.1, rfl, rfl⟩⟩, rfl, rfl, l4 _ _, fun _ => num_set rn (num_at on _), on, fd, pg⟩
    · cases e
  | write r s =>
    simp only [stepS, pa ok.1] at e
    split at e
    · rename_i cc
      cases e
      have f : faultI c (.write r s) = none := by
        show (if inCell (c.at r) c.own.length = true then none else some "cell") = none
        rw [if_pos (by unfold inCell; rw [decide_eq_true cc.1, decide_eq_true (by have := cc.2; simp only at this; omega)]; rfl)]
      exact ⟨.inl f, fun _ _ => ⟨_, List.mem_singleton.mpr rfl, rfl, .inl rfl⟩, rfl, List.length_set, rl, fun _ => rn, num_set on (na s), fd, pg⟩
    · cases e
  | ask r d =>
    cases e
    have hd : Num ((w.feeds d).headD 0) := by
      cases ef : w.feeds d with
      | nil => exact ⟨by decide, by decide⟩
      | cons x l => exact fd d x (by rw [ef]; exact List.mem_cons_self)
    have f : faultI c (.ask r d) = none ∨ faultI c (.ask r d) = some "right" := by
      show (if d ∈ c.asks then none else some "right") = none ∨ (if d ∈ c.asks then none else some "right") = some "right"
      split
      · exact .inl rfl
      · exact .inr rfl
    refine ⟨f, fun _ _ => ⟨_, List.mem_singleton.mpr rfl, rfl, .inr ⟨r, _, hd, ok.1, rfl, rfl⟩⟩, rfl, rfl, l4 _ _, fun _ => num_set rn hd, on, fun d' x m => ?_, pg⟩
    replace m : x ∈ fset w.feeds d (w.feeds d).tail d' := m
    unfold fset at m
    split at m
    · exact fd d x (List.mem_of_mem_tail m)
    · exact fd d' x m
  | tell r d =>
    cases e
    have f : faultI c (.tell r d) = none ∨ faultI c (.tell r d) = some "right" := by
      show (if d ∈ c.tells then none else some "right") = none ∨ (if d ∈ c.tells then none else some "right") = some "right"
      split
      · exact .inl rfl
      · exact .inr rfl
    exact ⟨f, fun _ _ => ⟨_, List.mem_singleton.mpr rfl, rfl, .inl rfl⟩, rfl, rfl, rl, fun _ => rn, on, fd, pg⟩
  | look r s p =>
    simp only [stepS, pa ok.2.1] at e
    split at e
    · rename_i cc
      cases e
      have hc : inCell (c.at s) 10 = true := by unfold inCell; rw [decide_eq_true cc.1, decide_eq_true (by have := cc.2; simp only at this; omega)]; rfl
      have f : faultI c (.look r s p) = none ∨ faultI c (.look r s p) = some "right" := by
        show (if p ∈ c.looks then (if inCell (c.at s) 10 = true then none else some "cell") else some "right") = none ∨ (if p ∈ c.looks then (if inCell (c.at s) 10 = true then none else some "cell") else some "right") = some "right"
        rw [if_pos hc]
        split
        · exact .inl rfl
        · exact .inr rfl
      exact ⟨f, fun _ _ => ⟨_, List.mem_singleton.mpr rfl, rfl, .inr ⟨r, _, num_at (pg p) _, ok.1, rfl, rfl⟩⟩, rfl, rfl, l4 _ _, fun _ => num_set rn (num_at (pg p) _), on, fd, pg⟩
    · cases e
  | mark r s p =>
    simp only [stepS, pa ok.1] at e
    split at e
    · rename_i cc
      cases e
      have hc : inCell (c.at r) 10 = true := by unfold inCell; rw [decide_eq_true cc.1, decide_eq_true (by have := cc.2; simp only at this; omega)]; rfl
      have f : faultI c (.mark r s p) = none ∨ faultI c (.mark r s p) = some "right" := by
        show (if p ∈ c.marks then (if inCell (c.at r) 10 = true then none else some "cell") else some "right") = none ∨ (if p ∈ c.marks then (if inCell (c.at r) 10 = true then none else some "cell") else some "right") = some "right"
        rw [if_pos hc]
        split
        · exact .inl rfl
        · exact .inr rfl
      refine ⟨f, fun _ _ => ⟨_, List.mem_singleton.mpr rfl, rfl, .inl rfl⟩, rfl, rfl, rl, fun _ => rn, on, fd, fun d' x m => ?_⟩
      replace m : x ∈ fset w.pages p ((w.pages p).set (c.at r).toNat (c.at s)) d' := m
      unfold fset at m
      split at m
      · exact num_set (pg p) (na s) x m
      · exact pg d' x m
    · cases e
  | fin => exact ⟨.inl rfl, fun _ h => absurd rfl h, rfl, rfl, rl, fun _ => rn, on, fd, pg⟩
theorem snd_step {room : Int} {is : List Ins} {xs : Pap} {c : CS} {w : WS} (hr : wrongP room is xs = none) (hx : PapOk is.length xs) (ok : ∀ i ∈ is, i.Ok) (s : Snd room is xs c w) :
    Snd room is xs (stepM none c w).2.1 (stepM none c w).2.2 ∧ ((stepM none c w).2.1.mood ∈ ["going", "waiting", "ended"] ∨ ((stepM none c w).2.1.mood = "right" ∧ ∃ i ∈ is, faultI c i = some "right")) := by
  obtain ⟨l, el, il⟩ := s.at_
  have lk : c.spot < is.length := by rw [← hx.1]; exact (List.getElem?_eq_some_iff.mp el).1
  have hi : is[c.spot]? = some is[c.spot] := List.getElem?_eq_getElem lk
  have mi : is[c.spot] ∈ is := List.getElem_mem _
  have oki := ok _ mi
  have hl := hx.mem el
  have hp := pts_ok s.rl s.rn
  have gk := right_at hr lk
  unfold goodB at gk
  rw [el, hi] at gk
  have gk := (Bool.and_eq_true _ _ ▸ gk).2
  dsimp only at gk
  generalize hS : stepS room c.spot l is[c.spot] = S at gk
  cases S with
  | none => cases gk
  | some GS =>
    obtain ⟨gs, hgs, hq⟩ := stepS_mono hp hl il oki hS
    obtain ⟨f, act, p1, p2, p3, p4, p5, p6, p7⟩ := point_step (w := w) oki s.own s.rl s.rn s.on s.fd s.pg hgs
    have hpi : c.prog[c.spot]? = some is[c.spot] := by rw [s.prog]; exact hi
    unfold stepM
    rw [hpi]
    dsimp only
    rcases f with f | f
    · rw [f]
      dsimp only
      by_cases cw : waits none w is[c.spot] = true
      · rw [if_pos cw]
        exact ⟨⟨s.prog, s.own, s.rl, s.rn, s.on, s.fd, s.pg, l, el, il⟩, .inl (by simp)⟩
      · rw [if_neg cw]
        refine ⟨⟨p1.trans s.prog, by show ((actI none c w is[c.spot]).1.own.length : Int) = room; rw [p2]; exact s.own, p3, p4 f, p5, p6, p7, ?_⟩, .inl ?_⟩
        · by_cases cf : is[c.spot] = .fin
          · rw [cf]
            exact ⟨l, el, il⟩
          · obtain ⟨p, mp, e1, e2⟩ := act f cf
            obtain ⟨q, mq, e3, e4⟩ := hq p mp
            have gq := List.all_eq_true.mp gk q mq
            unfold goalB at gq
            have gok := stepS_ok hp oki hgs p mp
            have gok' := stepS_ok hl oki hS q mq
            split at gq
            · rename_i o eo
              refine ⟨o, by rw [← e1, e3]; exact eo, ?_⟩
              have rp := pts_ok p3 (p4 f)
              have t := in_trans gok gok' (hx.mem eo) e4 gq
              refine in_trans rp gok (hx.mem eo) ?_ t
              rcases e2 with e2 | ⟨r, x, nx, r4, e2, e5⟩
              · rw [e2]
                exact inS_refl rp
              · rw [e2]
                show inS (ptsR (actI none c w is[c.spot]).1.row) _ = true
                rw [e5, ← pts_set]
                exact inS_set hp hp (inS_refl hp) r4 nx
            · cases gq
        · show endMood is[c.spot] ∈ _
          cases is[c.spot] <;> simp [endMood]
    · rw [f]
      exact ⟨⟨s.prog, s.own, s.rl, s.rn, s.on, s.fd, s.pg, l, el, il⟩, .inr ⟨rfl, _, mi, f⟩⟩
end PL

namespace PL
open DL PySem L2
/-! ### comprehensions of whatever is drawn -/
/-! ### moods within a right paper -/
theorem calm_all {c : CS} {i : Ins} {m : Int} (h : i.Calm m) (ha : c.asks = ["bus", "in", "out"]) (ht : c.tells = ["bus", "in", "out"]) (hk : c.looks = ["log", "sky"]) : faultI c i ≠ some "right" := by
  cases i with
  | ask r d =>
    show (if d ∈ c.asks then none else some "right") ≠ some "right"
    rw [if_pos (by rw [ha, h.2]; decide)]
    intro z; cases z
  | tell r d =>
    show (if d ∈ c.tells then none else some "right") ≠ some "right"
    rw [if_pos (by rw [ht, h.2]; decide)]
    intro z; cases z
  | look r s p =>
    show (if p ∈ c.looks then (if inCell (c.at s) 10 = true then none else some "cell") else some "right") ≠ some "right"
    rw [if_pos (by rw [hk, h.2.2]; decide)]
    split
    · intro z; cases z
    · intro z
      have := Option.some.inj z
      exact absurd this (by decide)
  | mark r s p => exact h.elim
  | add r s =>
    show (if inNum (c.at r + c.at s) = true then none else some "great") ≠ some "right"
    split
    · intro z; cases z
    · intro z; exact absurd (Option.some.inj z) (by decide)
  | take r s =>
    show (if inNum (c.at r - c.at s) = true then none else some "great") ≠ some "right"
    split
    · intro z; cases z
    · intro z; exact absurd (Option.some.inj z) (by decide)
  | read r s =>
    show (if inCell (c.at s) c.own.length = true then none else some "cell") ≠ some "right"
    split
    · intro z; cases z
    · intro z; exact absurd (Option.some.inj z) (by decide)
  | write r s =>
    show (if inCell (c.at r) c.own.length = true then none else some "cell") ≠ some "right"
    split
    · intro z; cases z
    · intro z; exact absurd (Option.some.inj z) (by decide)
  | set r n => intro z; cases z
  | copy r n => intro z; cases z
  | less r n => intro z; cases z
  | go n => intro z; cases z
  | zero r n => intro z; cases z
  | fin => intro z; cases z
structure Snd6 (room : Int) (pr : Prg) (xs : Pap) (n : Nat) (c : CS) (w : WS) : Prop where
  s : Snd room pr.prog xs c w
  prg : c.prg = pr
  ok : c.Ok
  sz : w.sz ≤ n
  mood : c.mood ∈ ["going", "waiting", "ended"]
theorem Snd6.step {room : Int} {pr : Prg} {xs : Pap} {n : Nat} {c : CS} {w : WS} {m : Int} (hr : wrongP room pr.prog xs = none) (hx : PapOk pr.prog.length xs) (ok : ∀ i ∈ pr.prog, i.Ok) (hc : ∀ i ∈ pr.prog, i.Calm m) (ha : pr.asks = ["bus", "in", "out"]) (ht : pr.tells = ["bus", "in", "out"]) (hk : pr.looks = ["log", "sky"]) (h : Snd6 room pr xs n c w) : Snd6 room pr xs (n + 1) (stepO c w).1 (stepO c w).2 := by
  unfold stepO
  split
  · obtain ⟨s1, m1⟩ := snd_step hr hx ok h.s
    have sz := stepM_sz (full := none) (c := c) (w := w)
    refine ⟨s1, stepM_prg.trans h.prg, stepM_ok h.ok, Nat.le_trans sz (Nat.succ_le_succ h.sz), ?_⟩
    rcases m1 with m1 | ⟨m1, i, mi, fi⟩
    · exact m1
    · refine absurd fi (calm_all (hc i mi) ?_ ?_ ?_)
      · rw [← ha, ← h.prg]; rfl
      · rw [← ht, ← h.prg]; rfl
      · rw [← hk, ← h.prg]; rfl
  · exact ⟨h.s, h.prg, h.ok, Nat.le_succ_of_le h.sz, h.mood⟩
end PL

/-! numbers stay numbers -/
namespace PL
open DL PySem L2
def moods7 : List String := ["going", "ended", "waiting", "place", "right", "cell", "great"]
structure CNum (c : CS) : Prop where
  rn : ∀ x ∈ c.row, Num x
  on : ∀ x ∈ c.own, Num x
  spot : c.spot ≤ 99
  mood : c.mood ∈ moods7
  cn : ∀ x ∈ c.count, 0 ≤ x
structure WNum (w : WS) : Prop where
  fd : ∀ d, ∀ x ∈ w.feeds d, Num x
  fl : ∀ d, (w.feeds d).length ≤ 50
  pg : ∀ p, ∀ x ∈ w.pages p, Num x
  pl : ∀ p, (w.pages p).length = 10
theorem bump_mem {l : List Int} {k : Nat} {y : Int} (h : y ∈ bump l k) : ∃ x ∈ l, y = x ∨ y = x + 1 := by
  have one : ∀ {l : List Int} {y : Int}, y ∈ l.set 0 (l.getD 0 0 + 1) → ∃ x ∈ l, y = x ∨ y = x + 1 := fun {l y} h => by
    cases l with
    | nil => cases h
    | cons a l =>
      rcases List.mem_cons.mp h with h | h
      · exact ⟨a, List.mem_cons_self, .inr h⟩
      · exact ⟨y, List.mem_cons_of_mem _ h, .inl rfl⟩
  unfold bump at h
  dsimp only at h
  split at h
  · exact one h
  · rename_i hk
    by_cases lt : k < (l.set 0 (l.getD 0 0 + 1)).length
    · rcases List.mem_or_eq_of_mem_set h with h | h
      · exact one h
      · rw [List.length_set] at lt
        rw [List.getD_eq_getElem?_getD, List.getElem?_set_ne (fun z => hk z.symm), List.getElem?_eq_getElem lt] at h
        exact ⟨l[k], List.getElem_mem _, .inr h⟩
    · rw [List.set_eq_of_length_le (by omega)] at h
      exact one h
theorem fault_moods {c : CS} {i : Ins} {f : String} (h : faultI c i = some f) : f ∈ moods7 := by
  cases i <;> simp only [faultI] at h <;> (try cases h) <;> (repeat' split at h) <;> (try cases h) <;> decide
theorem Num.of {x : Int} (h : inNum x = true) : Num x := by
  unfold inNum at h
  rw [Bool.and_eq_true, decide_eq_true_eq, decide_eq_true_eq] at h
  exact h
theorem num_act {c : CS} {w : WS} {i : Ins} (ok : i.Ok) (cok : c.Ok) (hc : CNum c) (hw : WNum w) (sp : c.spot < 40) (hf : faultI c i = none) (hwt : waits (some 50) w i = false) :
    (∀ x ∈ (actI (some 50) c w i).1.row, Num x) ∧ (∀ x ∈ (actI (some 50) c w i).1.own, Num x) ∧ (actI (some 50) c w i).1.spot ≤ 99 ∧ WNum (actI (some 50) c w i).2 := by
  have na : ∀ r, Num (c.at r) := fun r => num_at hc.rn r
  have s1 : c.spot + 1 ≤ 99 := by omega
  cases i with
  | set r n => exact ⟨num_set hc.rn ok.2, hc.on, s1, hw⟩
  | copy r s => exact ⟨num_set hc.rn (na s), hc.on, s1, hw⟩
  | add r s =>
    refine ⟨num_set hc.rn ?_, hc.on, s1, hw⟩
    simp only [faultI] at hf
    split at hf
    · rename_i q
      exact Num.of q
    · cases hf
  | take r s =>
    refine ⟨num_set hc.rn ?_, hc.on, s1, hw⟩
    simp only [faultI] at hf
    split at hf
    · rename_i q
      exact Num.of q
    · cases hf
  | less r s =>
    refine ⟨num_set hc.rn ?_, hc.on, s1, hw⟩
    unfold Num
    split <;> omega
  | go g => exact ⟨hc.rn, hc.on, ok, hw⟩
  | zero r g =>
    refine ⟨hc.rn, hc.on, ?_, hw⟩
    show (if c.at r = 0 then g else c.spot + 1) ≤ 99
    split
    · exact ok.2
    · exact s1
  | read r s => exact ⟨num_set hc.rn (num_at hc.on _), hc.on, s1, hw⟩
  | write r s => exact ⟨hc.rn, num_set hc.on (na s), s1, hw⟩
  | ask r d =>
    have hd : Num ((w.feeds d).headD 0) := by
      cases ef : w.feeds d with
      | nil => exact ⟨by decide, by decide⟩
      | cons x l => exact hw.fd d x (by rw [ef]; exact List.mem_cons_self)
    refine ⟨num_set hc.rn hd, hc.on, s1, fun e x m => ?_, fun e => ?_, hw.pg, hw.pl⟩
    · replace m : x ∈ fset w.feeds d (w.feeds d).tail e := m
      unfold fset at m
      split at m
      · exact hw.fd d x (List.mem_of_mem_tail m)
      · exact hw.fd e x m
    · show (fset w.feeds d (w.feeds d).tail e).length ≤ 50
      unfold fset
      split
      · have := hw.fl d
        rw [List.length_tail]
        omega
      · exact hw.fl e
  | tell r d =>
    refine ⟨hc.rn, hc.on, s1, fun e x m => ?_, fun e => ?_, hw.pg, hw.pl⟩
    · replace m : x ∈ fset w.feeds d (w.feeds d ++ [c.at r]) e := m
      unfold fset at m
      split at m
      · rcases List.mem_append.mp m with m | m
        · exact hw.fd d x m
        · rw [List.mem_singleton.mp m]
          exact na r
      · exact hw.fd e x m
    · show (fset w.feeds d (w.feeds d ++ [c.at r]) e).length ≤ 50
      have h50 : ¬ 50 ≤ (w.feeds d).length := of_decide_eq_false hwt
      unfold fset
      split
      · rw [List.length_append]
        simp
        omega
      · exact hw.fl e
  | look r s p => exact ⟨num_set hc.rn (num_at (hw.pg p) _), hc.on, s1, hw⟩
  | mark r s p =>
    refine ⟨hc.rn, hc.on, s1, hw.fd, hw.fl, fun e x m => ?_, fun e => ?_⟩
    · replace m : x ∈ fset w.pages p ((w.pages p).set (c.at r).toNat (c.at s)) e := m
      unfold fset at m
      split at m
      · exact num_set (hw.pg p) (na s) x m
      · exact hw.pg e x m
    · show (fset w.pages p ((w.pages p).set (c.at r).toNat (c.at s)) e).length = 10
      unfold fset
      split
      · rw [List.length_set]
        exact hw.pl p
      · exact hw.pl e
  | fin => exact ⟨hc.rn, hc.on, hc.spot, hw⟩
/-- a step; the meter grows only if it is done -/
theorem num_step {c : CS} {w : WS} (cok : c.Ok) (hc : CNum c) (hw : WNum w) : CNum (stepM (some 50) c w).2.1 ∧ WNum (stepM (some 50) c w).2.2 ∧
    ((stepM (some 50) c w).1 = true → ∀ y ∈ (stepM (some 50) c w).2.1.count, ∃ x ∈ c.count, y = x ∨ y = x + 1) ∧ ((stepM (some 50) c w).1 = false → (stepM (some 50) c w).2.1.count = c.count ∧ (stepM (some 50) c w).2.2 = w) := by
  unfold stepM
  split
  · exact ⟨⟨hc.rn, hc.on, hc.spot, by show "place" ∈ moods7; decide, hc.cn⟩, hw, fun z => (by cases z), fun _ => ⟨rfl, rfl⟩⟩
  · rename_i i hi
    have mi : i ∈ c.prog := List.mem_of_getElem? hi
    have lt : c.spot < 40 := by
      have := (List.getElem?_eq_some_iff.mp hi).1
      have := cok.len
      omega
    split
    · rename_i f hf
      exact ⟨⟨hc.rn, hc.on, hc.spot, fault_moods hf, hc.cn⟩, hw, fun z => (by cases z), fun _ => ⟨rfl, rfl⟩⟩
    · rename_i hf
      split
      · exact ⟨⟨hc.rn, hc.on, hc.spot, by show "waiting" ∈ moods7; decide, hc.cn⟩, hw, fun z => (by cases z), fun _ => ⟨rfl, rfl⟩⟩
      · rename_i hwt
        obtain ⟨a, b, d, e⟩ := num_act (cok.ins i mi) cok hc hw lt hf (by simpa using hwt)
        refine ⟨⟨a, b, d, ?_, fun x m => ?_⟩, ⟨e.fd, e.fl, e.pg, e.pl⟩, fun _ y m => bump_mem m, fun z => by cases z⟩
        · show endMood i ∈ moods7
          cases i <;> simp [endMood, moods7]
        · obtain ⟨z, mz, q⟩ := bump_mem m
          have := hc.cn z mz
          omega
structure TNum (B : Nat) (t : TnS) : Prop where
  cs : CNum t.cs
  fuel : t.fuel ≤ 9999
  p1 : 1 ≤ t.part
  p20 : t.part ≤ 20
  ct : ∀ x ∈ t.cs.count, x + t.fuel ≤ B
  s99 : ∀ x ∈ t.stops, x ≤ 99
  sr : t.stops.Pairwise fun a b => a < b
theorem turnT_num {B : Nat} : ∀ {n : Nat} {t : TnS} {w : WS}, t.Ok → TNum B t → WNum w → TNum B (turnT n t w).2.1 ∧ WNum (turnT n t w).2.2
  | 0, _, _, _, h, hw => ⟨h, hw⟩
  | n + 1, t, w, ok, h, hw => by
    obtain ⟨s1, s2, s3, s4⟩ := num_step ok.cs h.cs hw
    have h1 : (stepM (some 50) t.cs w).2.1.Ok := stepM_ok ok.cs
    have h2 : (stepM (some 50) t.cs w).2.1.prg.Ok := by
      rw [stepM_prg]
      exact ok.prg
    unfold turnT
    split
    · rename_i hm
      have hfu : 0 < t.fuel := by
        unfold TnS.may at hm
        simp only [Bool.and_eq_true, decide_eq_true_eq] at hm
        exact hm.2.1
      split
      · rename_i hd
        refine turnT_num (n := n) ⟨h1, h2, ok.stops⟩ ⟨s1, by have := h.fuel; show t.fuel - 1 ≤ 9999; omega, h.p1, h.p20, fun y m => ?_, h.s99, h.sr⟩ s2
        obtain ⟨x, mx, q⟩ := s3 hd y m
        have := h.ct x mx
        show y + ((t.fuel - 1 : Nat) : Int) ≤ B
        omega
      · rename_i hd
        have hd : (stepM (some 50) t.cs w).1 = false := by simpa using hd
        refine ⟨⟨s1, h.fuel, h.p1, h.p20, fun y m => ?_, h.s99, h.sr⟩, s2⟩
        have m : y ∈ (stepM (some 50) t.cs w).2.1.count := m
        rw [(s4 hd).1] at m
        exact h.ct y m
    · exact ⟨h, hw⟩
structure GNum (B : Nat) (c : CG) : Prop where
  ws : WNum c.ws
  ten : ∀ n ∈ c.names, TNum B (c.ten n)
theorem turnsC_num {B : Nat} : ∀ {ns : List String} {c : CG}, (∀ n ∈ ns, n ∈ c.names) → c.Ok → GNum B c → GNum B (turnsC ns c).2
  | [], c, _, _, h => h
  | n :: ns, c, hn, ok, h => by
    have mn := hn n List.mem_cons_self
    have h1 : CG.Ok { c with ten := fset c.ten n ((c.ten n).turn c.ws).2.1, ws := ((c.ten n).turn c.ws).2.2 } := ok.set (turnT_ok (ok.ten n mn)) (by unfold TnS.turn; rw [turnT_part]; exact ok.part n mn)
    obtain ⟨a, b⟩ := turnT_num (n := (c.ten n).part) (ok.ten n mn) (h.ten n mn) h.ws
    refine turnsC_num (ns := ns) (c := { c with ten := fset c.ten n ((c.ten n).turn c.ws).2.1, ws := ((c.ten n).turn c.ws).2.2 }) (fun m hm => hn m (List.mem_cons_of_mem _ hm)) h1 ⟨b, fun m hm => ?_⟩
    show TNum B (fset c.ten n _ m)
    unfold fset
    split
    · exact a
    · exact h.ten m hm
theorem GNum.turn {B : Nat} {c : CG} (ok : c.Ok) (h : GNum B c) : GNum B c.turn.2 := turnsC_num (fun n m => (srtS_perm _).mem_iff.mp m) ok h
theorem Prg.ten_num {pr : Prg} {fuel part B : Nat} (h : fuel ≤ 9999) (h1 : 1 ≤ part) (h20 : part ≤ 20) (hB : fuel ≤ B) : TNum B (pr.ten fuel part) := by
  refine ⟨⟨fun x m => ?_, fun x m => ?_, Nat.zero_le _, by show "going" ∈ moods7; decide, fun x m => ?_⟩, h, h1, h20, fun x m => ?_, fun x m => (by cases m), List.Pairwise.nil⟩
  · replace m : x ∈ [(0 : Int), 0, 0, 0] := m
    simp only [List.mem_cons, List.not_mem_nil, or_false, or_self] at m
    rw [m]
    exact ⟨by decide, by decide⟩
  · rw [List.eq_of_mem_replicate m]
    exact ⟨by decide, by decide⟩
  · replace m : x ∈ [(0 : Int), 0, 0, 0, 0] := m
    simp only [List.mem_cons, List.not_mem_nil, or_false, or_self] at m
    rw [m]
    decide
  · replace m : x ∈ [(0 : Int), 0, 0, 0, 0] := m
    simp only [List.mem_cons, List.not_mem_nil, or_false, or_self] at m
    rw [m]
    show (0 : Int) + (fuel : Nat) ≤ B
    omega
/-! ### what stands within what is granted -/
structure GOk (g : Prg) (B : Nat) (c : CG) : Prop where
  ok : c.Ok
  num : GNum B c
  given : c.given = g.rD
  gr : isRights g.rD = true
  within : ∀ n ∈ c.names, (c.ten n).cs.prg.Within g
theorem turnT_prg : ∀ {n : Nat} {t : TnS} {w : WS}, (turnT n t w).2.1.cs.prg = t.cs.prg
  | 0, _, _ => rfl
  | n + 1, t, w => by
    unfold turnT
    split
    · split
      · exact (turnT_prg (n := n)).trans stepM_prg
      · exact stepM_prg
    · rfl
theorem turnsC_prg : ∀ {ns : List String} {c : CG} (m : String), ((turnsC ns c).2.ten m).cs.prg = (c.ten m).cs.prg
  | [], c, m => rfl
  | n :: ns, c, m => by
    refine (turnsC_prg (ns := ns) m).trans ?_
    show (fset c.ten n _ m).cs.prg = _
    unfold fset
    split
    · rename_i e
      rw [e]
      exact turnT_prg
    · rfl
theorem GOk.turn {g : Prg} {B : Nat} {c : CG} (h : GOk g B c) : GOk g B c.turn.2 := by
  obtain ⟨a, b, d, _⟩ := h.ok.turn
  refine ⟨a, h.num.turn h.ok, d.trans h.given, h.gr, fun n m => ?_⟩
  rw [b] at m
  show Prg.Within ((turnsC (srtS c.names) c).2.ten n).cs.prg g
  rw [turnsC_prg]
  exact h.within n m
theorem GOk.let_in {g pr : Prg} {B fuel part : Nat} {c : CG} {n : String} (h : GOk g B c) (hp : pr.Ok) (hw : pr.Within g) (h8 : c.names.length < 8) (hwn : wordS n = true) (hf : fuel ≤ 9999) (h1 : 1 ≤ part) (h20 : part ≤ 20) (hB : fuel ≤ B) : GOk g B { c with names := c.names ++ [n], ten := fset c.ten n (pr.ten fuel part) } := by
  have key : ∀ m ∈ c.names ++ [n], m = n ∨ (m ≠ n ∧ m ∈ c.names) := fun m mm => by
    by_cases e : m = n
    · exact .inl e
    · rcases List.mem_append.mp mm with mm | mm
      · exact .inr ⟨e, mm⟩
      · exact absurd (List.mem_singleton.mp mm) e
  refine ⟨⟨fun m mm => ?_, fun m mm => ?_, fun m mm => ?_, ?_⟩, ⟨h.num.ws, fun m mm => ?_⟩, h.given, h.gr, fun m mm => ?_⟩
  · rcases key m mm with rfl | ⟨e, mm⟩
    · show (fset c.ten m _ m).Ok
      rw [fset_same]
      exact ⟨hp.cs, hp, Nat.zero_le _⟩
    · show (fset c.ten n _ m).Ok
      rw [fset_ne e]
      exact h.ok.ten m mm
  · rcases key m mm with rfl | ⟨e, mm⟩
    · exact hwn
    · exact h.ok.word m mm
  · rcases key m mm with rfl | ⟨e, mm⟩
    · show (fset c.ten m _ m).part ≤ 20
      rw [fset_same]
      exact h20
    · show (fset c.ten n _ m).part ≤ 20
      rw [fset_ne e]
      exact h.ok.part m mm
  · show (c.names ++ [n]).length ≤ 8
    rw [List.length_append]
    simp
    omega
  · rcases key m mm with rfl | ⟨e, mm⟩
    · show TNum B (fset c.ten m _ m)
      rw [fset_same]
      exact Prg.ten_num hf h1 h20 hB
    · show TNum B (fset c.ten n _ m)
      rw [fset_ne e]
      exact h.num.ten m mm
  · rcases key m mm with rfl | ⟨e, mm⟩
    · show Prg.Within (fset c.ten m _ m).cs.prg g
      rw [fset_same]
      exact hw
    · show Prg.Within (fset c.ten n _ m).cs.prg g
      rw [fset_ne e]
      exact h.within m mm
theorem GOk.feed {g : Prg} {B k : Nat} {c : CG} {d : String} {l : List Int} (h : GOk g B c) (hl : (c.ws.feeds d).length + l.length ≤ 50) (hx : ∀ x ∈ l, Num x) : GOk g B { c with ws := { c.ws with feeds := fset c.ws.feeds d (c.ws.feeds d ++ l), sz := c.ws.sz + k } } := by
  refine ⟨⟨h.ok.ten, h.ok.word, h.ok.part, h.ok.eight⟩, ⟨⟨fun e x m => ?_, fun e => ?_, h.num.ws.pg, h.num.ws.pl⟩, h.num.ten⟩, h.given, h.gr, h.within⟩
  · replace m : x ∈ fset c.ws.feeds d (c.ws.feeds d ++ l) e := m
    unfold fset at m
    split at m
    · rcases List.mem_append.mp m with m | m
      · exact h.num.ws.fd d x m
      · exact hx x m
    · exact h.num.ws.fd e x m
  · show (fset c.ws.feeds d (c.ws.feeds d ++ l) e).length ≤ 50
    unfold fset
    split
    · rw [List.length_append]
      exact hl
    · exact h.num.ws.fl e
theorem GOk.cg0 {g : Prg} {B : Nat} (hr : isRights g.rD = true) : GOk g B (cg0 g.rD) := by
  refine ⟨⟨fun m mm => (by cases mm), fun m mm => (by cases mm), fun m mm => (by cases mm), Nat.zero_le _⟩, ⟨⟨fun d x m => (by cases m), fun d => Nat.zero_le _, fun p x m => ?_, fun p => rfl⟩, fun m mm => by cases mm⟩, rfl, hr, fun m mm => by cases mm⟩
  replace m : x ∈ zero10 := m
  simp only [zero10, List.mem_cons, List.not_mem_nil, or_false, or_self] at m
  rw [m]
  exact ⟨by decide, by decide⟩
/-- a fault stands where it befell -/
structure FOk (c : CS) : Prop where
  pl : c.mood = "place" → c.prog.length ≤ c.spot
  ot : c.mood = "right" ∨ c.mood = "cell" ∨ c.mood = "great" → c.spot < c.prog.length
  wt : c.mood = "waiting" → ∃ r d, c.prog[c.spot]? = some (.ask r d) ∨ c.prog[c.spot]? = some (.tell r d)
theorem FOk.step {full : Option Nat} {c : CS} {w : WS} : FOk (stepM full c w).2.1 := by
  unfold stepM
  split
  · rename_i h
    refine ⟨fun _ => ?_, fun z => ?_, fun z => ?_⟩
    · exact List.getElem?_eq_none_iff.mp h
    · dsimp only at z
      rcases z with z | z | z <;> exact absurd z (by decide)
    · exact absurd z (by show ¬ "place" = "waiting"; decide)
  · rename_i i h
    have lt : c.spot < c.prog.length := (List.getElem?_eq_some_iff.mp h).1
    split
    · rename_i f hf
      refine ⟨fun z => ?_, fun _ => lt, fun z => ?_⟩
      · dsimp only at z
        rw [z] at hf
        cases i <;> simp only [faultI] at hf <;> (try cases hf) <;> (repeat' split at hf) <;> (try cases hf) <;> (first | exact absurd (Option.some.inj hf) (by decide))
      · dsimp only at z
        rw [z] at hf
        cases i <;> simp only [faultI] at hf <;> (try cases hf) <;> (repeat' split at hf) <;> (try cases hf) <;> (first | exact absurd (Option.some.inj hf) (by decide))
    · split
      · rename_i hw
        refine ⟨fun z => ?_, fun z => ?_, fun _ => ?_⟩
        · exact absurd z (by show ¬ "waiting" = "place"; decide)
        · dsimp only at z
          rcases z with z | z | z <;> exact absurd z (by decide)
        · show ∃ r d, c.prog[c.spot]? = _ ∨ c.prog[c.spot]? = _
          cases i <;> first | (exact ⟨_, _, .inl h⟩) | (exact ⟨_, _, .inr h⟩) | (simp only [waits] at hw; exact absurd hw (by simp))
      · refine ⟨fun z => ?_, fun z => ?_, fun z => ?_⟩
        · replace z : endMood i = "place" := z
          cases i <;> simp [endMood] at z
        · replace z : endMood i = "right" ∨ endMood i = "cell" ∨ endMood i = "great" := z
          rcases z with z | z | z <;> cases i <;> simp [endMood] at z
        · replace z : endMood i = "waiting" := z
          cases i <;> simp [endMood] at z
theorem FOk.turnT : ∀ {n : Nat} {t : TnS} {w : WS}, FOk t.cs → FOk (turnT n t w).2.1.cs
  | 0, _, _, h => h
  | n + 1, t, w, h => by
    unfold PL.turnT
    split
    · split
      · exact FOk.turnT (n := n) FOk.step
      · exact FOk.step
    · exact h
theorem FOk.turnsC : ∀ {ns : List String} {c : CG} (m : String), FOk (c.ten m).cs → FOk ((turnsC ns c).2.ten m).cs
  | [], c, m, h => h
  | n :: ns, c, m, h => by
    refine FOk.turnsC (ns := ns) m ?_
    show FOk (fset c.ten n _ m).cs
    unfold fset
    split
    · rename_i e
      rw [e] at h
      exact FOk.turnT h
    · exact h
theorem FOk.ten {pr : Prg} {fuel part : Nat} : FOk (pr.ten fuel part).cs := ⟨fun z => absurd z (by show ¬ "going" = "place"; decide), fun z => by
  rcases z with z | z | z <;> exact absurd z (by show ¬ ("going" : String) = _; decide), fun z => absurd z (by show ¬ "going" = "waiting"; decide)⟩
/-- a drawn cage: its names, nobody paused or held -/
def names4 : List String := ["ann", "bob", "cy", "dee"]
structure Drw (c : CG) : Prop where
  nm : ∃ k, k < 3 ∧ c.names = names4.drop k
  pl : ∀ n ∈ c.names, (c.ten n).Plain
  fk : ∀ n ∈ c.names, FOk (c.ten n).cs
theorem turnsC_plain : ∀ {ns : List String} {c : CG} (m : String), (c.ten m).Plain → ((turnsC ns c).2.ten m).Plain
  | [], c, m, h => h
  | n :: ns, c, m, h => by
    refine turnsC_plain (ns := ns) m ?_
    show (fset c.ten n _ m).Plain
    unfold fset
    split
    · rename_i e
      rw [e] at h
      exact turnT_plain h
    · exact h
theorem Drw.turn {c : CG} (ok : c.Ok) (h : Drw c) : Drw c.turn.2 := by
  obtain ⟨a, b, d, _⟩ := ok.turn
  refine ⟨by rw [b]; exact h.nm, fun n m => turnsC_plain n (h.pl n (b ▸ m)), fun n m => FOk.turnsC n (h.fk n (b ▸ m))⟩
/-! ### what a tenant is; what is told of a cage -/
end PL

/-! a cage as a text -/
namespace PL
open DL PySem L2
/-! ### figures -/
/-! ### texts of numbers -/
def numsT (l : List Int) : String := joinS "," (l.map fun x : Int => toString x)
/-! ### texts of tenants -/
def flagsT (t : TnS) : String := repS "p" (if t.paused = true then 1 else 0) ++ repS "o" (if t.over = true then 1 else 0)
def tenRow (n : String) (t : TnS) : List String :=
  [n, progText (t.cs.prog.map Ins.toD), rTxt t.cs.rights, toString (t.cs.spot : Int), numsT t.cs.row, numsT t.cs.own] ++ [numsT t.cs.count, t.cs.mood, toString (t.fuel : Int), toString (t.part : Int), flagsT t, numsT (t.stops.map fun x : Nat => (x : Int))]
def tenT (n : String) (t : TnS) : String := joinS ";" (tenRow n t)
def rowT (w : String) (l : List Int) : String := w ++ "=" ++ numsT l
/-! ### the whole -/
def savP (c : CG) (ds qs : List String) : List String := [rTxt c.given, joinS "/" ((srtS c.names).map fun n => tenT n (c.ten n)), joinS "/" (ds.map fun d => rowT d (c.ws.feeds d)), joinS "/" (qs.map fun q => rowT q (c.ws.pages q))]
/-! ### how long they are -/
structure SavLen (c : CG) (ds qs : List String) : Prop where
  t : (((srtS c.names).map fun n => tenT n (c.ten n)).map String.length).sum + ((srtS c.names).map fun n => tenT n (c.ten n)).length * 1 ≤ 40000
  d : ((ds.map fun d => rowT d (c.ws.feeds d)).map String.length).sum + (ds.map fun d => rowT d (c.ws.feeds d)).length * 1 ≤ 12600000
  q : ((qs.map fun d => rowT d (c.ws.pages d)).map String.length).sum + (qs.map fun d => rowT d (c.ws.pages d)).length * 1 ≤ 2800000
  r : (rTxt c.given).length ≤ 250
theorem SavLen.all {c : CG} {ds qs : List String} (h : SavLen c ds qs) : ((savP c ds qs).map String.length).sum + (savP c ds qs).length * 1 ≤ 15900000 := by
  have h1 := Nat.le_trans (joinS_len "/" _) h.t
  have h2 := Nat.le_trans (joinS_len "/" _) h.d
  have h3 := Nat.le_trans (joinS_len "/" _) h.q
  have h4 := h.r
  have e : ((savP c ds qs).map String.length).sum + (savP c ds qs).length * 1 = (rTxt c.given).length + ((joinS "/" ((srtS c.names).map fun n => tenT n (c.ten n))).length + ((joinS "/" (ds.map fun d => rowT d (c.ws.feeds d))).length + (joinS "/" (qs.map fun q => rowT q (c.ws.pages q))).length)) + 4 := by
    simp [savP]
  rw [e]
  omega
/-! ### rising rows of numbers -/
/-! ### cages that are alike -/
structure Like (c c' : CG) : Prop where
  given : c'.given = c.given
  names : srtS c'.names = srtS c.names
  ten : ∀ n ∈ c.names, c'.ten n = c.ten n
  fd : c'.ws.feeds = c.ws.feeds
  pg : c'.ws.pages = c.ws.pages
theorem Like.mem {c c' : CG} (h : Like c c') {n : String} : n ∈ c'.names ↔ n ∈ c.names := by
  rw [← (srtS_perm c'.names).mem_iff, h.names, (srtS_perm c.names).mem_iff]
theorem Like.symm {c c' : CG} (h : Like c c') : Like c' c := ⟨h.given.symm, h.names.symm, fun n m => (h.ten n (h.mem.mp m)).symm, h.fd.symm, h.pg.symm⟩
theorem Like.trans {c c' c'' : CG} (h : Like c c') (k : Like c' c'') : Like c c'' := ⟨k.given.trans h.given, k.names.trans h.names, fun n m => (k.ten n (h.mem.mpr m)).trans (h.ten n m), k.fd.trans h.fd, k.pg.trans h.pg⟩
theorem Like.refl (c : CG) : Like c c := ⟨rfl, rfl, fun _ _ => rfl, rfl, rfl⟩
/-- a step looks at feeds and pages alone -/
theorem step_like {c : CS} {w w' : WS} (h1 : w'.feeds = w.feeds) (h2 : w'.pages = w.pages) : (stepM (some 50) c w').1 = (stepM (some 50) c w).1 ∧ (stepM (some 50) c w').2.1 = (stepM (some 50) c w).2.1 ∧ (stepM (some 50) c w').2.2.feeds = (stepM (some 50) c w).2.2.feeds ∧ (stepM (some 50) c w').2.2.pages = (stepM (some 50) c w).2.2.pages := by
  obtain ⟨f, p, s, z⟩ := w
  obtain ⟨f', p', s', z'⟩ := w'
  dsimp only at h1 h2
  subst h1 h2
  unfold stepM
  cases c.prog[c.spot]? with
  | none => exact ⟨rfl, rfl, rfl, rfl⟩
  | some i =>
    dsimp only
    cases faultI c i with
    | some g => exact ⟨rfl, rfl, rfl, rfl⟩
    | none =>
      dsimp only
      have ew : waits (some 50) ⟨f', p', s', z'⟩ i = waits (some 50) ⟨f', p', s, z⟩ i := by cases i <;> rfl
      rw [ew]
      by_cases q : waits (some 50) ⟨f', p', s, z⟩ i = true
      · rw [if_pos q, if_pos q]
        exact ⟨rfl, rfl, rfl, rfl⟩
      · rw [if_neg q, if_neg q]
        refine ⟨rfl, ?_, ?_, ?_⟩ <;> (cases i <;> rfl)
theorem turnT_like : ∀ {n : Nat} {t : TnS} {w w' : WS}, w'.feeds = w.feeds → w'.pages = w.pages → (turnT n t w').1 = (turnT n t w).1 ∧ (turnT n t w').2.1 = (turnT n t w).2.1 ∧ (turnT n t w').2.2.feeds = (turnT n t w).2.2.feeds ∧ (turnT n t w').2.2.pages = (turnT n t w).2.2.pages
  | 0, t, w, w', h1, h2 => ⟨rfl, rfl, h1, h2⟩
  | n + 1, t, w, w', h1, h2 => by
    obtain ⟨a, b, d, e⟩ := step_like (c := t.cs) h1 h2
    unfold turnT
    rw [a, b]
    split
    · split
      · obtain ⟨a2, b2, d2, e2⟩ := turnT_like (n := n) (t := { t with cs := (stepM (some 50) t.cs w).2.1, fuel := t.fuel - 1, over := false }) d e
        exact ⟨congrArg (· + 1) a2, b2, d2, e2⟩
      · exact ⟨rfl, rfl, d, e⟩
    · exact ⟨rfl, rfl, h1, h2⟩
theorem turnsC_like : ∀ {ns : List String} {c c' : CG}, (∀ n ∈ ns, c'.ten n = c.ten n) → (∀ n ∈ c.names, c'.ten n = c.ten n) → c'.ws.feeds = c.ws.feeds → c'.ws.pages = c.ws.pages →
    (turnsC ns c').1 = (turnsC ns c).1 ∧ (∀ n ∈ c.names, (turnsC ns c').2.ten n = (turnsC ns c).2.ten n) ∧ (turnsC ns c').2.ws.feeds = (turnsC ns c).2.ws.feeds ∧ (turnsC ns c').2.ws.pages = (turnsC ns c).2.ws.pages
  | [], c, c', _, h, h1, h2 => ⟨rfl, h, h1, h2⟩
  | n :: ns, c, c', hn, h, h1, h2 => by
    have e := hn n List.mem_cons_self
    obtain ⟨a, b, d, f⟩ := turnT_like (n := (c.ten n).part) (t := c.ten n) h1 h2
    have e1 : (c'.ten n).turn c'.ws = turnT (c.ten n).part (c.ten n) c'.ws := by rw [e]; rfl
    have key : ∀ m, c'.ten m = c.ten m → fset c'.ten n ((c'.ten n).turn c'.ws).2.1 m = fset c.ten n ((c.ten n).turn c.ws).2.1 m := fun m hm => by
      unfold fset
      split
      · rw [e1]
        exact b
      · exact hm
    obtain ⟨a2, b2, d2, f2⟩ := turnsC_like (ns := ns) (c := { c with ten := fset c.ten n ((c.ten n).turn c.ws).2.1, ws := ((c.ten n).turn c.ws).2.2 }) (c' := { c' with ten := fset c'.ten n ((c'.ten n).turn c'.ws).2.1, ws := ((c'.ten n).turn c'.ws).2.2 })
      (fun m mm => key m (hn m (List.mem_cons_of_mem _ mm))) (fun m mm => key m (h m mm)) (by show ((c'.ten n).turn c'.ws).2.2.feeds = _; rw [e1]; exact d) (by show ((c'.ten n).turn c'.ws).2.2.pages = _; rw [e1]; exact f)
    refine ⟨?_, b2, d2, f2⟩
    show (n, ((c'.ten n).turn c'.ws).1) :: (turnsC ns _).1 = (n, ((c.ten n).turn c.ws).1) :: (turnsC ns _).1
    rw [a2, e1]
    rw [show (turnT (c.ten n).part (c.ten n) c'.ws).1 = ((c.ten n).turn c.ws).1 from a]
theorem Like.turn {c c' : CG} (ok : c.Ok) (ok' : c'.Ok) (h : Like c c') : c'.turn.1 = c.turn.1 ∧ Like c.turn.2 c'.turn.2 := by
  obtain ⟨_, n1, g1, _⟩ := ok.turn
  obtain ⟨_, n2, g2, _⟩ := ok'.turn
  obtain ⟨a, b, d, e⟩ := turnsC_like (ns := srtS c.names) (c := c) (c' := c') (fun n m => h.ten n ((srtS_perm _).mem_iff.mp m)) h.ten h.fd h.pg
  have et : c'.turn = turnsC (srtS c.names) c' := by unfold CG.turn; rw [h.names]
  refine ⟨by rw [et]; exact a, ⟨by rw [g1, g2]; exact h.given, by rw [n1, n2]; exact h.names, fun n m => ?_, by rw [et]; exact d, by rw [et]; exact e⟩⟩
  rw [n1] at m
  rw [et]
  exact b n m
end PL

/-! turns in which nothing is done; tenants that do nothing -/
namespace PL
open DL PySem L2
def pos2 (x : String × Nat) : Bool := decide (0 < x.2)
/-! ### one tenant is another -/
theorem TNum.mono {B B' : Nat} {t : TnS} (hB : B ≤ B') (h : TNum B t) : TNum B' t := ⟨h.cs, h.fuel, h.p1, h.p20, fun x m => by have := h.ct x m; omega, h.s99, h.sr⟩
theorem GOk.mono {g : Prg} {B B' : Nat} {c : CG} (hB : B ≤ B') (h : GOk g B c) : GOk g B' c := ⟨h.ok, ⟨h.num.ws, fun n m => (h.num.ten n m).mono hB⟩, h.given, h.gr, h.within⟩
/-! ### tenants that do nothing are left out -/
end PL

/-! who goes; who is paused -/
namespace PL
open DL PySem L2
theorem Stars.sub {l l' : List Asr} (h : l'.Sublist l) : ∀ {G : DG}, Stars l G → Stars l' G := by
  induction h with
  | slnil => exact fun h => h
  | cons a _ ih => exact fun h => ih h.tail
  | cons_cons a _ ih => exact fun h => Stars.cons (fun _ => ih) h
/-! ### rows of names, sorted and sifted -/
/-! ### who is gone -/
def CG.keep (c : CG) (k : String → Bool) : CG := { c with names := c.names.filter k }
def CG.drop (c : CG) (n : String) : CG := c.keep fun m => decide (m ≠ n)
theorem GOk.keep {g : Prg} {B : Nat} {c : CG} {k : String → Bool} (h : GOk g B c) : GOk g B (c.keep k) := by
  have ms : ∀ n, n ∈ c.names.filter k → n ∈ c.names := fun n m => (List.mem_filter.mp m).1
  exact ⟨⟨fun n m => h.ok.ten n (ms n m), fun n m => h.ok.word n (ms n m), fun n m => h.ok.part n (ms n m), Nat.le_trans (List.length_filter_le _ _) h.ok.eight⟩, ⟨h.num.ws, fun n m => h.num.ten n (ms n m)⟩, h.given, h.gr, fun n m => h.within n (ms n m)⟩
theorem nodup_le : ∀ {as l : List String}, as.Nodup → (∀ x ∈ as, x ∈ l) → as.length ≤ l.length
  | [], l, _, _ => Nat.zero_le _
  | a :: as, l, nd, h => by
    obtain ⟨h1, h2⟩ := List.nodup_cons.mp nd
    have ma := h a List.mem_cons_self
    have := nodup_le (as := as) (l := l.erase a) h2 fun x m => (List.mem_erase_of_ne fun (e : x = a) => h1 (e ▸ m)).mpr (h x (List.mem_cons_of_mem _ m))
    rw [List.length_erase_of_mem ma] at this
    have : 0 < l.length := List.length_pos_of_mem ma
    rw [List.length_cons]
    omega
/-- a comprehension that sifts -/
theorem lcl_fm {α : Type} {g f : α → D} {b : α → Bool} {tg : Tg} {tt : DTT} {te : DTE} {guard I : DG → Prop} {env : DSt} (hg : ∀ G, I G → guard G) : ∀ {l : List α} {G : DG} {Q : List D → DG → Prop}, I G →
    (∀ x ∈ l, ∀ (G : DG) (K1 : D → DG → Prop) (K0 : DG → Prop), I G → (b x = true → ∀ G', I G' → K1 (f x) G') → (b x = false → ∀ G', I G' → K0 G') → dTg tg (g x) env fun env1 => tt EF env1 G fun c G1 => if c = true then te EF env1 G1 K1 else K0 G1) →
    (∀ G', I G' → Q ((l.filter b).map f) G') → dLcL tg tt te guard env (l.map g) G Q
  | [], G, Q, hi, _, k => ⟨hg G hi, k G hi⟩
  | x :: l, G, Q, hi, h, k => by
    refine ⟨hg G hi, ?_⟩
    refine h x List.mem_cons_self G (fun y G2 => dLcL tg tt te guard env (l.map g) G2 fun ys G3 => Q (y :: ys) G3) (fun G1 => dLcL tg tt te guard env (l.map g) G1 Q) hi (fun hb G' hi' => ?_) fun hb G' hi' => ?_
    · refine lcl_fm hg hi' (fun y m => h y (List.mem_cons_of_mem _ m)) fun G3 hi3 => ?_
      have := k G3 hi3
      rw [List.filter_cons_of_pos hb] at this
      exact this
    · refine lcl_fm hg hi' (fun y m => h y (List.mem_cons_of_mem _ m)) fun G3 hi3 => ?_
      have := k G3 hi3
      rw [List.filter_cons_of_neg (by rw [hb]; exact Bool.false_ne_true)] at this
      exact this
/-- a tenant's parts, to be read -/
theorem CageA.core {p : Addr} {c : CG} {F : List Asr} {G : DG} {n : String} (hs : Stars (CageA p c :: F) G) (hn : n ∈ c.names) : ∃ tb w a cc, G p = some (cageO c tb w) ∧ pyItem G (.ref tb) (.str n) = some (.ref a) ∧ G a = some (.ins "Tenant" ((c.ten n).fs cc)) ∧ G cc = some (c.ten n).cs.ob := by
  obtain ⟨tb, w, a, X, hp, hi, h1, _, _⟩ := CageA.ten hs hn
  obtain ⟨cc, h2⟩ := TenA.op h1
  exact ⟨tb, w, a, cc, hp, hi, h2.get 0 rfl, h2.get 1 rfl⟩
/-! ### who has a fault -/
end PL

/-! who waits: the way of a program from a place on; helpers, knots; a turn in which nothing is done -/
namespace PL
open DL PySem L2
inductive RchF (is : List Ins) (x0 : Nat) : Nat → Prop
  | zero : RchF is x0 x0
  | step {x g : Nat} {i : Ins} : RchF is x0 x → is[x]? = some i → g ∈ dueN i x → RchF is x0 g
def Ins.isS (s d : String) : Ins → Bool
  | .ask _ e => decide ("ask" = s) && decide (e = d)
  | .tell _ e => decide ("tell" = s) && decide (e = d)
  | _ => false
def MayC (is : List Ins) (x0 : Nat) (s d : String) : Prop := ∃ x i, RchF is x0 x ∧ is[x]? = some i ∧ i.isS s d = true
open Classical in
noncomputable def mayC (is : List Ins) (x0 : Nat) (s d : String) : Bool := decide (MayC is x0 s d)
open Classical in
theorem mayC_t {is : List Ins} {x0 : Nat} {s d : String} (h : MayC is x0 s d) : mayC is x0 s d = true := by
  unfold mayC
  exact decide_eq_true h
open Classical in
theorem mayC_f {is : List Ins} {x0 : Nat} {s d : String} (h : ¬ MayC is x0 s d) : mayC is x0 s d = false := by
  unfold mayC
  exact decide_eq_false h
/-! the program's way -/
structure InvC (is : List Ins) (x0 : Nat) (s d : String) (fs wk : List Nat) : Prop where
  nd : fs.Nodup
  ok : ∀ x ∈ fs, x < 100 ∧ RchF is x0 x
  wf : ∀ x ∈ wk, x ∈ fs
  cl : ∀ x ∈ fs, x ∈ wk ∨ ∀ i, is[x]? = some i → i.isS s d = false ∧ ∀ g ∈ dueN i x, g ∈ fs
  z : x0 ∈ fs
section
variable {is : List Ins} {x0 h : Nat} {s d : String} {fs wk gs : List Nat} {i : Ins}
theorem InvC.start (hx : x0 < 100) : InvC is x0 s d [x0] [x0] :=
  ⟨by simp, fun x m => by rw [List.mem_singleton.mp m]; exact ⟨hx, .zero⟩, fun _ m => m, fun _ m => .inl m, by simp⟩
theorem InvC.skip (I : InvC is x0 s d fs (wk ++ [h])) (hi : is[h]? = none) : InvC is x0 s d fs wk := by
  refine ⟨I.nd, I.ok, fun x m => I.wf x (by simp [m]), fun x m => ?_, I.z⟩
  rcases I.cl x m with c | c
  · rcases List.mem_append.mp c with c | c
    · exact .inl c
    · refine .inr fun j hj => ?_
      rw [List.mem_singleton.mp c, hi] at hj
      cases hj
  · exact .inr c
theorem InvC.next (I : InvC is x0 s d fs (wk ++ [h])) (hi : is[h]? = some i) (hn : i.isS s d = false) (hg : ∀ g, g ∈ gs ↔ g ∈ dueN i h) (hl : ∀ g ∈ gs, g < 100) : InvC is x0 s d (push 100 gs fs wk).1 (push 100 gs fs wk).2 := by
  have p := pushed 100 gs fs wk
  generalize push 100 gs fs wk = r at p
  have hh : h ∈ fs := I.wf h (by simp)
  refine ⟨p.nd I.nd, fun x m => ?_, fun x m => ?_, fun x m => ?_, p.sub x0 I.z⟩
  · rcases p.new x m with q | ⟨q1, q2, _⟩
    · exact I.ok x q
    · exact ⟨q2, .step (I.ok h hh).2 hi ((hg x).mp q1)⟩
  · rcases p.neww x m with q | q
    · exact p.sub x (I.wf x (by simp [q]))
    · exact q
  · rcases p.new x m with q | ⟨_, _, q3⟩
    · rcases I.cl x q with c | c
      · rcases List.mem_append.mp c with c | c
        · exact .inl (p.subw x c)
        · refine .inr fun j hj => ?_
          rw [List.mem_singleton.mp c] at hj ⊢
          rw [hi] at hj
          cases hj
          exact ⟨hn, fun g mg => p.all g ((hg g).mpr mg) (hl g ((hg g).mpr mg))⟩
      · exact .inr fun j hj => ⟨(c j hj).1, fun g mg => p.sub g ((c j hj).2 g mg)⟩
    · exact .inl q3
theorem InvC.hit (I : InvC is x0 s d fs (wk ++ [h])) (hi : is[h]? = some i) (hn : i.isS s d = true) : mayC is x0 s d = true :=
  mayC_t ⟨h, i, (I.ok h (I.wf h (by simp))).2, hi, hn⟩
theorem InvC.fin (I : InvC is x0 s d fs []) : mayC is x0 s d = false := by
  refine mayC_f ?_
  rintro ⟨x, i, r, hi, hn⟩
  have mem : ∀ {x : Nat}, RchF is x0 x → x ∈ fs := by
    intro x r
    induction r with
    | zero => exact I.z
    | step r hi mg ih =>
      rcases I.cl _ ih with c | c
      · cases c
      · exact (c _ hi).2 _ mg
  rcases I.cl x (mem r) with c | c
  · cases c
  · rw [(c i hi).1] at hn
    cases hn
end
/-! the law's way -/
structure InvD (is : List Ins) (x0 : Nat) (sn wk : List Nat) : Prop where
  nd : sn.Nodup
  ok : ∀ x ∈ sn, x < is.length ∧ RchF is x0 x
  wr : ∀ x ∈ wk, RchF is x0 x
  cl : ∀ x ∈ sn, ∀ i g, is[x]? = some i → g ∈ dueN i x → g < is.length → g ∈ sn ∨ g ∈ wk
  z : x0 < is.length → x0 ∈ sn ∨ x0 ∈ wk
section
variable {is : List Ins} {x0 h : Nat} {s d : String} {sn wk gs : List Nat} {i : Ins}
theorem InvD.start : InvD is x0 [] [x0] :=
  ⟨by simp, fun x m => (by cases m), fun x m => (by rw [List.mem_singleton.mp m]; exact .zero), fun x m => (by cases m), fun _ => .inr (by simp)⟩
theorem InvD.skip (I : InvD is x0 sn (wk ++ [h])) (c : ¬ (h < is.length ∧ h ∉ sn)) : InvD is x0 sn wk := by
  have old : ∀ g, g < is.length → g ∈ sn ∨ g ∈ wk ++ [h] → g ∈ sn ∨ g ∈ wk := fun g lt q => by
    rcases q with q | q
    · exact .inl q
    · rcases List.mem_append.mp q with q | q
      · exact .inr q
      · rw [List.mem_singleton.mp q] at lt ⊢
        by_cases hs : h ∈ sn
        · exact .inl hs
        · exact absurd ⟨lt, hs⟩ c
  exact ⟨I.nd, I.ok, fun x m => I.wr x (by simp [m]), fun x m i g hi mg lt => old g lt (I.cl x m i g hi mg lt), fun lt => old x0 lt (I.z lt)⟩
theorem InvD.next (I : InvD is x0 sn (wk ++ [h])) (c : h < is.length ∧ h ∉ sn) (hi : is[h]? = some i) (hg : ∀ g, g ∈ gs ↔ g ∈ dueN i h) : InvD is x0 (sn ++ [h]) (wk ++ gs) := by
  have rh : RchF is x0 h := I.wr h (by simp)
  have old : ∀ g, g ∈ sn ∨ g ∈ wk ++ [h] → g ∈ sn ++ [h] ∨ g ∈ wk ++ gs := fun g q => by
    rcases q with q | q
    · exact .inl (by simp [q])
    · rcases List.mem_append.mp q with q | q
      · exact .inr (by simp [q])
      · exact .inl (by simp [List.mem_singleton.mp q])
  refine ⟨List.nodup_append.mpr ⟨I.nd, by simp, fun a ha b hb e => ?_⟩, fun x m => ?_, fun x m => ?_, fun x m j g hj mg lt => ?_, fun lt => old x0 (I.z lt)⟩
  · rw [List.mem_singleton.mp hb] at e
    exact c.2 (e ▸ ha)
  · rcases List.mem_append.mp m with q | q
    · exact I.ok x q
    · rw [List.mem_singleton.mp q]
      exact ⟨c.1, rh⟩
  · rcases List.mem_append.mp m with q | q
    · exact I.wr x (by simp [q])
    · exact .step rh hi ((hg x).mp q)
  · rcases List.mem_append.mp m with q | q
    · exact old g (I.cl x q j g hj mg lt)
    · rw [List.mem_singleton.mp q] at hj mg
      rw [hi] at hj
      cases hj
      exact .inr (by simp [(hg g).mpr mg])
theorem InvD.all (I : InvD is x0 sn []) {x : Nat} (r : RchF is x0 x) : x < is.length → x ∈ sn := by
  induction r with
  | zero => exact fun lt => (I.z lt).elim id fun q => by cases q
  | step r hi mg ih =>
    rename_i y g i
    intro lt
    have ly : y < is.length := (List.getElem?_eq_some_iff.mp hi).1
    exact (I.cl y (ih ly) i g hi mg lt).elim id fun q => by cases q
def insAt (is : List Ins) (s d : String) (x : Nat) : Bool := match is[x]? with
  | some i => i.isS s d
  | none => false
theorem InvD.fin (I : InvD is x0 sn []) : (sn.filter (insAt is s d)).isEmpty = !mayC is x0 s d := by
  by_cases c : MayC is x0 s d
  · rw [mayC_t c]
    obtain ⟨x, i, r, hi, hn⟩ := c
    have lx : x < is.length := (List.getElem?_eq_some_iff.mp hi).1
    have m : x ∈ sn.filter (insAt is s d) := List.mem_filter.mpr ⟨I.all r lx, by unfold insAt; rw [hi]; exact hn⟩
    cases e : sn.filter (insAt is s d) with
    | nil => rw [e] at m; cases m
    | cons _ _ => rfl
  · rw [mayC_f c]
    cases e : sn.filter (insAt is s d) with
    | nil => rfl
    | cons x l =>
      have m : x ∈ sn.filter (insAt is s d) := by rw [e]; exact List.mem_cons_self
      obtain ⟨m1, m2⟩ := List.mem_filter.mp m
      unfold insAt at m2
      split at m2
      · rename_i i hi
        exact absurd ⟨x, i, (I.ok x m1).2, hi, m2⟩ c
      · cases m2
end
/-! what a waiting tenant waits for, who helps -/
def insW : Ins → String × String
  | .ask _ d => ("ask", d)
  | .tell _ d => ("tell", d)
  | _ => ("", "")
def TnS.wait (t : TnS) : String × String := match t.cs.prog[t.cs.spot]? with
  | some i => insW i
  | none => ("", "")
/-! a turn in which nothing is done -/
def TnS.act (t : TnS) (w : WS) : Bool := t.may && (stepM (some 50) t.cs w).1
end PL

/-! rights narrowed; a turn of one alone -/
namespace PL
open DL PySem L2
def rowM (a b : List String) : List String := a.filter fun w => decide (w ∈ b)
def metP (a b : Prg) : Prg := { a with room := min a.room b.room, asks := rowM a.asks b.asks, tells := rowM a.tells b.tells, looks := rowM a.looks b.looks, marks := rowM a.marks b.marks }
theorem rights_rows {p : Prg} (h : isRights p.rD = true) : p.room ≤ 60 ∧ isRow (tupS p.asks) = true ∧ isRow (tupS p.tells) = true ∧ isRow (tupS p.looks) = true ∧ isRow (tupS p.marks) = true := by
  obtain ⟨i, a, b, c, d, e, h0, h60, ha, hb, hc, hd⟩ := isRights_cases h
  injection e with e
  simp only [List.cons.injEq, and_true] at e
  obtain ⟨e0, e1, e2, e3, e4⟩ := e
  rw [e1, e2, e3, e4]
  refine ⟨?_, ha, hb, hc, hd⟩
  injection e0 with e0
  omega
theorem rights_mk {p : Prg} (h0 : p.room ≤ 60) (h1 : isRow (tupS p.asks) = true) (h2 : isRow (tupS p.tells) = true) (h3 : isRow (tupS p.looks) = true) (h4 : isRow (tupS p.marks) = true) : isRights p.rD = true := by
  show (decide (4 = 4) && inR 0 60 (nD p.room) && (isRow (tupS p.asks) && (isRow (tupS p.tells) && (isRow (tupS p.looks) && (isRow (tupS p.marks) && true))))) = true
  rw [h1, h2, h3, h4]
  simp [inR]
  omega
/-! the law's own steps -/
/-! worlds that are alike at what a core may use -/
end PL

/-! places at which tenants are held; what stands in a cage; texts cut off -/
namespace PL
open DL PySem L2
def TnS.free (t : TnS) (k : Nat) : TnS := { t with stops := t.stops.filter fun x => decide (x ≠ k) }
theorem free_ok {t : TnS} {k : Nat} (ok : t.Ok) : (t.free k).Ok := ⟨ok.cs, ok.prg, Nat.le_trans (List.length_filter_le _ _) ok.stops⟩
/-! what stands in a cage -/
structure BoxL (c : CG) (l : List String) : Prop where
  mem : ∀ d, d ∈ l ↔ c.ws.feeds d ≠ []
  nd : l.Nodup
  so : srtS l = l
  wd : ∀ d ∈ l, wordS d = true
structure PagL (c : CG) (l : List String) : Prop where
  mem : ∀ d, d ∈ l ↔ c.ws.pages d ≠ zero10
  nd : l.Nodup
  so : srtS l = l
  wd : ∀ d ∈ l, wordS d = true
theorem nodup_perm {l m : List String} (h1 : l.Nodup) (h2 : m.Nodup) (h : ∀ d, d ∈ l ↔ d ∈ m) : l.Perm m := perm_of h1 h2 h
theorem BoxL.eq {c c' : CG} {l l' : List String} (h : BoxL c l) (h' : BoxL c' l') (e : c'.ws.feeds = c.ws.feeds) : l' = l := by
  have p : l'.Perm l := nodup_perm h'.nd h.nd fun d => by rw [h'.mem, h.mem, e]
  rw [← h'.so, ← h.so, srtS_eq p]
theorem PagL.eq {c c' : CG} {l l' : List String} (h : PagL c l) (h' : PagL c' l') (e : c'.ws.pages = c.ws.pages) : l' = l := by
  have p : l'.Perm l := nodup_perm h'.nd h.nd fun d => by rw [h'.mem, h.mem, e]
  rw [← h'.so, ← h.so, srtS_eq p]
/-! texts cut off -/
end PL

/-! sorted sets of numbers; a cage with one tenant -/
namespace PL
open DL PySem L2
end PL

/-! those that tell one number again and again -/
namespace PL
open DL PySem L2
def T4 (c : CS) : Int := c.count.getD 4 0
/-! a cage of such ones -/
def tot (al : List String) (f : String → TnS) : Int := (al.map fun n => T4 (f n).cs).sum
end PL

/-! entries of a log -/
namespace PL
open DL PySem L2
def names3 : List String := ["ann", "bob", "cy"]
inductive Ent where
  | letIn (n : String) (pr : Prg) (fu pa : Nat)
  | letGo (n : String)
  | feed (d : String) (l : List Int)
  | drain (d : String)
  | turn
def Ent.toD : Ent → D
  | .letIn n pr fu pa => .tup [.str "let_in", .str n, pr.pD, pr.rD, nD fu, nD pa]
  | .letGo n => .tup [.str "let_go", .str n]
  | .feed d l => .tup [.str "feed", .str d, tupI l]
  | .drain d => .tup [.str "drain", .str d]
  | .turn => .tup [.str "turn"]
def Ent.Ok : Ent → Prop
  | .letIn n pr fu pa => n ∈ names3 ∧ pr.Ok ∧ pr.Within allP ∧ fu ≤ 60 ∧ pa ≤ 20
  | .letGo n => n ∈ names3
  | .feed d l => wordS d = true ∧ l.length ≤ 50 ∧ ∀ x ∈ l, Num x
  | .drain d => wordS d = true
  | .turn => True
theorem names3_w {n : String} (h : n ∈ names3) : wordS n = true := by
  simp only [names3, List.mem_cons, List.not_mem_nil, or_false] at h
  rcases h with rfl | rfl | rfl <;> decide
/-- what an entry does: its refusal, and the cage then -/
def Ent.run (c : CG) : Ent → Option String × CG
  | .letIn n pr fu pa => if n ∈ c.names then (some "Taken", c) else if pa = 0 then (some "BadNumber", c) else (none, { c with names := c.names ++ [n], ten := fset c.ten n (pr.ten fu pa) })
  | .letGo n => if n ∈ c.names then (none, c.drop n) else (some "NoName", c)
  | .feed d l => if (c.ws.feeds d).length + l.length ≤ 50 then (none, { c with ws := { c.ws with feeds := fset c.ws.feeds d (c.ws.feeds d ++ l), sz := c.ws.sz + 50 } }) else (some "Nothing", c)
  | .drain d => (none, { c with ws := { c.ws with feeds := fset c.ws.feeds d [], sz := c.ws.sz + 1 } })
  | .turn => (none, c.turn.2)
/-- what it tells, and what stands then besides -/
def Ent.ret (c : CG) : Ent → D → List Asr → Prop
  | .drain d => fun r R => ∃ b, r = .ref b ∧ R = [pt b (.lst (lstI (c.ws.feeds d)))]
  | .turn => fun r R => r = .lst (didD (c.turn.1.filter fun x => decide (0 < x.2))) ∧ R = []
  | _ => fun r R => r = .non ∧ R = []
structure Lok (c : CG) : Prop where
  go : GOk allP 60 c
  nd : c.names.Nodup
  nm : ∀ n ∈ c.names, n ∈ names3
theorem Lok.len {c : CG} (h : Lok c) : c.names.length ≤ 3 := nodup_le h.nd h.nm
theorem Lok.start (hr : isRights allP.rD = true) : Lok (cg0 allP.rD) := ⟨GOk.cg0 hr, List.nodup_nil, fun n m => by cases m⟩
theorem GOk.drain {g : Prg} {B k : Nat} {c : CG} {d : String} (h : GOk g B c) : GOk g B { c with ws := { c.ws with feeds := fset c.ws.feeds d [], sz := c.ws.sz + k } } := by
  have nw := h.num.ws
  refine ⟨⟨h.ok.ten, h.ok.word, h.ok.part, h.ok.eight⟩, ⟨⟨fun e x mx => ?_, fun e => ?_, nw.pg, nw.pl⟩, h.num.ten⟩, h.given, h.gr, h.within⟩
  · have mx : x ∈ fset c.ws.feeds d [] e := mx
    unfold fset at mx
    split at mx
    · cases mx
    · exact nw.fd e x mx
  · show (fset c.ws.feeds d [] e).length ≤ 50
    unfold fset
    split
    · exact Nat.zero_le _
    · exact nw.fl e
theorem Lok.run {c : CG} {e : Ent} (h : Lok c) (he : e.Ok) : Lok (e.run c).2 ∧ (e.run c).2.ws.sz ≤ c.ws.sz + 200 := by
  have l3 := h.len
  cases e with
  | letIn n pr fu pa =>
    obtain ⟨hn, hp, hw, hf, h20⟩ := he
    unfold Ent.run
    dsimp only
    split
    · exact ⟨h, by show c.ws.sz ≤ c.ws.sz + 200; omega⟩
    · rename_i nin
      split
      · exact ⟨h, by show c.ws.sz ≤ c.ws.sz + 200; omega⟩
      · rename_i p0
        refine ⟨⟨h.go.let_in hp hw (by omega) (names3_w hn) (by omega) (by omega) h20 hf, ?_, fun m mm => ?_⟩, by show c.ws.sz ≤ _; omega⟩
        · show (c.names ++ [n]).Nodup
          refine List.nodup_append.mpr ⟨h.nd, by simp, fun x hx y hy e => ?_⟩
          rw [List.mem_singleton.mp hy] at e
          exact nin (e ▸ hx)
        · rcases List.mem_append.mp mm with mm | mm
          · exact h.nm m mm
          · rw [List.mem_singleton.mp mm]
            exact hn
  | letGo n =>
    unfold Ent.run
    dsimp only
    split
    · exact ⟨⟨h.go.keep, h.nd.sublist List.filter_sublist, fun m mm => h.nm m (List.mem_filter.mp mm).1⟩, by show c.ws.sz ≤ _; omega⟩
    · exact ⟨h, by show c.ws.sz ≤ c.ws.sz + 200; omega⟩
  | feed d l =>
    obtain ⟨_, hl, hx⟩ := he
    unfold Ent.run
    dsimp only
    split
    · rename_i h50
      exact ⟨⟨h.go.feed h50 hx, h.nd, h.nm⟩, by show c.ws.sz + 50 ≤ _; omega⟩
    · exact ⟨h, by show c.ws.sz ≤ c.ws.sz + 200; omega⟩
  | drain d => exact ⟨⟨h.go.drain, h.nd, h.nm⟩, by show c.ws.sz + 1 ≤ _; omega⟩
  | turn =>
    obtain ⟨_, nm, _, z⟩ := h.go.ok.turn
    refine ⟨⟨h.go.turn, ?_, ?_⟩, by show c.turn.2.ws.sz ≤ _; omega⟩
    · show c.turn.2.names.Nodup
      rw [nm]
      exact h.nd
    · show ∀ n ∈ c.turn.2.names, n ∈ names3
      rw [nm]
      exact h.nm
end PL

/-! doors that nobody has stay as they are; comparisons -/
namespace PL
open DL PySem L2
/-! comparisons -/
end PL

/-! loans: the plain model of a bank -/
namespace PL
open DL PySem L2
/-! ### rows of texts, rights: compared -/
structure Rw where
  g : String
  t : String
  s : String
  w : String
deriving DecidableEq
def Rw.toD (r : Rw) : D := .tup [.str r.g, .str r.t, .str r.s, .str r.w]
theorem eqvS {a b : String} : PyData.eqv (.str (S a)) (.str (S b)) = decide (a = b) := by
  show decide (S a = S b) = _
  exact S_dec a b
theorem eqvSs : ∀ {l m : List String}, PyData.eqvAll (l.map fun s => .str (S s)) (m.map fun s => .str (S s)) = decide (l = m)
  | [], [] => rfl
  | [], _ :: _ => by rw [decide_eq_false (by simp)]; rfl
  | _ :: _, [] => by rw [decide_eq_false (by simp)]; rfl
  | a :: l, b :: m => by
    show (PyData.eqv (.str (S a)) (.str (S b)) && PyData.eqvAll (l.map fun s => .str (S s)) (m.map fun s => .str (S s))) = _
    rw [eqvS, eqvSs]
    by_cases h : a = b
    · by_cases h2 : l = m
      · simp [h, h2]
      · simp [h2]
    · simp [h]
theorem mapO_strs {G : DG} {n : Nat} : ∀ l : List String, mapO (toPy G n) (l.map .str) = some (l.map fun s => .str (S s))
  | [] => rfl
  | x :: l => by
    have ih := mapO_strs (G := G) (n := n) l
    rw [List.map_cons]
    unfold mapO
    rw [ih, show toPy G n (D.str x) = some (.str (S x)) by cases n <;> rfl]
    rfl
theorem toPy_tupS {G : DG} {n : Nat} (l : List String) : toPy G (n + 1) (tupS l) = some (.tuple (l.map fun s => .str (S s))) := by
  show (mapO (toPy G n) (l.map .str)).map PyData.tuple = _
  rw [mapO_strs]
  rfl
def Rw.l (r : Rw) : List String := [r.g, r.t, r.s, r.w]
theorem Rw.l_inj {a b : Rw} : a.l = b.l ↔ a = b := by
  constructor
  · intro h
    cases a
    cases b
    unfold Rw.l at h
    simp at h
    obtain ⟨h1, h2, h3, h4⟩ := h
    rw [h1, h2, h3, h4]
  · intro h
    rw [h]
/-! ### rights -/
structure Rt where
  room : Nat
  asks : List String
  tells : List String
  looks : List String
  marks : List String
deriving DecidableEq
def Rt.rD (r : Rt) : D := .tup [nD r.room, tupS r.asks, tupS r.tells, tupS r.looks, tupS r.marks]
def Rt.row (r : Rt) (s : String) : List String := if s = "ask" then r.asks else if s = "tell" then r.tells else if s = "look" then r.looks else r.marks
theorem ne_rt {G : DG} {a b : Rt} : pyNe G a.rD b.rD = some (.bl (!decide (a = b))) := by
  have e : pyEqB G a.rD b.rD = (match toPy G 40 a.rD, toPy G 40 b.rD with | some d, some e => some (PyData.eqv d e) | _, _ => none) := rfl
  have key : ∀ r : Rt, toPy G 40 r.rD = some (.tuple [.int r.room, .tuple (r.asks.map fun s => .str (S s)), .tuple (r.tells.map fun s => .str (S s)), .tuple (r.looks.map fun s => .str (S s)), .tuple (r.marks.map fun s => .str (S s))]) := fun r => by
    show (mapO (toPy G 39) [nD r.room, tupS r.asks, tupS r.tells, tupS r.looks, tupS r.marks]).map PyData.tuple = _
    simp only [mapO, toPy_tupS]
    rfl
  unfold pyNe
  rw [e, key, key]
  have ev : PyData.eqv (.tuple [.int a.room, .tuple (a.asks.map fun s => .str (S s)), .tuple (a.tells.map fun s => .str (S s)), .tuple (a.looks.map fun s => .str (S s)), .tuple (a.marks.map fun s => .str (S s))]) (.tuple [.int b.room, .tuple (b.asks.map fun s => .str (S s)), .tuple (b.tells.map fun s => .str (S s)), .tuple (b.looks.map fun s => .str (S s)), .tuple (b.marks.map fun s => .str (S s))]) = decide (a = b) := by
    show (PyData.eqv (.int a.room) (.int b.room) && (PyData.eqvAll (a.asks.map fun s => .str (S s)) (b.asks.map fun s => .str (S s)) && (PyData.eqvAll (a.tells.map fun s => .str (S s)) (b.tells.map fun s => .str (S s)) && (PyData.eqvAll (a.looks.map fun s => .str (S s)) (b.looks.map fun s => .str (S s)) && (PyData.eqvAll (a.marks.map fun s => .str (S s)) (b.marks.map fun s => .str (S s)) && true))))) = _
    rw [eqvSs, eqvSs, eqvSs, eqvSs]
    have e0 : PyData.eqv (.int a.room) (.int b.room) = decide (a.room = b.room) := by
      show decide ((a.room : Int) = (b.room : Int)) = _
      exact decide_eq_decide.mpr (by omega)
    rw [e0]
    obtain ⟨a0, a1, a2, a3, a4⟩ := a
    obtain ⟨b0, b1, b2, b3, b4⟩ := b
    rw [Bool.eq_iff_iff]
    simp
  show (some (PyData.eqv _ _)).map _ = _
  rw [ev]
  rfl
end PL

/-! what a program needs: the words of the places that it comes to -/
namespace PL
open DL PySem L2
def wordsF (w : String) (js : List Ins) : List String := js.filterMap (wordsI w)
def keepF (w : String) (pool : List String) (js : List Ins) : List String := pool.filter fun d => decide (d ∈ wordsF w js)
/-- what is needed -/
def needP (is : List Ins) (room : Nat) (js : List Ins) : Prg := ⟨is, room, keepF "ask" doors3 js, keepF "tell" doors3 js, keepF "look" sheets2 js, keepF "mark" sheets2 js⟩
theorem row3 (p : String → Bool) : isRow (tupS (doors3.filter p)) = true := by
  unfold doors3
  simp only [List.filter_cons, List.filter_nil]
  cases p "bus" <;> cases p "in" <;> cases p "out" <;> decide
theorem row2 (p : String → Bool) : isRow (tupS (sheets2.filter p)) = true := by
  unfold sheets2
  simp only [List.filter_cons, List.filter_nil]
  cases p "log" <;> cases p "sky" <;> decide
theorem need_rights {is js : List Ins} {room : Nat} (hr : room ≤ 60) : isRights (needP is room js).rD = true := by
  have r1 := row3 fun d => decide (d ∈ wordsF "ask" js)
  have r2 := row3 fun d => decide (d ∈ wordsF "tell" js)
  have r3 := row2 fun d => decide (d ∈ wordsF "look" js)
  have r4 := row2 fun d => decide (d ∈ wordsF "mark" js)
  have r0 : inR 0 60 (nD room) = true := by
    show (decide ((0 : Int) ≤ (room : Int)) && decide ((room : Int) ≤ 60)) = true
    rw [decide_eq_true (by omega), decide_eq_true (by omega)]
    rfl
  show (decide _ && inR 0 60 (nD room) && (isRow _ && (isRow _ && (isRow _ && (isRow _ && true))))) = true
  rw [r0]
  show (true && true && (isRow (tupS (keepF "ask" doors3 js)) && (isRow (tupS (keepF "tell" doors3 js)) && (isRow (tupS (keepF "look" sheets2 js)) && (isRow (tupS (keepF "mark" sheets2 js)) && true))))) = true
  unfold keepF
  rw [r1, r2, r3, r4]
  rfl
/-! ### rights do not matter where they suffice -/
def rok (c : CS) : Ins → Prop
  | .ask _ d => d ∈ c.asks
  | .tell _ d => d ∈ c.tells
  | .look _ _ p => p ∈ c.looks
  | .mark _ _ p => p ∈ c.marks
  | _ => True
theorem step_rows {full : Option Nat} {c : CS} {w : WS} : (stepM full c w).2.1.prog = c.prog ∧ (stepM full c w).2.1.asks = c.asks ∧ (stepM full c w).2.1.tells = c.tells ∧ (stepM full c w).2.1.looks = c.looks ∧ (stepM full c w).2.1.marks = c.marks := by
  unfold stepM
  split
  · exact ⟨rfl, rfl, rfl, rfl, rfl⟩
  · rename_i i hi
    split
    · exact ⟨rfl, rfl, rfl, rfl, rfl⟩
    · split
      · exact ⟨rfl, rfl, rfl, rfl, rfl⟩
      · cases i <;> exact ⟨rfl, rfl, rfl, rfl, rfl⟩
/-- the rights suffice wherever it comes -/
def Suff (c : CS) : Prop := ∀ x i, Reach c.prog x → c.prog[x]? = some i → rok c i
theorem Suff.step {full : Option Nat} {c : CS} {w : WS} (h : Suff c) : Suff (stepM full c w).2.1 := by
  obtain ⟨e1, e2, e3, e4, e5⟩ := step_rows (full := full) (c := c) (w := w)
  intro x i r hi
  rw [e1] at r hi
  have := h x i r hi
  cases i <;> first | exact trivial | skip
  all_goals
    unfold rok at this ⊢
    dsimp only at this ⊢
    first | (rw [e2]; exact this) | (rw [e3]; exact this) | (rw [e4]; exact this) | (rw [e5]; exact this)
end PL

/-! k03: rights as room and words of sorts -/
namespace PL
open PySem PySem.Spec PyProof.Rows L2 DL
structure Wd where
  s : String
  w : String
deriving DecidableEq
def Wd.l (x : Wd) : List String := [x.s, x.w]
def Wd.toD (x : Wd) : D := tupS x.l
def unsW : List Wd := [⟨"ask", "bus"⟩, ⟨"ask", "in"⟩, ⟨"ask", "out"⟩, ⟨"tell", "bus"⟩, ⟨"tell", "in"⟩, ⟨"tell", "out"⟩, ⟨"look", "log"⟩, ⟨"look", "sky"⟩, ⟨"mark", "log"⟩, ⟨"mark", "sky"⟩]
def allW : List Wd := [⟨"ask", "bus"⟩, ⟨"ask", "in"⟩, ⟨"ask", "out"⟩, ⟨"look", "log"⟩, ⟨"look", "sky"⟩, ⟨"mark", "log"⟩, ⟨"mark", "sky"⟩, ⟨"tell", "bus"⟩, ⟨"tell", "in"⟩, ⟨"tell", "out"⟩]
theorem uns_perm : unsW.Perm allW := by decide
theorem Wd.l_inj {a b : Wd} : a.l = b.l ↔ a = b := by
  constructor
  · intro h
    cases a
    cases b
    unfold Wd.l at h
    simp at h
    rw [h.1, h.2]
  · intro h
    rw [h]
abbrev roomD (n : Nat) : D := .tup [.str "room", nD n]
theorem sorts_w : ∀ w ∈ allW, w.s ≠ "room" := by decide
/-- words, or a room -/
def IsW (x : D) : Prop := (∃ w ∈ allW, x = w.toD) ∨ ∃ n : Nat, x = roomD n
theorem mix_ws {xs : List D} (h : ∀ x ∈ xs, IsW x) : mixD xs = true := by
  have at' : ∀ x ∈ xs, ∃ p, pairD x = some p ∧ p.2 = decide (p.1 = "room") := fun x m => by
    rcases h x m with ⟨w, mw, rfl⟩ | ⟨n, rfl⟩
    · exact ⟨(w.s, false), rfl, (decide_eq_false (sorts_w w mw)).symm⟩
    · exact ⟨("room", true), rfl, rfl⟩
  refine List.all_eq_true.mpr fun x m => ?_
  obtain ⟨p, e, hp⟩ := at' x m
  rw [e]
  refine List.all_eq_true.mpr fun y m' => ?_
  obtain ⟨q, e', hq⟩ := at' y m'
  rw [e']
  exact decide_eq_true fun z => by rw [hp, hq, z]
theorem ok_ws {xs : List D} (h : ∀ x ∈ xs, IsW x) : okD 40 (.lst xs) = true := by
  show xs.all (okD 39) = true
  refine List.all_eq_true.mpr fun x m => ?_
  rcases h x m with ⟨w, mw, rfl⟩ | ⟨n, rfl⟩
  · exact (by decide : ∀ w ∈ allW, okD 39 w.toD = true) w mw
  · rfl
theorem sortX_eq {xs ys : List D} (p : xs.Perm ys) (h : ∀ x ∈ xs, IsW x) : sortD xs = sortD ys := by
  have c := cmp_mix (mix_ws h)
  have c2 := cmp_mix (mix_ws (xs := ys) fun y m => h y (p.mem_iff.mpr m))
  exact rise_eqC (((sortD_perm xs).trans p).trans (sortD_perm ys).symm) (fun x m y m' => (c x ((sortD_perm xs).mem_iff.mp m) y ((sortD_perm xs).mem_iff.mp m')).1) (sortD_riseC fun x m y m' => (c x m y m').1) (sortD_riseC fun x m y m' => (c2 x m y m').1)
theorem sort_w {xs : List D} (h : ∀ x ∈ xs, IsW x) : ∀ x ∈ sortD xs, IsW x := fun x m => h x ((sortD_perm xs).mem_iff.mp m)
structure R4 where
  room : Nat
  h : Wd → Bool
def R4.pr (r : R4) : Prg := ⟨[], r.room, doors3.filter fun w => r.h ⟨"ask", w⟩, doors3.filter fun w => r.h ⟨"tell", w⟩, sheets2.filter fun w => r.h ⟨"look", w⟩, sheets2.filter fun w => r.h ⟨"mark", w⟩⟩
abbrev R4.D (r : R4) : D := r.pr.rD
def hasU (r : R4) : List D := (unsW.filter r.h).map Wd.toD
def hasS (r : R4) : List D := (allW.filter r.h).map Wd.toD
theorem hasS_w {r : R4} : ∀ x ∈ hasS r, IsW x := fun x m => by
  obtain ⟨w, mw, rfl⟩ := List.mem_map.mp m
  exact .inl ⟨w, (List.mem_filter.mp mw).1, rfl⟩
theorem hasU_w {r : R4} : ∀ x ∈ hasU r, IsW x := fun x m => by
  obtain ⟨w, mw, rfl⟩ := List.mem_map.mp m
  exact .inl ⟨w, uns_perm.mem_iff.mp (List.mem_filter.mp mw).1, rfl⟩
theorem rise_all : Rise (allW.map Wd.toD) := by
  unfold Rise
  decide +kernel
theorem rise_has (p : Wd → Bool) : Rise ((allW.filter p).map Wd.toD) := List.Pairwise.sublist (List.Sublist.map _ List.filter_sublist) rise_all
theorem sort_hasU (r : R4) : sortD (hasU r) = hasS r := by
  have c := cmp_mix (mix_ws (hasU_w (r := r)))
  refine rise_eqC ?_ (fun x m y m' => (c x ((sortD_perm _).mem_iff.mp m) y ((sortD_perm _).mem_iff.mp m')).1) (sortD_riseC fun x m y m' => (c x m y m').1) (rise_has _)
  exact (sortD_perm _).trans ((uns_perm.filter _).map _)
theorem hom_w {xs : List D} (h : ∀ x ∈ xs, ∃ w : Wd, x = w.toD) : homD xs = true := homD_of (l := [false, false, false]) fun x m => by
  obtain ⟨w, rfl⟩ := h x m
  rfl
theorem hom_hasU (r : R4) : homD (hasU r) = true := hom_w fun x m => by
  obtain ⟨w, _, rfl⟩ := List.mem_map.mp m
  exact ⟨w, rfl⟩
/-! ### what one has and the other has not -/
def excU (r s : R4) : List D := (if s.room < r.room then [roomD r.room] else []) ++ (unsW.filter fun w => r.h w && !s.h w).map Wd.toD
def excS (r s : R4) : List D := sortD (excU r s)
theorem excU_w {r s : R4} : ∀ x ∈ excU r s, IsW x := fun x m => by
  rcases List.mem_append.mp m with m | m
  · split at m
    · exact .inr ⟨_, List.mem_singleton.mp m⟩
    · cases m
  · obtain ⟨w, mw, rfl⟩ := List.mem_map.mp m
    exact .inl ⟨w, uns_perm.mem_iff.mp (List.mem_filter.mp mw).1, rfl⟩
def winB (r s : R4) : Bool := (excS r s).isEmpty
theorem sortD_len (xs : List D) : (sortD xs).length = xs.length := (sortD_perm xs).length_eq
theorem win_iff {r s : R4} : winB r s = true ↔ r.room ≤ s.room ∧ ∀ w ∈ unsW, r.h w = true → s.h w = true := by
  have e1 : winB r s = true ↔ excU r s = [] := by
    unfold winB excS
    rw [List.isEmpty_iff]
    constructor
    · intro h
      have z := sortD_len (excU r s)
      rw [h] at z
      exact List.eq_nil_of_length_eq_zero z.symm
    · intro h
      rw [h]
      rfl
  rw [e1]
  unfold excU
  rw [List.append_eq_nil_iff, List.map_eq_nil_iff, List.filter_eq_nil_iff]
  constructor
  · rintro ⟨h1, h2⟩
    refine ⟨?_, fun w m e => ?_⟩
    · by_cases c : s.room < r.room
      · rw [if_pos c] at h1
        cases h1
      · omega
    · have z := h2 w m
      rw [e] at z
      simpa using z
  · rintro ⟨h1, h2⟩
    refine ⟨if_neg (by omega), fun w m => ?_⟩
    cases e : r.h w
    · simp
    · rw [h2 w m e]
      simp
def metR (r s : R4) : R4 := ⟨min r.room s.room, fun w => r.h w && s.h w⟩
def joinR (r s : R4) : R4 := ⟨max r.room s.room, fun w => r.h w || s.h w⟩
theorem rowM_f (pool : List String) (p q : String → Bool) : rowM (pool.filter p) (pool.filter q) = pool.filter fun w => p w && q w := by
  unfold rowM
  rw [List.filter_filter]
  refine List.filter_congr fun w m => ?_
  cases e1 : p w <;> cases e2 : q w <;> simp [m, e1, e2]
theorem met_pr (r s : R4) : (metP r.pr s.pr).rD = (metR r s).D := by
  show D.tup [nD (min r.room s.room), tupS (rowM _ _), tupS (rowM _ _), tupS (rowM _ _), tupS (rowM _ _)] = _
  simp only [R4.pr, rowM_f]
  rfl
theorem rowf3 (p : String → Bool) : isRow (tupS (doors3.filter p)) = true := by
  unfold doors3
  simp only [List.filter_cons, List.filter_nil]
  cases p "bus" <;> cases p "in" <;> cases p "out" <;> decide +kernel
theorem rowf2 (p : String → Bool) : isRow (tupS (sheets2.filter p)) = true := by
  unfold sheets2
  simp only [List.filter_cons, List.filter_nil]
  cases p "log" <;> cases p "sky" <;> decide +kernel
theorem R4.ok {r : R4} (h : r.room ≤ 60) : isRights r.D = true := rights_mk (p := r.pr) h (rowf3 fun w => r.h ⟨"ask", w⟩) (rowf3 fun w => r.h ⟨"tell", w⟩) (rowf2 fun w => r.h ⟨"look", w⟩) (rowf2 fun w => r.h ⟨"mark", w⟩)
theorem jn3 {G : DG} (p q : String → Bool) : pySortedSet G [.tup ((doors3.filter p).map D.str ++ (doors3.filter q).map .str)] = some (.lst ((doors3.filter fun w => p w || q w).map .str)) := by
  unfold doors3
  simp only [List.filter_cons, List.filter_nil]
  cases p "bus" <;> cases p "in" <;> cases p "out" <;> cases q "bus" <;> cases q "in" <;> cases q "out" <;> rfl
theorem jn2 {G : DG} (p q : String → Bool) : pySortedSet G [.tup ((sheets2.filter p).map D.str ++ (sheets2.filter q).map .str)] = some (.lst ((sheets2.filter fun w => p w || q w).map .str)) := by
  unfold sheets2
  simp only [List.filter_cons, List.filter_nil]
  cases p "log" <;> cases p "sky" <;> cases q "log" <;> cases q "sky" <;> rfl
/-! ### the law's own sets -/
theorem mapO_wd {G : DG} {n : Nat} : ∀ rs : List Wd, mapO (toPy G (n + 1)) (rs.map Wd.toD) = some (rs.map fun r => .tuple (r.l.map fun s => .str (S s)))
  | [] => rfl
  | r :: rs => by
    have ih := mapO_wd (G := G) (n := n) rs
    rw [List.map_cons]
    unfold mapO
    rw [ih, show toPy G (n + 1) r.toD = some (.tuple (r.l.map fun s => .str (S s))) from toPy_tupS r.l]
    rfl
theorem in_wds {G : DG} {r : Wd} {rs : List Wd} : pyInTB G r.toD (.lst (rs.map Wd.toD)) = some (decide (r ∈ rs)) := by
  unfold pyInTB
  have e1 : toPy G 40 r.toD = some (.tuple (r.l.map fun s => .str (S s))) := toPy_tupS r.l
  have e2 : toPy G 40 (.lst (rs.map Wd.toD)) = some (.list (rs.map fun r => .tuple (r.l.map fun s => .str (S s)))) := by
    show (mapO (toPy G 39) (rs.map Wd.toD)).map PyData.list = _
    rw [mapO_wd]
    rfl
  rw [e1, e2]
  show some ((rs.map fun r => PyData.tuple (r.l.map fun s => .str (S s))).any fun z => PyData.eqv z (.tuple (r.l.map fun s => .str (S s)))) = _
  congr 1
  rw [List.any_map, Bool.eq_iff_iff, List.any_eq_true, decide_eq_true_eq]
  have key : ∀ x : Wd, PyData.eqv (.tuple (x.l.map fun s => .str (S s))) (.tuple (r.l.map fun s => .str (S s))) = decide (x = r) := fun x => by
    show PyData.eqvAll (x.l.map fun s => .str (S s)) (r.l.map fun s => .str (S s)) = _
    rw [eqvSs]
    exact decide_eq_decide.mpr Wd.l_inj
  constructor
  · rintro ⟨x, mx, e⟩
    have e := (key x).symm.trans e
    rw [← of_decide_eq_true e]
    exact mx
  · intro m
    exact ⟨r, m, (key r).trans (decide_eq_true rfl)⟩
theorem in_has {G : DG} {w : Wd} {s : R4} (m : w ∈ allW) : pyInT G w.toD (.lst (hasS s)) = some (.bl (s.h w)) := by
  unfold pyInT hasS
  rw [in_wds]
  show some (D.bl (decide (w ∈ allW.filter s.h))) = _
  congr 2
  cases e : s.h w <;> simp [m, e]
theorem notin_has {G : DG} {w : Wd} {s : R4} (m : w ∈ allW) : pyNotInT G w.toD (.lst (hasS s)) = some (.bl (!s.h w)) := by
  unfold pyNotInT hasS
  rw [in_wds]
  show some (D.bl (!decide (w ∈ allW.filter s.h))) = _
  congr 2
  cases e : s.h w <;> simp [m, e]
def excL (r s : R4) : List D := (allW.filter fun w => r.h w && !s.h w).map Wd.toD ++ (if s.room < r.room then [roomD r.room] else [])
theorem exc_perm (r s : R4) : (excL r s).Perm (excU r s) := (List.perm_append_comm).trans (List.Perm.append_left _ ((uns_perm.filter _).map _).symm)
theorem excL_w {r s : R4} : ∀ x ∈ excL r s, IsW x := fun x m => excU_w x ((exc_perm r s).mem_iff.mp m)
theorem excL_s (r s : R4) : sortD (excL r s) = excS r s := sortX_eq (exc_perm r s) excL_w
theorem wd_inj {a b : Wd} (h : a.toD = b.toD) : a = b := by
  refine Wd.l_inj.mp (strs_inj ?_)
  exact D.tup.inj h
theorem okN_w (w : Wd) : okN w.toD = true := by
  show (match nkD (.tup [.str w.s, .str w.w]) with | some k => decide (k.depth ≤ 8) | none => false) = true
  rfl
theorem set_has {G : DG} (r s : R4) : pySortedSetN G [.lst (hasS r ++ hasS s)] = some (.lst (hasS (joinR r s))) := by
  have inw : ∀ x ∈ hasS r ++ hasS s, ∃ w ∈ allW, x = w.toD ∧ (r.h w || s.h w) = true := fun x m => by
    rcases List.mem_append.mp m with m | m
    · obtain ⟨w, mw, rfl⟩ := List.mem_map.mp m
      obtain ⟨m1, m2⟩ := List.mem_filter.mp mw
      exact ⟨w, m1, rfl, by rw [m2]; rfl⟩
    · obtain ⟨w, mw, rfl⟩ := List.mem_map.mp m
      obtain ⟨m1, m2⟩ := List.mem_filter.mp mw
      exact ⟨w, m1, rfl, by rw [m2, Bool.or_true]⟩
  have ok : ∀ x ∈ hasS r ++ hasS s, okN x = true := fun x m => by
    obtain ⟨w, _, rfl, _⟩ := inw x m
    exact okN_w w
  have len : (hasS r ++ hasS s).length < 64 := by
    rw [List.length_append]
    unfold hasS
    rw [List.length_map, List.length_map]
    have h1 : (allW.filter r.h).length ≤ 10 := List.length_filter_le _ _
    have h2 : (allW.filter s.h).length ≤ 10 := List.length_filter_le _ _
    omega
  have hom : homD (hasS r ++ hasS s) = true := hom_w fun x m => by
    obtain ⟨w, _, e, _⟩ := inw x m
    exact ⟨w, e⟩
  show (if ((hasS r ++ hasS s).all okN) = true ∧ homD (hasS r ++ hasS s) = true ∧ (hasS r ++ hasS s).length < 64 then some (D.lst (sortD (nubN (hasS r ++ hasS s)))) else none) = _
  rw [if_pos ⟨List.all_eq_true.mpr ok, hom, len⟩]
  congr 2
  have nw : ∀ x ∈ nubN (hasS r ++ hasS s), IsW x := fun x m => by
    obtain ⟨w, mw, e, _⟩ := inw x ((nubN_mem ok x).mp m)
    exact .inl ⟨w, mw, e⟩
  have nd : (hasS (joinR r s)).Nodup := by
    refine List.pairwise_map.mpr ?_
    have z : (allW.filter (joinR r s).h).Nodup := List.Pairwise.sublist List.filter_sublist (by decide : allW.Nodup)
    exact z.imp fun n e => n (wd_inj e)
  have pm : (nubN (hasS r ++ hasS s)).Perm (hasS (joinR r s)) := perm_of (nubN_nodup ok) nd fun x => by
    rw [nubN_mem ok x]
    constructor
    · intro m
      obtain ⟨w, mw, rfl, h⟩ := inw x m
      exact List.mem_map.mpr ⟨w, List.mem_filter.mpr ⟨mw, h⟩, rfl⟩
    · intro m
      obtain ⟨w, mw, rfl⟩ := List.mem_map.mp m
      obtain ⟨m1, m2⟩ := List.mem_filter.mp mw
      have m2 : (r.h w || s.h w) = true := m2
      rw [Bool.or_eq_true] at m2
      rcases m2 with m2 | m2
      · exact List.mem_append_left _ (List.mem_map.mpr ⟨w, List.mem_filter.mpr ⟨m1, m2⟩, rfl⟩)
      · exact List.mem_append_right _ (List.mem_map.mpr ⟨w, List.mem_filter.mpr ⟨m1, m2⟩, rfl⟩)
  have c := cmp_mix (mix_ws nw)
  exact rise_eqC ((sortD_perm _).trans pm) (fun x m y m' => (c x ((sortD_perm _).mem_iff.mp m) y ((sortD_perm _).mem_iff.mp m')).1) (sortD_riseC fun x m y m' => (c x m y m').1) (rise_has _)
theorem has_cat (h : Wd → Bool) : (([] ++ (doors3.filter fun w => h ⟨"ask", w⟩).map fun w => Wd.toD ⟨"ask", w⟩) ++ (doors3.filter fun w => h ⟨"tell", w⟩).map (fun w => Wd.toD ⟨"tell", w⟩) ++ (sheets2.filter fun w => h ⟨"look", w⟩).map (fun w => Wd.toD ⟨"look", w⟩)) ++ (sheets2.filter fun w => h ⟨"mark", w⟩).map (fun w => Wd.toD ⟨"mark", w⟩) = (unsW.filter h).map Wd.toD := by
  have f : ∀ (so : String) (l : List String), (l.filter fun w => h ⟨so, w⟩).map (fun w => Wd.toD ⟨so, w⟩) = ((l.map fun w => (⟨so, w⟩ : Wd)).filter h).map Wd.toD := fun so l => by
    induction l with
    | nil => rfl
    | cons x l ih =>
      rw [List.map_cons]
      by_cases c : h ⟨so, x⟩ = true
      · rw [List.filter_cons_of_pos (p := fun w => h ⟨so, w⟩) c, List.filter_cons_of_pos c, List.map_cons, List.map_cons, ih]
      · rw [List.filter_cons_of_neg (p := fun w => h ⟨so, w⟩) c, List.filter_cons_of_neg c, ih]
  rw [f, f, f, f, List.nil_append, ← List.map_append, ← List.map_append, ← List.map_append, ← List.filter_append, ← List.filter_append, ← List.filter_append]
  rfl
theorem row_not (pool : List String) (p q : String → Bool) : ((pool.filter p).filter fun w => !decide (w ∈ pool.filter q)) = pool.filter fun w => p w && !q w := by
  rw [List.filter_filter]
  refine List.filter_congr fun w m => ?_
  cases e1 : p w <;> cases e2 : q w <;> simp [m, e1, e2]
theorem exc_cat (r s : R4) (acc : List D) : (((acc ++ (r.pr.asks.filter fun w => !decide (w ∈ s.pr.asks)).map fun w => Wd.toD ⟨"ask", w⟩) ++ (r.pr.tells.filter fun w => !decide (w ∈ s.pr.tells)).map (fun w => Wd.toD ⟨"tell", w⟩)) ++ (r.pr.looks.filter fun w => !decide (w ∈ s.pr.looks)).map (fun w => Wd.toD ⟨"look", w⟩)) ++ (r.pr.marks.filter fun w => !decide (w ∈ s.pr.marks)).map (fun w => Wd.toD ⟨"mark", w⟩)
    = acc ++ (unsW.filter fun w => r.h w && !s.h w).map Wd.toD := by
  have e := has_cat fun w => r.h w && !s.h w
  have h1 : (r.pr.asks.filter fun w => !decide (w ∈ s.pr.asks)) = doors3.filter fun w => r.h ⟨"ask", w⟩ && !s.h ⟨"ask", w⟩ := row_not doors3 (fun w => r.h ⟨"ask", w⟩) (fun w => s.h ⟨"ask", w⟩)
  have h2 : (r.pr.tells.filter fun w => !decide (w ∈ s.pr.tells)) = doors3.filter fun w => r.h ⟨"tell", w⟩ && !s.h ⟨"tell", w⟩ := row_not doors3 (fun w => r.h ⟨"tell", w⟩) (fun w => s.h ⟨"tell", w⟩)
  have h3 : (r.pr.looks.filter fun w => !decide (w ∈ s.pr.looks)) = sheets2.filter fun w => r.h ⟨"look", w⟩ && !s.h ⟨"look", w⟩ := row_not sheets2 (fun w => r.h ⟨"look", w⟩) (fun w => s.h ⟨"look", w⟩)
  have h4 : (r.pr.marks.filter fun w => !decide (w ∈ s.pr.marks)) = sheets2.filter fun w => r.h ⟨"mark", w⟩ && !s.h ⟨"mark", w⟩ := row_not sheets2 (fun w => r.h ⟨"mark", w⟩) (fun w => s.h ⟨"mark", w⟩)
  rw [h1, h2, h3, h4, ← e]
  simp only [List.nil_append, List.append_assoc]
/-! ### the laws of sets -/
theorem win_refl (r : R4) : winB r r = true := win_iff.mpr ⟨Nat.le_refl _, fun _ _ h => h⟩
theorem met_l (r s : R4) : winB (metR r s) r = true := win_iff.mpr ⟨Nat.min_le_left _ _, fun w _ h => by
  have h : (r.h w && s.h w) = true := h
  rw [Bool.and_eq_true] at h
  exact h.1⟩
theorem met_r (r s : R4) : winB (metR r s) s = true := win_iff.mpr ⟨Nat.min_le_right _ _, fun w _ h => by
  have h : (r.h w && s.h w) = true := h
  rw [Bool.and_eq_true] at h
  exact h.2⟩
theorem win_join (r s : R4) : winB r (joinR r s) = true := win_iff.mpr ⟨Nat.le_max_left _ _, fun w _ h => by
  show (r.h w || s.h w) = true
  rw [h]
  rfl⟩
theorem win_met {t r s : R4} (h1 : winB t r = true) (h2 : winB t s = true) : winB t (metR r s) = true := by
  obtain ⟨a, b⟩ := win_iff.mp h1
  obtain ⟨c, d⟩ := win_iff.mp h2
  refine win_iff.mpr ⟨by show _ ≤ min _ _; omega, fun w m h => ?_⟩
  show (r.h w && s.h w) = true
  rw [b w m h, d w m h]
  rfl
theorem exc_self (r : R4) : excS r r = [] := List.isEmpty_iff.mp (win_refl r)
theorem met_join (r s : R4) : metR r (joinR r s) = r := by
  cases r
  cases s
  simp only [metR, joinR, R4.mk.injEq]
  refine ⟨by omega, funext fun w => ?_⟩
  rename_i a b c d
  cases b w <;> cases d w <;> rfl
theorem join_met (r s : R4) : joinR r (metR r s) = r := by
  cases r
  cases s
  simp only [metR, joinR, R4.mk.injEq]
  refine ⟨by omega, funext fun w => ?_⟩
  rename_i a b c d
  cases b w <;> cases d w <;> rfl
theorem met_assoc (r s t : R4) : metR r (metR s t) = metR (metR r s) t := by
  cases r
  cases s
  cases t
  simp only [metR, R4.mk.injEq]
  refine ⟨by omega, funext fun w => ?_⟩
  exact (Bool.and_assoc _ _ _).symm
end PL

namespace K03
open DL L2 PySem
def b__law_has_0 : DTS := (sSet 1 (dOp pyAdd (dVar 1) (dLc (dIter (dOp pyItem (dVar 0) (dOp pyAdd (dVar 2) (dC (.int 1))))) (.n 4) dYes (dTup (dCons (dVar 3) (dCons (dVar 4) dNil))) [4])))
def b_excess_of_0 : DTS := (sSet 2 (dOp pyAdd (dVar 2) (dLc (dIter (dOp pyItem (dVar 0) (dOp pyAdd (dVar 3) (dC (.int 1))))) (.n 5) (dTest (dOp pyNotIn (dVar 5) (dOp pyItem (dVar 1) (dOp pyAdd (dVar 3) (dC (.int 1)))))) (dTup (dCons (dVar 4) (dCons (dVar 5) dNil))) [5])))
/-! ### the dice -/
theorem drawn_ok {cell k : Int} {G : DG} {Q : DK} {E : DX → DG → Prop} (h : ∀ r, 0 ≤ r → Q (.int r) G) : sp__law_drawn [.int cell, .int k] G Q E := by
  refine ⟨rfl, ?_⟩
  simp only [t__law_drawn, sSeq, sSet, sRet, dOp, dVar, dC, dstart]
  refine ⟨_, rfl, _, mulS _ _ (by decide), _, rfl, _, rfl, _, mulS _ _ (by decide), _, rfl, _, modP _ _ (by decide), _, rfl, _, rfl, ?_⟩
  generalize ha : (cell * 6364136223846793005 + (k + 1) * 1442695040888963407) % 340282366920938463463374607431768211507 = a
  have a0 : 0 ≤ a := by rw [← ha]; exact Int.emod_nonneg _ (by decide)
  have a1 : a < 2 ^ 129 := by
    have := Int.emod_lt_of_pos (cell * 6364136223846793005 + (k + 1) * 1442695040888963407) (show (0 : Int) < 340282366920938463463374607431768211507 by decide)
    rw [ha] at this
    exact Int.lt_trans this (by decide)
  have aw := pow_600 (by decide) (bits_lt a0 a1)
  refine ⟨_, mulW _ aw aw, _, modP _ _ (by decide), _, rfl, ?_⟩
  generalize hb : a * a % 340282366920938463463374607431768211297 = b
  have b0 : 0 ≤ b := by rw [← hb]; exact Int.emod_nonneg _ (by decide)
  have b1 : b < 2 ^ 128 := by
    have := Int.emod_lt_of_pos (a * a) (show (0 : Int) < 340282366920938463463374607431768211297 by decide)
    rw [hb] at this
    exact Int.lt_trans this (by decide)
  have bw := bits_lt b0 b1
  refine ⟨_, modP _ _ (by decide), _, rfl, _, rfl, _, divP _ _ (by decide) (by decide), _, rfl, ?_⟩
  have c0 : 0 ≤ b % 18446744073709551557 := Int.emod_nonneg _ (by decide)
  have c1 : b % 18446744073709551557 < 18446744073709551557 := Int.emod_lt_of_pos _ (by decide)
  have d0 : 0 ≤ b / 18446744073709551557 := Int.ediv_nonneg b0 (by decide)
  have d1 : b / 18446744073709551557 ≤ b := Int.ediv_le_self _ b0
  have x1 : (b % 18446744073709551557 + 1).natAbs < 2 ^ 65 := bits_lt (by omega) (Int.lt_of_le_of_lt (by omega : _ ≤ (18446744073709551557 : Int)) (by decide))
  have x2 : (b / 18446744073709551557 + 1).natAbs < 2 ^ 129 := bits_lt (by omega) (Int.lt_of_le_of_lt (by omega : _ ≤ (2 : Int) ^ 128) (by decide))
  refine ⟨_, mulW _ (pow_600 (by decide) x1) (pow_600 (by decide) x2), _, rfl, _, mulW _ (pow_600 (m := 65 + 129) (by decide) (wide_lt x1 x2)) (pow_600 (by decide) bw), _, rfl, _, modP _ _ (by decide), h _ (Int.emod_nonneg _ (by decide))⟩
theorem roll_ok {p : Addr} {c k many : Int} {G : DG} {Q : DK} {E : DX → DG → Prop} (hG : G p = some (.lst [.int c, .int k])) (hm : 0 < many) (hm2 : many < 4611686018427387904) (h : ∀ r c' k', 0 ≤ r → r < many → Q (.int r) (gset G p (some (.lst [.int c', .int k'])))) : sp__law_roll [.ref p, .int many] G Q E := by
  refine ⟨rfl, ?_⟩
  have aq : asQ G (.ref p) = some [.int c, .int k] := by show lstO (G p) = _; rw [hG]; rfl
  have i0 : pyItem G (.ref p) (.int 0) = some (.int c) := by simp only [pyItem, aq]; rfl
  have i1 : pyItem G (.ref p) (.int 1) = some (.int k) := by simp only [pyItem, aq]; rfl
  have big : many < 2 ^ 600 := Int.lt_trans hm2 (by decide)
  simp only [t__law_roll, sSeq, sSet, sRet, sIf, sSub, sNext, dTest, dOp, dVar, dC, dCons, dNil, dCall, dstart]
  refine ⟨_, rfl, _, i0, _, rfl, _, rfl, _, rfl, ?_⟩
  by_cases hc : (10 : Int) ^ (18 : Int).toNat ≤ c
  · rw [decide_eq_true hc, if_pos rfl]
    refine ⟨_, rfl, _, i0, _, rfl, _, modP _ _ hm, _, rfl, _, i0, _, rfl, _, divP _ _ hm big, _, rfl, gset G p (some (.lst [.int (c / many), .int k])), ?_, _, rfl, ?_⟩
    · simp only [setAt, hG]; rfl
    · exact h _ _ _ (Int.emod_nonneg _ (by omega)) (Int.emod_lt_of_pos _ hm)
  · rw [decide_eq_false hc, if_neg Bool.false_ne_true]
    refine ⟨_, rfl, _, i1, _, rfl, _, rfl, gset G p (some (.lst [.int c, .int (k + 1)])), ?_, ?_⟩
    · simp only [setAt, hG]; rfl
    · have aq' : asQ (gset G p (some (.lst [.int c, .int (k + 1)]))) (.ref p) = some [.int c, .int (k + 1)] := by show lstO (gset G p _ p) = _; rw [gset_same]; rfl
      have j0 : pyItem (gset G p (some (.lst [.int c, .int (k + 1)]))) (.ref p) (.int 0) = some (.int c) := by simp only [pyItem, aq']; rfl
      have j1 : pyItem (gset G p (some (.lst [.int c, .int (k + 1)]))) (.ref p) (.int 1) = some (.int (k + 1)) := by simp only [pyItem, aq']; rfl
      refine ⟨_, rfl, _, j0, _, rfl, _, j1, ?_⟩
      refine drawn_ok fun r hr => ⟨_, divP _ _ (by decide) (by decide), _, rfl, _, modP _ _ hm, ?_⟩
      exact h _ _ _ (Int.emod_nonneg _ (by omega)) (Int.emod_lt_of_pos _ hm)
theorem toPy_ints (G : DG) : ∀ ns : List Int, mapO (toPy G 39) (ns.map .int) = some (ns.map PyData.int)
  | [] => rfl
  | n :: ns => by
    rw [List.map_cons]
    unfold mapO
    rw [toPy_ints G ns]
    rfl
theorem scr_nil (G : DG) (ns : List Int) : pyEq G (.scr ns) (.lst []) = some (.bl (decide (ns = []))) := by
  have e1 : toPy G 40 (.scr ns) = some (.list (ns.map PyData.int)) := by
    show (mapO (toPy G 39) (ns.map .int)).map PyData.list = _
    rw [toPy_ints]
    rfl
  have e2 : toPy G 40 (.lst []) = some (.list []) := rfl
  unfold pyEq pyEqB
  simp only [e1, e2, Option.map_some]
  cases ns with
  | nil => rfl
  | cons n ns => simp [PyData.eqv, PyData.eqvAll]
theorem cell_ok {ns : List Int} {k : Int} {G : DG} {Q : DK} {E : DX → DG → Prop} (hk : 0 ≤ k) (hl : ns.length ≤ 1000000) (h : ∀ c, Q (.int c) G) : sp__law_cell [.scr ns, .int k] G Q E := by
  refine ⟨rfl, ?_⟩
  simp only [t__law_cell, sSeq, sSet, sRet, sIf, sNext, dTest, dOp, dVar, dC, dCons, dNil, dB, dLst, dstart]
  refine ⟨_, rfl, by decide, _, scr_nil G ns, _, rfl, ?_⟩
  by_cases hn : ns = []
  · rw [decide_eq_true hn, if_pos rfl]
    exact ⟨_, rfl, _, mulS _ _ (by decide), h _⟩
  · rw [decide_eq_false hn, if_neg Bool.false_ne_true]
    have hp : 0 < ns.length := List.length_pos_iff.mpr hn
    have len : pyLen G [.scr ns] = some (.int ns.length) := by
      show some (D.int ((ns.map D.int).length : Nat)) = _
      rw [List.length_map]
    have m0 : 0 ≤ k % (ns.length : Int) := Int.emod_nonneg _ (by omega)
    have m1 : k % (ns.length : Int) < ns.length := Int.emod_lt_of_pos _ (by omega)
    have big : (ns.length : Int) < 2 ^ 600 := Int.lt_of_le_of_lt (by omega : _ ≤ (1000000 : Int)) (by decide)
    refine ⟨_, rfl, _, rfl, _, rfl, _, len, _, modP _ _ (by omega), .int (ns[(k % (ns.length : Int)).toNat]'(by omega)), ?_, _, rfl, _, rfl, _, len, _, divP _ _ (by omega) big, _, mulS _ _ (by decide), _, rfl, h _⟩
    show (atI (ns.map D.int) (k % (ns.length : Int))) = _
    unfold atI ixN
    rw [if_pos m0, if_pos (by rw [List.length_map]; exact m1)]
    simp
def DiceOk (G : DG) (ps : List Addr) : Prop := ∀ p ∈ ps, ∃ c k, G p = some (.lst [.int c, .int k])
/-- what stands besides the dice stays -/
structure Fr (ps : List Addr) (G G' : DG) : Prop where
  dice : DiceOk G' ps
  rest : ∀ b, b ∉ ps → G b ≠ none → G' b = G b
theorem Fr.trans {ps : List Addr} {G G' G'' : DG} (a : Fr ps G G') (b : Fr ps G' G'') : Fr ps G G'' := ⟨b.dice, fun x hx h => by
  have e := a.rest x hx h
  rw [← e]
  exact b.rest x hx (by rw [e]; exact h)⟩
theorem Fr.refl {ps : List Addr} {G : DG} (h : DiceOk G ps) : Fr ps G G := ⟨h, fun _ _ _ => rfl⟩
/-- a new object -/
theorem Fr.new {ps : List Addr} {G : DG} {q : Addr} {o : Option DO} (h : DiceOk G ps) (hq : G q = none) : Fr ps G (gset G q o) := ⟨fun p hp => by
  have e : p ≠ q := fun z => by
    obtain ⟨c, k, e⟩ := h p hp
    rw [z, hq] at e; cases e
  rw [gset_ne e]; exact h p hp, fun b _ hb => gset_ne fun e => hb (e ▸ hq)⟩
theorem Fr.get {ps : List Addr} {G G' : DG} {q : Addr} {o : DO} (f : Fr ps G G') (hq : q ∉ ps) (h : G q = some o) : G' q = some o := by rw [f.rest q hq (by rw [h]; simp), h]
theorem rounds_loop {ns : List Int} (hl : ns.length ≤ 1000000) {guard : DG → Prop} (hg : ∀ G, guard G) {o1 o2 : Option D} : ∀ (m : Nat) (lo : Int) (G : DG) (P : List D → DG → Prop), 0 ≤ lo → (∀ ps G', ps.length = m → (∀ p ∈ ps, G p = none) → DiceOk G' ps → (∀ b, G b ≠ none → G' b = G b) → P (ps.map .ref) G') →
    dLcL (.n 2) dYes (dLstB (dCons (dCall sp__law_cell (dCons (dVar 0) (dCons (dVar 2) dNil))) (dCons (dC (.int 0)) dNil))) guard [some (.scr ns), o1, o2] (intsFrom lo m) G P
  | 0, lo, G, P, _, h => ⟨hg G, h [] G rfl (fun p hp => by cases hp) (fun p hp => by cases hp) fun b _ => rfl⟩
  | m + 1, lo, G, P, h0, h => by
    refine ⟨hg G, ?_⟩
    show dTg (.n 2) (.int lo) _ _
    simp only [dTg, dYes, if_true, dLstB, dCons, dCall, dVar, dC, dNil]
    refine ⟨_, rfl, _, rfl, ?_⟩
    refine cell_ok h0 hl fun c => ⟨by simp, fun p hp => ?_⟩
    refine rounds_loop hl hg m (lo + 1) _ _ (by omega) fun ps G' hlen hfr hd hk => ?_
    have hpp : gset G p (some (.lst [.int c, .int 0])) p = some (.lst [.int c, .int 0]) := gset_same
    refine h (p :: ps) G' (by simp [hlen]) (fun q hq => ?_) (fun q hq => ?_) (fun b hb => ?_)
    · rcases List.mem_cons.mp hq with e | hq
      · rw [e]; exact hp
      · have := hfr q hq
        by_cases e : q = p
        · rw [e]; exact hp
        · rwa [gset_ne e] at this
    · rcases List.mem_cons.mp hq with e | hq
      · rw [e]
        exact ⟨c, 0, by rw [hk p (by rw [hpp]; simp), hpp]⟩
      · exact hd q hq
    · have e : b ≠ p := fun z => hb (by rw [z]; exact hp)
      have e2 : gset G p (some (.lst [.int c, .int 0])) b = G b := gset_ne e
      rw [← e2]
      exact hk b (by rw [e2]; exact hb)
theorem rounds_ok {ns : List Int} {high : Int} {G : DG} {Q : DK} {E : DX → DG → Prop} (hl : ns.length ≤ 1000000) (h1 : 1 ≤ high) (h2 : high ≤ 1000) (h : ∀ ps G', (∀ p ∈ ps, G p = none) → DiceOk G' ps → (∀ b, G b ≠ none → G' b = G b) → Q (.lst (ps.map .ref)) G') : sp__law_rounds [.scr ns, .int high] G Q E := by
  refine ⟨rfl, ?_⟩
  have len : pyLen G [.scr ns] = some (.int ns.length) := by
    show some (D.int ((ns.map D.int).length : Nat)) = _
    rw [List.length_map]
  simp only [t__law_rounds, sRet, dLc, dRange1, dB, dCons, dNil, dVar, dC, dstart]
  refine ⟨_, rfl, _, rfl, _, len, _, rfl, _, rfl, ?_⟩
  generalize hm : (if (if (ns.length : Int) < high then (ns.length : Int) else high) > 1 then (if (ns.length : Int) < high then (ns.length : Int) else high) else 1) = m
  have m1 : 1 ≤ m ∧ m ≤ 1000 := by rw [← hm]; split <;> (try split) <;> omega
  refine ⟨m, rfl, by omega, by omega, by rw [intsFrom_len]; omega, ?_⟩
  exact rounds_loop hl (fun _ => trivial) m.toNat 0 G _ (by decide) fun ps G' _ hfr hd hk => h ps G' hfr hd hk
theorem roll_d {ps : List Addr} {p : Addr} {many : Int} {G : DG} {Q : DK} {E : DX → DG → Prop} (hp : p ∈ ps) (hd : DiceOk G ps) (hm : 0 < many) (hm2 : many < 4611686018427387904) (h : ∀ r G', 0 ≤ r → r < many → Fr ps G G' → Q (.int r) G') : sp__law_roll [.ref p, .int many] G Q E := by
  obtain ⟨c, k, hG⟩ := hd p hp
  exact roll_ok hG hm hm2 fun r c' k' h0 h1 => h r _ h0 h1 ⟨fun q hq => by
    by_cases e : q = p
    · rw [e, gset_same]; exact ⟨c', k', rfl⟩
    · rw [gset_ne e]; exact hd q hq, fun b hb _ => gset_ne fun e => hb (e ▸ hp)⟩
/-! ### drawn programs and rights -/
theorem append_ok {G : DG} {q : Addr} {acc : List D} {x : D} (h : G q = some (.lst acc)) (hl : acc.length < 16000000) : mAppend G (.ref q) [x] = some (.non, gset G q (some (.lst (acc ++ [x])))) := by
  simp only [mAppend, h, lstO, if_pos hl]
theorem ty_lst {G : DG} {q : Addr} {acc : List D} (h : G q = some (.lst acc)) : tyM G (.ref q) = some "list" := by
  simp only [tyM, h, tyL]
/-- the frame of a list that grows -/
structure FrB (ps : List Addr) (q : Addr) (G G' : DG) : Prop where
  dice : DiceOk G' ps
  rest : ∀ b, b ∉ ps → b ≠ q → G b ≠ none → G' b = G b
theorem FrB.trans {ps : List Addr} {q : Addr} {G G' G'' : DG} (a : FrB ps q G G') (b : FrB ps q G' G'') : FrB ps q G G'' := ⟨b.dice, fun x hx hq h => by
  have e := a.rest x hx hq h
  rw [← e]
  exact b.rest x hx hq (by rw [e]; exact h)⟩
theorem FrB.set {ps : List Addr} {q : Addr} {G G' : DG} {o : Option DO} (a : FrB ps q G G') (hq : q ∉ ps) : FrB ps q G (gset G' q o) := ⟨fun p hp => by
  rw [gset_ne (fun (e : p = q) => hq (e ▸ hp))]; exact a.dice p hp, fun b hb hbq h => by rw [gset_ne hbq]; exact a.rest b hb hbq h⟩
theorem door_ok {G : DG} {Q : DK} {E : DX → DG → Prop} (h : Q (.lst [.str "bus", .str "in", .str "out"]) G) : sp__law_door_pool [] G Q E := ev__law_door_pool [] (.ok (.lst [.str "bus", .str "in", .str "out"])) (by kernel_rfl) G Q E h
theorem page_ok {G : DG} {Q : DK} {E : DX → DG → Prop} (h : Q (.lst [.str "log", .str "sky"]) G) : sp__law_page_pool [] G Q E := ev__law_page_pool [] (.ok (.lst [.str "log", .str "sky"])) (by kernel_rfl) G Q E h
def subs {α : Type} : List α → List (List α)
  | [] => [[]]
  | x :: xs => subs xs ++ (subs xs).map (x :: ·)
theorem some_loop {ps : List Addr} {p : Addr} (hp : p ∈ ps) {a1 a2 : Option D} {guard : DG → Prop} (hg : ∀ G, guard G) : ∀ (ws : List D) (G : DG) (P : List D → DG → Prop), DiceOk G ps → (∀ zs G', zs ∈ subs ws → Fr ps G G' → P zs G') →
    dLcL (.n 2) (dTest (dOp pyGt (dCall sp__law_roll (dCons (dVar 0) (dCons (dC (.int 3)) dNil))) (dC (.int 0)))) (dVar 2) guard [some (.ref p), a1, a2] ws G P
  | [], G, P, hd, k => ⟨hg G, k [] G (by simp [subs]) (Fr.refl hd)⟩
  | w :: ws, G, P, hd, k => by
    refine ⟨hg G, ?_⟩
    show dTg (.n 2) w _ _
    simp only [dTg, dTest, dOp, dCall, dCons, dVar, dC, dNil]
    refine ⟨_, rfl, roll_d hp hd (by decide) (by decide) fun r G1 _ _ f => ⟨_, rfl, _, rfl, ?_⟩⟩
    split
    · exact ⟨_, rfl, some_loop hp hg ws G1 _ f.dice fun zs G' hz f2 => k (w :: zs) G' (by simp [subs]; exact .inr hz) (f.trans f2)⟩
    · exact some_loop hp hg ws G1 _ f.dice fun zs G' hz f2 => k zs G' (by simp [subs]; exact .inl hz) (f.trans f2)
theorem some_ok {ps : List Addr} {p : Addr} {ws : List D} {G : DG} {Q : DK} {E : DX → DG → Prop} (hp : p ∈ ps) (hd : DiceOk G ps) (hw : ws.length ≤ 1000) (h : ∀ zs G', zs ∈ subs ws → Fr ps G G' → Q (.tup zs) G') : sp__law_some_of [.ref p, .lst ws] G Q E := by
  refine ⟨rfl, ?_⟩
  simp only [t__law_some_of, sRet, dB, dCons, dNil, dLc, dIter, dVar]
  exact ⟨_, rfl, _, rfl, by omega, some_loop hp (fun _ => rfl) ws _ _ hd fun zs G' hz f => ⟨_, rfl, h zs G' hz f⟩⟩
/-! ### the dice, apart from all else -/
section
open PL
variable {ps : List Addr} {p : Addr} {F : List Asr} {G : DG} {Q : DK} {E : DX → DG → Prop}
def DiceA (ps : List Addr) : Asr := fun G => DiceOk G ps
theorem fr_stars {G' : DG} (hs : Stars (DiceA ps :: F) G) (f : Fr ps G G') : Stars (DiceA ps :: F) G' := by
  obtain ⟨h, k, a, b, c, d, e⟩ := hs
  have hk : ∀ x, k x ≠ none → x ∉ ps := fun x hx hm => by
    obtain ⟨u, v, z⟩ := d x hm
    exact hx ((a x).resolve_left (by rw [z]; simp))
  refine ⟨fun x => if x ∈ ps then G' x else none, k, fun x => ?_, fun x hx => ?_, fun x hx => ?_, fun x hm => ?_, e⟩
  · by_cases q : k x = none
    · exact .inr q
    · exact .inl (if_neg (hk x q))
  · by_cases q : x ∈ ps
    · simp only [if_pos q]
    · simp only [if_neg q] at hx
      exact absurd rfl hx
  · rw [f.rest x (hk x hx) (by rw [c x hx]; exact hx), c x hx]
  · obtain ⟨u, v, z⟩ := f.dice x hm
    exact ⟨u, v, by simp only [if_pos hm]; exact z⟩
theorem dice_of (hs : Stars (DiceA ps :: F) G) : DiceOk G ps := fun q hq => by
  obtain ⟨h, k, a, b, c, d, e⟩ := hs
  obtain ⟨u, v, z⟩ := d q hq
  exact ⟨u, v, by rw [b q (by rw [z]; simp), z]⟩
end
/-! ### k03: rights -/
section
open PL
theorem told_eq {s : String} {G : DG} (h : s ∈ refusals) : pyNe G (.tup [.str "refused", .str s]) (.tup [.str "refused", .str s]) = some (.bl false) := by
  refine ne_refl ?_
  simp only [refusals, List.mem_cons, List.not_mem_nil, or_false] at h
  rcases h with rfl | rfl | rfl | rfl | rfl | rfl | rfl | rfl | rfl | rfl | rfl | rfl <;> decide
end
theorem subs_filter : ∀ {l : List String} {zs : List D}, l.Nodup → zs ∈ subs (l.map D.str) → ∃ p : String → Bool, zs = (l.filter p).map D.str
  | [], zs, _, h => by
    have h : zs = [] := by simpa [subs] using h
    exact ⟨fun _ => false, h⟩
  | x :: l, zs, nd, h => by
    obtain ⟨nx, nd⟩ := List.nodup_cons.mp nd
    have h : zs ∈ subs (l.map D.str) ∨ ∃ ys, ys ∈ subs (l.map D.str) ∧ D.str x :: ys = zs := by simpa [subs] using h
    rcases h with h1 | ⟨ys, h2, rfl⟩
    · obtain ⟨p, e⟩ := subs_filter nd h1
      refine ⟨fun w => !decide (w = x) && p w, ?_⟩
      rw [e, List.filter_cons_of_neg (by simp)]
      congr 1
      refine List.filter_congr fun w m => ?_
      have : w ≠ x := fun z => nx (z ▸ m)
      simp [this]
    · obtain ⟨p, e⟩ := subs_filter nd h2
      refine ⟨fun w => decide (w = x) || p w, ?_⟩
      rw [e, List.filter_cons_of_pos (by simp), List.map_cons]
      congr 2
      refine List.filter_congr fun w m => ?_
      have : w ≠ x := fun z => nx (z ▸ m)
      simp [this]
section
open PL
variable {ps : List Addr} {p q : Addr} {F L : List Asr} {G : DG} {Q : DK} {E : DX → DG → Prop} {r s t : R4}
def mkH (a b c d : String → Bool) (x : Wd) : Bool := if x.s = "ask" then a x.w else if x.s = "tell" then b x.w else if x.s = "look" then c x.w else d x.w
theorem rights_okF (hp : p ∈ ps) (hd : DiceOk G ps) (h : ∀ (r : R4) G', r.room ≤ 6 → Fr ps G G' → Q r.D G') : sp__law_any_rights [.ref p] G Q E := by
  refine ⟨rfl, ?_⟩
  simp only [t__law_any_rights, sSeq, sSet, sPar, sRet, dOp, dVar, dC, dCall, dCons, dNil, dB, dTup, dLst]
  refine door_ok (page_ok ⟨rfl, _, rfl, _, rfl, ?_⟩)
  refine some_ok hp hd (by decide) fun z1 G1 h1 f1 => ⟨_, rfl, _, rfl, ?_⟩
  refine some_ok hp f1.dice (by decide) fun z2 G2 h2 f2 => ⟨by simp, _, rfl, _, rfl, _, rfl, ?_⟩
  refine some_ok hp f2.dice (by decide) fun z3 G3 h3 f3 => ⟨_, rfl, _, rfl, ?_⟩
  refine some_ok hp f3.dice (by decide) fun z4 G4 h4 f4 => ⟨by simp, _, rfl, _, rfl, ?_⟩
  refine roll_d hp f4.dice (by decide) (by decide) fun n G5 r0 r1 f5 => ⟨by simp, _, rfl, _, rfl, _, rfl, ?_⟩
  obtain ⟨a, e1⟩ := subs_filter (l := doors3) (by decide) h1
  obtain ⟨b, e2⟩ := subs_filter (l := doors3) (by decide) h2
  obtain ⟨c, e3⟩ := subs_filter (l := sheets2) (by decide) h3
  obtain ⟨e, e4⟩ := subs_filter (l := sheets2) (by decide) h4
  have k := h ⟨n.toNat, mkH a b c e⟩ G5 (by show n.toNat ≤ 6; omega) ((((f1.trans f2).trans f3).trans f4).trans f5)
  have er : R4.D ⟨n.toNat, mkH a b c e⟩ = .tup [.int n, .tup z1, .tup z2, .tup z3, .tup z4] := by
    rw [e1, e2, e3, e4]
    show D.tup [nD n.toNat, _, _, _, _] = _
    rw [show nD n.toNat = D.int n by simp [nD]; omega]
    rfl
  rw [er] at k
  exact k
theorem srightsF (hp : p ∈ ps) (hs : Stars (DiceA ps :: F) G) (h : ∀ (r : R4) G', r.room ≤ 6 → Stars (DiceA ps :: F) G' → Q r.D G') : sp__law_any_rights [.ref p] G Q E :=
  rights_okF hp (dice_of hs) fun r G' a f => h r G' a (fr_stars hs f)
theorem add_l {a b : List D} (hl : a.length + b.length ≤ 16000000) : pyAdd G (.lst a) (.lst b) = some (.lst (a ++ b)) := by
  show (if a.length + b.length ≤ 16000000 then some (D.lst (a ++ b)) else none) = _
  rw [if_pos hl]
theorem fl_len {p : String → Bool} {l : List String} : (l.filter p).length ≤ l.length := List.length_filter_le _ _
/-! the law's has -/
theorem has_body {a : D} {acc : List D} {k : Int} {so : String} {ws : List String} {a4 : Option D} {E : DXK} {DE : DEnds} (ha : pyItem G a (.int (k + 1)) = some (tupS ws)) (hl : ws.length ≤ 1000) (hacc : acc.length ≤ 1000)
    (kk : DE.nx [some a, some (.lst (acc ++ ws.map fun w => Wd.toD ⟨so, w⟩)), some (.int k), some (.str so), a4] G) : b__law_has_0 E DE [some a, some (.lst acc), some (.int k), some (.str so), a4] G := by
  unfold b__law_has_0
  refine ⟨_, rfl, ⟨_, rfl, _, rfl, _, rfl, _, ha, _, rfl, by rw [List.length_map]; omega, ?_⟩⟩
  refine lcl_map (f := fun d => .tup [.str so, d]) (by exact rfl) (fun d md Q hq => ?_) ?_
  · exact ⟨_, rfl, _, rfl, (by decide : 2 ≤ 16000000), hq⟩
  have e : (ws.map D.str).map (fun d => D.tup [.str so, d]) = ws.map fun w => Wd.toD ⟨so, w⟩ := by
    rw [List.map_map]
    rfl
  rw [e]
  exact ⟨_, add_l (by rw [List.length_map]; omega), kk⟩
theorem x_has (k : Q (.lst (hasS r)) G) : sp__law_has [r.D] G Q E := by
  have l3 : ∀ so : String, (doors3.filter fun w => r.h ⟨so, w⟩).length ≤ 3 := fun so => fl_len
  have l2 : ∀ so : String, (sheets2.filter fun w => r.h ⟨so, w⟩).length ≤ 2 := fun so => fl_len
  have a1 : r.pr.asks.length ≤ 3 := l3 "ask"
  have a2 : r.pr.tells.length ≤ 3 := l3 "tell"
  have a3 : r.pr.looks.length ≤ 2 := l2 "look"
  refine ⟨rfl, ?_⟩
  show sSeq _ (sSeq (sFor _ _ b__law_has_0) _) _ _ _ _
  refine ⟨by decide, ?_⟩
  refine ⟨(by decide : 4 ≤ 16000000), _, _, rfl, rfl, ?_⟩
  refine ⟨rfl, ⟨_, rfl, rfl, has_body (a := r.D) (k := 0) (acc := []) rfl (Nat.le_trans (l3 "ask") (by decide)) (by decide) ?_⟩⟩
  refine ⟨rfl, ⟨_, rfl, rfl, has_body (a := r.D) (k := 1) rfl (Nat.le_trans (l3 "tell") (by decide)) (by simp only [List.nil_append, List.length_map]; omega) ?_⟩⟩
  refine ⟨rfl, ⟨_, rfl, rfl, has_body (a := r.D) (k := 2) rfl (Nat.le_trans (l2 "look") (by decide)) (by simp only [List.nil_append, List.length_append, List.length_map]; omega) ?_⟩⟩
  refine ⟨rfl, ⟨_, rfl, rfl, has_body (a := r.D) (k := 3) rfl (Nat.le_trans (l2 "mark") (by decide)) (by simp only [List.nil_append, List.length_append, List.length_map]; omega) ?_⟩⟩
  refine ⟨rfl, ?_⟩
  have e : (([] ++ (doors3.filter fun w => r.h ⟨"ask", w⟩).map fun w => Wd.toD ⟨"ask", w⟩) ++ (doors3.filter fun w => r.h ⟨"tell", w⟩).map (fun w => Wd.toD ⟨"tell", w⟩) ++ (sheets2.filter fun w => r.h ⟨"look", w⟩).map (fun w => Wd.toD ⟨"look", w⟩)) ++ (sheets2.filter fun w => r.h ⟨"mark", w⟩).map (fun w => Wd.toD ⟨"mark", w⟩) = hasU r := has_cat r.h
  have es : pySorted G [.lst (hasU r)] = some (.lst (hasS r)) := by
    show (if homD (hasU r) = true then some (D.lst (sortD (hasU r))) else none) = _
    rw [if_pos (hom_hasU r), sort_hasU]
  refine ⟨_, rfl, ?_⟩
  refine ⟨_, ?_, k⟩
  rw [← es, ← e]
  rfl
/-! what one has and the other has not -/
theorem exc_body {a b : D} {acc : List D} {k : Int} {so : String} {ws vs : List String} {a5 : Option D} {E : DXK} {DE : DEnds} (ha : pyItem G a (.int (k + 1)) = some (tupS ws)) (hb : pyItem G b (.int (k + 1)) = some (tupS vs)) (hl : ws.length ≤ 1000) (hacc : acc.length ≤ 1000)
    (kk : DE.nx [some a, some b, some (.lst (acc ++ (ws.filter fun w => !decide (w ∈ vs)).map fun w => Wd.toD ⟨so, w⟩)), some (.int k), some (.str so), a5] G) : b_excess_of_0 E DE [some a, some b, some (.lst acc), some (.int k), some (.str so), a5] G := by
  unfold b_excess_of_0
  refine ⟨_, rfl, ⟨_, rfl, _, rfl, _, rfl, _, ha, _, rfl, by rw [List.length_map]; omega, ?_⟩⟩
  refine lcl_fm (I := fun G' => G' = G) (g := D.str) (f := fun w => Wd.toD ⟨so, w⟩) (b := fun w => !decide (w ∈ vs)) (l := ws) (fun _ _ => rfl) rfl (fun x mx G2 K1 K0 e k1 k0 => ?_) fun G2 e => ?_
  · subst e
    simp only [dTg]
    refine ⟨_, rfl, _, rfl, _, rfl, _, rfl, _, hb, _, notin_S, _, rfl, ?_⟩
    by_cases m : x ∈ vs
    · refine ifF ?_ (k0 (by simp [m]) _ rfl)
      simp [m]
    · refine ifT ?_ ⟨_, rfl, _, rfl, (by decide : 2 ≤ 16000000), k1 (by simp [m]) _ rfl⟩
      simp [m]
  subst e
  refine ⟨_, add_l (by have := List.length_filter_le (fun w => !decide (w ∈ vs)) ws; rw [List.length_map]; omega), kk⟩
theorem x_exc (k : Q (.lst (excS r s)) G) : sp_excess_of [r.D, s.D] G Q E := by
  have l3 : ∀ so : String, (doors3.filter fun w => r.h ⟨so, w⟩).length ≤ 3 := fun so => fl_len
  have l2 : ∀ so : String, (sheets2.filter fun w => r.h ⟨so, w⟩).length ≤ 2 := fun so => fl_len
  have f3 : ∀ (so : String) (p : String → Bool), ((doors3.filter fun w => r.h ⟨so, w⟩).filter p).length ≤ 3 := fun so p => Nat.le_trans fl_len (l3 so)
  have f2 : ∀ (so : String) (p : String → Bool), ((sheets2.filter fun w => r.h ⟨so, w⟩).filter p).length ≤ 2 := fun so p => Nat.le_trans fl_len (l2 so)
  obtain ⟨acc0, ea, la⟩ : ∃ acc0 : List D, acc0 = (if s.room < r.room then [roomD r.room] else []) ∧ acc0.length ≤ 1 := ⟨_, rfl, by split; exact Nat.le_refl _; exact Nat.zero_le _⟩
  refine ⟨rfl, ?_⟩
  show sSeq _ (sSeq (sFor _ _ b_excess_of_0) _) _ _ _ _
  have go : ∀ (E' : DXK) (DE : DEnds), DE.rt (.lst (excS r s)) G → sSeq (sFor (dEnum (dCons (dC (.tup [(.str "ask"), (.str "tell"), (.str "look"), (.str "mark")])) dNil)) (.t [3, 4]) b_excess_of_0) (sRet (dB pySortedX (dCons (dVar 2) dNil))) E' DE [some r.D, some s.D, some (.lst acc0), none, none, none] G := by
    intro E' DE k
    refine ⟨_, _, rfl, rfl, ?_⟩
    refine ⟨rfl, ⟨_, rfl, rfl, exc_body (a := r.D) (b := s.D) (k := 0) rfl rfl (Nat.le_trans (l3 "ask") (by decide)) (by omega) ?_⟩⟩
    refine ⟨rfl, ⟨_, rfl, rfl, exc_body (a := r.D) (b := s.D) (k := 1) rfl rfl (Nat.le_trans (l3 "tell") (by decide)) (by rw [List.length_append, List.length_map]; exact Nat.le_trans (Nat.add_le_add la (f3 _ _)) (by decide)) ?_⟩⟩
    refine ⟨rfl, ⟨_, rfl, rfl, exc_body (a := r.D) (b := s.D) (k := 2) rfl rfl (Nat.le_trans (l2 "look") (by decide)) (by rw [List.length_append, List.length_append, List.length_map, List.length_map]; exact Nat.le_trans (Nat.add_le_add (Nat.add_le_add la (f3 _ _)) (f3 _ _)) (by decide)) ?_⟩⟩
    refine ⟨rfl, ⟨_, rfl, rfl, exc_body (a := r.D) (b := s.D) (k := 3) rfl rfl (Nat.le_trans (l2 "mark") (by decide)) (by rw [List.length_append, List.length_append, List.length_append, List.length_map, List.length_map, List.length_map]; exact Nat.le_trans (Nat.add_le_add (Nat.add_le_add (Nat.add_le_add la (f3 _ _)) (f3 _ _)) (f2 _ _)) (by decide)) ?_⟩⟩
    refine ⟨rfl, ?_⟩
    have es : pySortedX G [.lst (excU r s)] = some (.lst (excS r s)) := by
      show (if mixD (excU r s) = true then some (D.lst (sortD (excU r s))) else none) = _
      rw [if_pos (mix_ws excU_w)]
      rfl
    refine ⟨_, rfl, _, ?_, k⟩
    rw [← es]
    unfold excU
    rw [← ea, exc_cat]
  by_cases c : s.room < r.room
  · rw [if_pos c] at ea
    subst ea
    refine ⟨_, rfl, _, rfl, _, rfl, _, rfl, _, rfl, _, rfl, ifT (decide_eq_true (show (s.room : Int) < (r.room : Int) by omega)) ?_⟩
    refine ⟨_, rfl, _, rfl, (by decide : 2 ≤ 16000000), (by decide : 1 ≤ 16000000), ?_⟩
    exact go _ _ k
  · rw [if_neg c] at ea
    subst ea
    refine ⟨_, rfl, _, rfl, _, rfl, _, rfl, _, rfl, _, rfl, ifF (decide_eq_false (show ¬ (s.room : Int) < (r.room : Int) by omega)) ?_⟩
    refine ⟨by decide, ?_⟩
    exact go _ _ k
end
/-! ### told refusals (no TooMuch); the heap may change in a part -/
section
open PL
variable {F L : List Asr} {G : DG} {Q : DK} {E : DXK} {DE : DEnds}
theorem tl_new {t : DTE} {env : DSt} {i : Nat} {s : String} (hr : s ∈ refusals) (ht : ∀ (E' : DXK) (Q : DK), (∀ G', Stars L G' → E' (s, none) env G') → t E' env G Q)
    (k : ∀ q G', Stars (pt q (.lst [.tup [.str "refused", .str s]]) :: L) G' → DE.nx (env.set i (some (.ref q))) G') : sSet i (dLstB (dCons (dTold t) dNil)) E DE env G := by
  refine ht _ _ fun G' hs => ⟨_, rfl, hr, ?_⟩
  refine ⟨(by decide : 1 ≤ 16000000), fun q hq => ?_⟩
  generalize hG : gset _ _ _ = G2
  exact k q G2 (hs.newG hq hG)
theorem tl_app {t : DTE} {env : DSt} {i : Nat} {q : Addr} {acc : List D} {s : String} (hv : env[i]? = some (some (.ref q))) (hs : Stars (pt q (.lst acc) :: F) G) (hl : acc.length < 1000) (hr : s ∈ refusals)
    (ht : ∀ (E' : DXK) (Q : DK), (∀ G', Stars (pt q (.lst acc) :: L) G' → E' (s, none) env G') → t E' env G Q) (k : ∀ G', Stars (pt q (.lst (acc ++ [.tup [.str "refused", .str s]])) :: L) G' → DE.nx env G') : sDrop (dMt "list" mAppend (dVar i) (dCons (dTold t) dNil)) E DE env G := by
  refine ⟨_, hv, ty_lst (hs.get 0 rfl), ?_⟩
  refine ht _ _ fun G' hs => ⟨_, rfl, hr, ?_⟩
  refine ⟨_, _, append_ok (hs.get 0 rfl) (by omega), ?_⟩
  generalize hG : gset _ _ _ = G2
  exact k G2 (hs.setG 0 hG rfl)
end
end K03

namespace K03
open DL L2 PySem
def b__law_rights_refused_0 : DTS := (sSeq (sSet 3 (dLstB (dCons (dTold (dCall sp_within (dCons (dVar 2) (dCons (dVar 0) dNil)))) dNil))) (sSeq (sDrop (dMt "list" mAppend (dVar 3) (dCons (dTold (dCall sp_met (dCons (dVar 0) (dCons (dVar 2) dNil)))) dNil))) (sSeq (sDrop (dMt "list" mAppend (dVar 3) (dCons (dTold (dCall sp_joined (dCons (dVar 2) (dCons (dVar 0) dNil)))) dNil))) (sSeq (sDrop (dMt "list" mAppend (dVar 3) (dCons (dTold (dCall sp_beyond (dCons (dVar 0) (dCons (dVar 2) dNil)))) dNil))) (sSeq (sDrop (dMt "list" mAppend (dVar 3) (dCons (dTold (dCall sp_rights_text (dCons (dVar 2) dNil))) dNil))) (sSeq (sDrop (dMt "list" mAppend (dVar 3) (dCons (dTold (dMake "Cage" sp_Cage___init__ (dCons (dVar 2) dNil))) dNil))) (sIf (dOr (dTest (dOp pyIsNot (dCall sp_is_rights (dCons (dVar 2) dNil)) (dC (.bl false)))) (dTest (dOp pyNe (dVar 3) (dOp pyMul (dLst (dCons (dTup (dCons (dC (.str "refused")) (dCons (dC (.str "BadRights")) dNil))) dNil)) (dC (.int 6)))))) (sRet (dC (.bl false))) sNext)))))))
/-! ### rights met, narrowed -/
section
open PL
variable {c : CG} {p a : Addr} {G : DG} {F : List Asr} {n : String} {Q : DK} {E : DX → DG → Prop}
theorem met_row {ws vs : List String} {env : DSt} {Q : DK} (hl : ws.length ≤ 1000) (h4 : env[4]? = some (some (tupS ws))) (h5 : ∀ d : D, ((wipeD env [3]).set 3 (some d))[5]? = some (some (tupS vs))) (h3 : ∀ d : D, ((wipeD env [3]).set 3 (some d))[3]? = some (some d)) (k : Q (tupS (rowM ws vs)) G) :
    dB pyTup (dCons (dLc (dIter (dVar 4)) (.n 3) (dTest (dOp pyIn (dVar 3) (dVar 5))) (dVar 3) [3]) dNil) EF env G Q := by
  refine ⟨_, h4, _, rfl, by rw [List.length_map]; omega, ?_⟩
  refine lcl_fm (I := fun G' => G' = G) (g := D.str) (f := D.str) (b := fun w => decide (w ∈ vs)) (l := ws) (fun _ _ => rfl) rfl (fun x mx G2 K1 K0 e k1 k0 => ?_) fun G2 e => ?_
  · subst e
    simp only [dTg]
    refine ⟨_, h3 _, _, h5 _, _, in_S, _, rfl, ?_⟩
    by_cases m : x ∈ vs
    · exact ifT (decide_eq_true m) ⟨_, h3 _, k1 (decide_eq_true m) _ rfl⟩
    · exact ifF (decide_eq_false m) (k0 (decide_eq_false m) _ rfl)
  subst e
  exact ⟨_, rfl, k⟩
theorem x_met_of {a b : Prg} (h : isRights a.rD = true) (k : Q (metP a b).rD G) : sp_met_of [a.rD, b.rD] G Q E := by
  obtain ⟨_, h1, h2, h3, h4⟩ := rights_rows h
  have l1 := (row_facts h1).2.2
  have l2 := (row_facts h2).2.2
  have l3 := (row_facts h3).2.2
  have l4 := (row_facts h4).2.2
  refine ⟨rfl, ?_⟩
  unfold t_met_of
  refine ⟨_, rfl, _, rfl, _, rfl, ?_⟩
  refine ⟨_, rfl, _, rfl, _, rfl, ?_⟩
  refine ⟨_, _, _, _, rfl, rfl, rfl, (show (4 : Nat) ≤ 16000000 by omega), ?_⟩
  refine ⟨⟨rfl, rfl⟩, [tupS a.asks, tupS b.asks], rfl, rfl, ?_⟩
  simp only [dYes, if_true]
  refine met_row (ws := a.asks) (vs := b.asks) (by omega) rfl (fun _ => rfl) (fun _ => rfl) ?_
  refine ⟨⟨rfl, rfl⟩, [tupS a.tells, tupS b.tells], rfl, rfl, ?_⟩
  simp only [dYes, if_true]
  refine met_row (ws := a.tells) (vs := b.tells) (by omega) rfl (fun _ => rfl) (fun _ => rfl) ?_
  refine ⟨⟨rfl, rfl⟩, [tupS a.looks, tupS b.looks], rfl, rfl, ?_⟩
  simp only [dYes, if_true]
  refine met_row (ws := a.looks) (vs := b.looks) (by omega) rfl (fun _ => rfl) (fun _ => rfl) ?_
  refine ⟨⟨rfl, rfl⟩, [tupS a.marks, tupS b.marks], rfl, rfl, ?_⟩
  simp only [dYes, if_true]
  refine met_row (ws := a.marks) (vs := b.marks) (by omega) rfl (fun _ => rfl) (fun _ => rfl) ?_
  refine ⟨⟨rfl, rfl⟩, ?_⟩
  have em : DL.pyMin2 G [nD a.room, nD b.room] = some (nD (min a.room b.room)) := by
    show some (D.int (if (b.room : Int) < (a.room : Int) then (b.room : Int) else (a.room : Int))) = some (D.int ((min a.room b.room : Nat) : Int))
    congr 2
    split <;> omega
  refine ⟨_, rfl, _, rfl, _, rfl, _, rfl, _, em, by simp, ?_⟩
  exact ⟨_, rfl, _, rfl, _, rfl, k⟩
theorem x_need_rights {d : D} (h : isRights d = true) (k : Q .non G) : sp_need_rights [d] G Q E := ev_need_rights _ _ (PL.need_rights_ok h) _ _ _ k
theorem x_met {a b : Prg} (h : isRights a.rD = true) (h' : isRights b.rD = true) (k : Q (metP a b).rD G) : sp_met [a.rD, b.rD] G Q E := by
  refine ⟨rfl, ?_⟩
  unfold t_met
  refine ⟨_, rfl, _, rfl, ?_⟩
  dsimp only [dNil]
  refine ⟨rfl, ?_⟩
  unfold t_need_both
  refine ⟨_, rfl, ?_⟩
  dsimp only [dNil]
  refine x_need_rights h ?_
  refine ⟨_, rfl, ?_⟩
  dsimp only [dNil]
  refine x_need_rights h' ?_
  refine ⟨_, rfl, _, rfl, ?_⟩
  dsimp only [dNil]
  exact x_met_of h k
end
/-! ### k03: the parts -/
section
open PL
variable {ps : List Addr} {p q : Addr} {F L : List Asr} {G : DG} {Q : DK} {E : DX → DG → Prop} {r s t : R4} {d : D}
theorem x_needR (h : r.room ≤ 60) (k : Q .non G) : sp_need_rights [r.D] G Q E := ev_need_rights _ _ (PL.need_rights_ok (R4.ok h)) _ _ _ k
theorem x_both (h : r.room ≤ 60) (h' : s.room ≤ 60) (k : Q .non G) : sp_need_both [r.D, s.D] G Q E := by
  refine ⟨rfl, ?_⟩
  unfold t_need_both
  refine ⟨_, rfl, ?_⟩
  dsimp only [dNil]
  refine x_needR h ?_
  refine ⟨_, rfl, ?_⟩
  dsimp only [dNil]
  exact x_needR h' k
theorem bad1 {x : D} (h : e_need_rights [d] = some (.error ("BadRights", none))) (k : E ("BadRights", none) G) : sp_need_both [d, x] G Q E := by
  refine ⟨rfl, ?_⟩
  unfold t_need_both
  refine ⟨_, rfl, ?_⟩
  dsimp only [dNil]
  exact ev_need_rights _ _ h _ _ _ k
theorem bad2 (hr : r.room ≤ 60) (h : e_need_rights [d] = some (.error ("BadRights", none))) (k : E ("BadRights", none) G) : sp_need_both [r.D, d] G Q E := by
  refine ⟨rfl, ?_⟩
  unfold t_need_both
  refine ⟨_, rfl, ?_⟩
  dsimp only [dNil]
  refine x_needR hr ?_
  refine ⟨_, rfl, ?_⟩
  dsimp only [dNil]
  exact ev_need_rights _ _ h _ _ _ k
theorem eq_exc : pyEq G (.lst (excS r s)) (.lst []) = some (.bl (winB r s)) := m_eq _ _ _ _ (eq_nilL (ok_ws (sort_w excU_w)))
theorem x_within (h : r.room ≤ 60) (h' : s.room ≤ 60) (k : Q (.bl (winB r s)) G) : sp_within [r.D, s.D] G Q E := by
  refine ⟨rfl, ?_⟩
  unfold t_within
  refine ⟨_, rfl, _, rfl, ?_⟩
  dsimp only [dNil]
  refine x_both h h' ?_
  refine ⟨_, rfl, _, rfl, ?_⟩
  dsimp only [dNil]
  refine x_exc ?_
  exact ⟨by decide, _, eq_exc, k⟩
theorem x_beyond (h : r.room ≤ 60) (h' : s.room ≤ 60) (k : Q (.lst (excS r s)) G) : sp_beyond [r.D, s.D] G Q E := by
  refine ⟨rfl, ?_⟩
  unfold t_beyond
  refine ⟨_, rfl, _, rfl, ?_⟩
  dsimp only [dNil]
  refine x_both h h' ?_
  refine ⟨_, rfl, _, rfl, ?_⟩
  dsimp only [dNil]
  exact x_exc k
theorem x_metR (h : r.room ≤ 60) (h' : s.room ≤ 60) (k : Q (metR r s).D G) : sp_met [r.D, s.D] G Q E := x_met (R4.ok h) (R4.ok h') (by rw [met_pr]; exact k)
theorem add_t {a b : List String} (ha : a.length ≤ 1000) (hb : b.length ≤ 1000) : pyAdd G (tupS a) (tupS b) = some (.tup (a.map D.str ++ b.map .str)) := by
  show (if (a.map D.str).length + (b.map D.str).length ≤ 16000000 then some (D.tup (a.map D.str ++ b.map .str)) else none) = _
  rw [if_pos (by rw [List.length_map, List.length_map]; omega)]
theorem lcl_nilT {tg : Tg} {tt : DTT} {te : DTE} {guard : DG → Prop} {env : DSt} {Q : List D → DG → Prop} (hg : guard G) (h : Q [] G) : dLcL tg tt te guard env [] G Q := ⟨hg, h⟩
theorem jrow {a b c : List String} {guard : DG → Prop} {env : DSt} {ds : List D} {Q : List D → DG → Prop} (hg : guard G) (ha : a.length ≤ 1000) (hb : b.length ≤ 1000) (e : pySortedSet G [.tup (a.map D.str ++ b.map .str)] = some (.lst (c.map .str))) (h3 : ∀ x y : D, (setAll env [3, 4] [x, y])[3]? = some (some x)) (h4 : ∀ x y : D, (setAll env [3, 4] [x, y])[4]? = some (some y))
    (k : dLcL (.t [3, 4]) dYes (dB pyTup (dCons (dB pySortedSet (dCons (dOp pyAdd (dVar 3) (dVar 4)) dNil)) dNil)) guard env ds G fun ys G3 => Q (tupS c :: ys) G3) :
    dLcL (.t [3, 4]) dYes (dB pyTup (dCons (dB pySortedSet (dCons (dOp pyAdd (dVar 3) (dVar 4)) dNil)) dNil)) guard env (.tup [tupS a, tupS b] :: ds) G Q := by
  refine ⟨hg, _, rfl, rfl, ?_⟩
  simp only [dYes, if_true]
  exact ⟨_, h3 _ _, _, h4 _ _, _, add_t ha hb, _, e, _, rfl, k⟩
theorem x_join (h : r.room ≤ 60) (h' : s.room ≤ 60) (k : Q (joinR r s).D G) : sp_joined [r.D, s.D] G Q E := by
  have l3 : ∀ p : String → Bool, (doors3.filter p).length ≤ 1000 := fun p => Nat.le_trans (List.length_filter_le _ _) (by decide)
  have l2 : ∀ p : String → Bool, (sheets2.filter p).length ≤ 1000 := fun p => Nat.le_trans (List.length_filter_le _ _) (by decide)
  refine ⟨rfl, ?_⟩
  unfold t_joined
  refine ⟨_, rfl, _, rfl, ?_⟩
  dsimp only [dNil]
  refine x_both h h' ?_
  (repeat first | refine Exists.intro _ (And.intro rfl ?_) | (refine PL.le_e ?_ ?_; (focus (simp; done))) | refine And.intro (show _ = some "str" from rfl) ?_ | refine And.intro (And.intro rfl (by decide)) ?_ | refine PL.ifF rfl ?_ | refine PL.ifT rfl ?_ | refine PL.par_e rfl ?_ | refine PL.some_e rfl ?_ | refine PL.asg_e rfl ?_); try dsimp only [dNil]
  refine ⟨_, _, [tupS r.pr.asks, tupS r.pr.tells, tupS r.pr.looks, tupS r.pr.marks], [tupS s.pr.asks, tupS s.pr.tells, tupS s.pr.looks, tupS s.pr.marks], rfl, rfl, rfl, (by decide : 4 ≤ 16000000), ?_⟩
  refine jrow ⟨rfl, rfl⟩ (l3 fun w => r.h ⟨"ask", w⟩) (l3 fun w => s.h ⟨"ask", w⟩) (jn3 (fun w => r.h ⟨"ask", w⟩) fun w => s.h ⟨"ask", w⟩) (fun _ _ => rfl) (fun _ _ => rfl) ?_
  refine jrow ⟨rfl, rfl⟩ (l3 fun w => r.h ⟨"tell", w⟩) (l3 fun w => s.h ⟨"tell", w⟩) (jn3 (fun w => r.h ⟨"tell", w⟩) fun w => s.h ⟨"tell", w⟩) (fun _ _ => rfl) (fun _ _ => rfl) ?_
  refine jrow ⟨rfl, rfl⟩ (l2 fun w => r.h ⟨"look", w⟩) (l2 fun w => s.h ⟨"look", w⟩) (jn2 (fun w => r.h ⟨"look", w⟩) fun w => s.h ⟨"look", w⟩) (fun _ _ => rfl) (fun _ _ => rfl) ?_
  refine jrow ⟨rfl, rfl⟩ (l2 fun w => r.h ⟨"mark", w⟩) (l2 fun w => s.h ⟨"mark", w⟩) (jn2 (fun w => r.h ⟨"mark", w⟩) fun w => s.h ⟨"mark", w⟩) (fun _ _ => rfl) (fun _ _ => rfl) ?_
  refine lcl_nilT ⟨rfl, rfl⟩ ?_
  have em : pyMax2 G [nD r.room, nD s.room] = some (nD (max r.room s.room)) := by
    show some (D.int (if (s.room : Int) > (r.room : Int) then (s.room : Int) else (r.room : Int))) = some (D.int ((max r.room s.room : Nat) : Int))
    congr 2
    split <;> omega
  have hj : (joinR r s).room ≤ 60 := by show max _ _ ≤ 60; omega
  refine ⟨_, rfl, _, rfl, _, rfl, _, rfl, _, em, by simp, _, rfl, _, rfl, _, rfl, ?_⟩
  refine ⟨_, rfl, ?_⟩
  dsimp only [dNil]
  refine x_needR (r := joinR r s) hj ?_
  exact ⟨_, rfl, k⟩
/-! what are no rights -/
abbrev t0 : D := .tup []
abbrev badL : List D := [.non, .int 5, .tup [], .tup [.int 1, t0, t0, t0], .tup [.int 61, t0, t0, t0, t0], .tup [.int (-1), t0, t0, t0, t0], .tup [.bl true, t0, t0, t0, t0], .tup [.int 1, .lst [], t0, t0, t0],
  .tup [.int 1, .tup [.str "b", .str "a"], t0, t0, t0], .tup [.int 1, .tup [.str "a", .str "a"], t0, t0, t0], .tup [.int 1, .tup [.str "A"], t0, t0, t0], .lst [.int 1, t0, t0, t0, t0],
  .tup [.int 1, .tup [.str "a", .str "b", .str "c", .str "d", .str "e", .str "f", .str "g"], t0, t0, t0], .tup [.int 1, t0, t0, t0, .tup [.int 5]], .tup [.int 1, t0, t0, t0, t0, t0]]
theorem bad_all : ∀ d ∈ badL, e_need_rights [d] = some (.error ("BadRights", none)) ∧ e_is_rights [d] = some (.ok (.bl false)) ∧ e_rights_text [d] = some (.error ("BadRights", none)) := fun d md => by
  simp only [badL, List.mem_cons, List.not_mem_nil, or_false] at md
  rcases md with rfl | rfl | rfl | rfl | rfl | rfl | rfl | rfl | rfl | rfl | rfl | rfl | rfl | rfl | rfl <;> exact ⟨by kernel_rfl, by kernel_rfl, by kernel_rfl⟩
theorem ne_refl_l {b : Addr} {xs : List D} (hb : G b = some (.lst xs)) (ok : okD 40 (.lst xs) = true) : pyNe G (.ref b) (.lst xs) = some (.bl false) := by
  have e : pyNe G (.ref b) (.lst xs) = pyNe G (.lst xs) (.lst xs) := by
    have gen : ∀ {u v : D}, (∀ i, u ≠ .int i) → (∀ i, u ≠ .str i) → pyEqB G u v = (match toPy G 40 u, toPy G 40 v with | some d, some e => some (PyData.eqv d e) | _, _ => none) := fun {u v} a b => by
      cases u <;> first | rfl | exact absurd rfl (a _) | exact absurd rfl (b _)
    unfold pyNe
    rw [gen (fun _ h => by cases h) (fun _ h => by cases h), gen (fun _ h => by cases h) (fun _ h => by cases h), toPy_ref hb 39]
  rw [e]
  exact ne_refl ok
theorem cage_bad (h : e_need_rights [d] = some (.error ("BadRights", none))) (hs : Stars F G) {E : DXK} {env : DSt} (k : ∀ G', Stars F G' → E ("BadRights", none) env G') {i : Nat} (hv : env[i]? = some (some d)) : dMake "Cage" sp_Cage___init__ (dCons (dVar i) dNil) E env G Q := by
  refine ⟨_, hv, ?_⟩
  dsimp only [dNil]
  intro q hq
  generalize hG : gset _ _ _ = G1
  have hs := hs.newG hq hG
  refine ⟨rfl, ?_⟩
  unfold t_Cage___init__
  refine ⟨_, rfl, ?_⟩
  dsimp only [dNil]
  exact ev_need_rights _ _ h _ _ _ (k G1 hs.tail)
abbrev brD : D := .tup [.str "refused", .str "BadRights"]
theorem bad_body (hr : r.room ≤ 60) (h : e_need_rights [d] = some (.error ("BadRights", none))) (h2 : e_is_rights [d] = some (.ok (.bl false))) (h3 : e_rights_text [d] = some (.error ("BadRights", none))) {a1 a3 : Option D} (hs : Stars F G) {E : DXK} {DE : DEnds} (k : ∀ a3 G', Stars F G' → DE.nx [some r.D, a1, some d, a3] G') :
    b__law_rights_refused_0 E DE [some r.D, a1, some d, a3] G := by
  have br : "BadRights" ∈ refusals := by decide
  unfold b__law_rights_refused_0
  refine tl_new (L := F) br (fun E' Q kq => ?_) fun q G1 hs => ?_
  · refine ⟨_, rfl, _, rfl, ?_⟩
    dsimp only [dNil]
    refine ⟨rfl, ?_⟩
    unfold t_within
    refine ⟨_, rfl, _, rfl, ?_⟩
    dsimp only [dNil]
    exact bad1 h (kq G hs)
  refine tl_app (F := F) (L := F) (q := q) rfl hs (by decide) br (fun E' Q kq => ?_) fun G2 hs => ?_
  · refine ⟨_, rfl, _, rfl, ?_⟩
    dsimp only [dNil]
    refine ⟨rfl, ?_⟩
    unfold t_met
    refine ⟨_, rfl, _, rfl, ?_⟩
    dsimp only [dNil]
    exact bad2 hr h (kq G1 hs)
  refine tl_app (F := F) (L := F) (q := q) rfl hs (by decide) br (fun E' Q kq => ?_) fun G3 hs => ?_
  · refine ⟨_, rfl, _, rfl, ?_⟩
    dsimp only [dNil]
    refine ⟨rfl, ?_⟩
    unfold t_joined
    refine ⟨_, rfl, _, rfl, ?_⟩
    dsimp only [dNil]
    exact bad1 h (kq G2 hs)
  refine tl_app (F := F) (L := F) (q := q) rfl hs (by decide) br (fun E' Q kq => ?_) fun G4 hs => ?_
  · refine ⟨_, rfl, _, rfl, ?_⟩
    dsimp only [dNil]
    refine ⟨rfl, ?_⟩
    unfold t_beyond
    refine ⟨_, rfl, _, rfl, ?_⟩
    dsimp only [dNil]
    exact bad2 hr h (kq G3 hs)
  refine tl_app (F := F) (L := F) (q := q) rfl hs (by decide) br (fun E' Q kq => ?_) fun G5 hs => ?_
  · refine ⟨_, rfl, ?_⟩
    dsimp only [dNil]
    exact ev_rights_text _ _ h3 _ _ _ (kq G4 hs)
  refine tl_app (F := F) (L := F) (q := q) rfl hs (by decide) br (fun E' Q kq => cage_bad h hs kq rfl) fun G6 hs => ?_
  refine ⟨_, rfl, ?_⟩
  dsimp only [dNil]
  refine ev_is_rights _ _ h2 _ _ _ ?_
  refine ⟨_, rfl, _, rfl, ?_⟩
  try simp only [Bool.false_eq_true, if_false]
  have en := ne_refl_l (hs.get 0 rfl) (show okD 40 (.lst [brD, brD, brD, brD, brD, brD]) = true by decide)
  refine ⟨_, rfl, (by decide : 2 ≤ 16000000), (by decide : 1 ≤ 16000000), _, rfl, _, en, _, rfl, ifF rfl ?_⟩
  exact k _ G6 hs.tail
theorem bad_loop (hr : r.room ≤ 60) {a1 : Option D} {E : DXK} {DE : DEnds} {guard : DG → Prop} (hg : ∀ G, guard G) : ∀ (ds : List D) (a2 a3 : Option D) (G : DG), (∀ d ∈ ds, d ∈ badL) → Stars F G → (∀ a2 a3 G', Stars F G' → DE.nx [some r.D, a1, a2, a3] G') →
    dLoop E (.n 2) b__law_rights_refused_0 DE guard ds [some r.D, a1, a2, a3] G
  | [], a2, a3, G, _, hs, k => ⟨hg G, k a2 a3 G hs⟩
  | d :: ds, a2, a3, G, h, hs, k => by
    obtain ⟨b1, b2, b3⟩ := bad_all d (h d List.mem_cons_self)
    refine ⟨hg G, ?_⟩
    exact bad_body hr b1 b2 b3 hs fun a3 G' hs => bad_loop hr hg ds _ _ G' (fun x m => h x (List.mem_cons_of_mem _ m)) hs k
theorem x_refused (hr : r.room ≤ 60) (hs : Stars F G) (k : ∀ G', Stars F G' → Q (.bl true) G') : sp__law_rights_refused [r.D] G Q E := by
  refine ⟨rfl, ?_⟩
  unfold t__law_rights_refused
  (repeat first | refine Exists.intro _ (And.intro rfl ?_) | (refine PL.le_e ?_ ?_; (focus (simp; done))) | refine And.intro (show _ = some "str" from rfl) ?_ | refine And.intro (And.intro rfl (by decide)) ?_ | refine PL.ifF rfl ?_ | refine PL.ifT rfl ?_ | refine PL.par_e rfl ?_ | refine PL.some_e rfl ?_ | refine PL.asg_e rfl ?_); try dsimp only [dNil]
  refine bad_loop hr (fun _ => rfl) badL none none G (fun d m => m) hs fun a2 a3 G' hs => ?_
  exact k G' hs
end
end K03

namespace K03
open DL L2 PySem
def b_law_0 : DTS := (sSeq (sPar [2, 3] (dCons (dCall sp__law_any_rights (dCons (dVar 1) dNil)) (dCons (dCall sp__law_any_rights (dCons (dVar 1) dNil)) dNil))) (sSeq (sSet 4 (dCall sp__law_any_rights (dCons (dVar 1) dNil))) (sSeq (sTg (.t [5, 6]) (dTup (dCons (dCall sp__law_has (dCons (dVar 2) dNil)) (dCons (dCall sp__law_has (dCons (dVar 3) dNil)) dNil)))) (sSeq (sSet 7 (dB pySortedX (dCons (dOp pyAdd (dLc (dIter (dVar 5)) (.n 8) (dTest (dOp pyNotInT (dVar 8) (dVar 6))) (dVar 8) [8]) (dOp pyMul (dLst (dCons (dTup (dCons (dC (.str "room")) (dCons (dOp pyItem (dVar 2) (dC (.int 0))) dNil))) dNil)) (dB pyIntS (dCons (dOp pyGt (dOp pyItem (dVar 2) (dC (.int 0))) (dOp pyItem (dVar 3) (dC (.int 0)))) dNil)))) dNil))) (sSeq (sIf (dOr (dTest (dOp pyNe (dCall sp_beyond (dCons (dVar 2) (dCons (dVar 3) dNil))) (dVar 7))) (dTest (dOp pyNe (dCall sp_within (dCons (dVar 2) (dCons (dVar 3) dNil))) (dOp pyEq (dVar 7) (dLst dNil))))) (sRet (dC (.bl false))) sNext) (sSeq (sIf (dTest (dOp pyIsNot (dCall sp_is_rights (dCons (dVar 2) dNil)) (dC (.bl true)))) (sRet (dC (.bl false))) sNext) (sSeq (sPar [9, 10] (dCons (dCall sp_met (dCons (dVar 2) (dCons (dVar 3) dNil))) (dCons (dCall sp_joined (dCons (dVar 2) (dCons (dVar 3) dNil))) dNil))) (sSeq (sIf (dOr (dTest (dOp pyNe (dCall sp__law_has (dCons (dVar 9) dNil)) (dLc (dIter (dVar 5)) (.n 8) (dTest (dOp pyInT (dVar 8) (dVar 6))) (dVar 8) [8]))) (dTest (dOp pyNe (dOp pyItem (dVar 9) (dC (.int 0))) (dB pyMin2 (dCons (dOp pyItem (dVar 2) (dC (.int 0))) (dCons (dOp pyItem (dVar 3) (dC (.int 0))) dNil)))))) (sRet (dC (.bl false))) sNext) (sSeq (sIf (dOr (dTest (dOp pyNe (dCall sp__law_has (dCons (dVar 10) dNil)) (dB pySortedSetN (dCons (dOp pyAdd (dVar 5) (dVar 6)) dNil)))) (dTest (dOp pyNe (dOp pyItem (dVar 10) (dC (.int 0))) (dB pyMax2 (dCons (dOp pyItem (dVar 2) (dC (.int 0))) (dCons (dOp pyItem (dVar 3) (dC (.int 0))) dNil)))))) (sRet (dC (.bl false))) sNext) (sSeq (sIf (dOr (dNot (dTest (dCall sp_within (dCons (dVar 9) (dCons (dVar 2) dNil))))) (dOr (dNot (dTest (dCall sp_within (dCons (dVar 9) (dCons (dVar 3) dNil))))) (dNot (dTest (dCall sp_within (dCons (dVar 2) (dCons (dVar 10) dNil))))))) (sRet (dC (.bl false))) sNext) (sSeq (sIf (dTest (dOp pyNe (dCall sp_beyond (dCons (dVar 10) (dCons (dVar 10) dNil))) (dLst dNil))) (sRet (dC (.bl false))) sNext) (sSeq (sIf (dAnd (dTest (dCall sp_within (dCons (dVar 4) (dCons (dVar 2) dNil)))) (dAnd (dTest (dCall sp_within (dCons (dVar 4) (dCons (dVar 3) dNil)))) (dNot (dTest (dCall sp_within (dCons (dVar 4) (dCons (dVar 9) dNil))))))) (sRet (dC (.bl false))) sNext) (sSeq (sIf (dOr (dTest (dOp pyNe (dCall sp_met (dCons (dVar 2) (dCons (dVar 10) dNil))) (dVar 2))) (dTest (dOp pyNe (dCall sp_joined (dCons (dVar 2) (dCons (dVar 9) dNil))) (dVar 2)))) (sRet (dC (.bl false))) sNext) (sSeq (sIf (dTest (dOp pyNe (dCall sp_met (dCons (dVar 2) (dCons (dCall sp_met (dCons (dVar 3) (dCons (dVar 4) dNil))) dNil))) (dCall sp_met (dCons (dVar 9) (dCons (dVar 4) dNil))))) (sRet (dC (.bl false))) sNext) (sSeq (sIf (dNot (dTest (dCall sp__law_rights_refused (dCons (dVar 2) dNil)))) (sRet (dC (.bl false))) sNext) (sSeq (sTg (.t [11, 12]) (dTup (dCons (dTup (dCons (dC (.int 1)) (dCons (dB pyTupS (dCons (dC (.str "abcdef")) dNil)) (dCons (dTup dNil) (dCons (dTup dNil) (dCons (dTup dNil) dNil)))))) (dCons (dTup (dCons (dC (.int 1)) (dCons (dTup (dCons (dC (.str "g")) dNil)) (dCons (dTup dNil) (dCons (dTup dNil) (dCons (dTup dNil) dNil)))))) dNil)))) (sIf (dOr (dTest (dOp pyNe (dTold (dCall sp_joined (dCons (dVar 11) (dCons (dVar 12) dNil)))) (dTup (dCons (dC (.str "refused")) (dCons (dC (.str "BadRights")) dNil))))) (dTest (dOp pyNe (dCall sp_joined (dCons (dVar 11) (dCons (dVar 11) dNil))) (dVar 11)))) (sRet (dC (.bl false))) sNext)))))))))))))))))
def v_law_0_1 : DTS := (sSeq (sSet 4 (dCall sp__law_any_rights (dCons (dVar 1) dNil))) (sSeq (sTg (.t [5, 6]) (dTup (dCons (dCall sp__law_has (dCons (dVar 2) dNil)) (dCons (dCall sp__law_has (dCons (dVar 3) dNil)) dNil)))) (sSeq (sSet 7 (dB pySortedX (dCons (dOp pyAdd (dLc (dIter (dVar 5)) (.n 8) (dTest (dOp pyNotInT (dVar 8) (dVar 6))) (dVar 8) [8]) (dOp pyMul (dLst (dCons (dTup (dCons (dC (.str "room")) (dCons (dOp pyItem (dVar 2) (dC (.int 0))) dNil))) dNil)) (dB pyIntS (dCons (dOp pyGt (dOp pyItem (dVar 2) (dC (.int 0))) (dOp pyItem (dVar 3) (dC (.int 0)))) dNil)))) dNil))) (sSeq (sIf (dOr (dTest (dOp pyNe (dCall sp_beyond (dCons (dVar 2) (dCons (dVar 3) dNil))) (dVar 7))) (dTest (dOp pyNe (dCall sp_within (dCons (dVar 2) (dCons (dVar 3) dNil))) (dOp pyEq (dVar 7) (dLst dNil))))) (sRet (dC (.bl false))) sNext) (sSeq (sIf (dTest (dOp pyIsNot (dCall sp_is_rights (dCons (dVar 2) dNil)) (dC (.bl true)))) (sRet (dC (.bl false))) sNext) (sSeq (sPar [9, 10] (dCons (dCall sp_met (dCons (dVar 2) (dCons (dVar 3) dNil))) (dCons (dCall sp_joined (dCons (dVar 2) (dCons (dVar 3) dNil))) dNil))) (sSeq (sIf (dOr (dTest (dOp pyNe (dCall sp__law_has (dCons (dVar 9) dNil)) (dLc (dIter (dVar 5)) (.n 8) (dTest (dOp pyInT (dVar 8) (dVar 6))) (dVar 8) [8]))) (dTest (dOp pyNe (dOp pyItem (dVar 9) (dC (.int 0))) (dB pyMin2 (dCons (dOp pyItem (dVar 2) (dC (.int 0))) (dCons (dOp pyItem (dVar 3) (dC (.int 0))) dNil)))))) (sRet (dC (.bl false))) sNext) (sSeq (sIf (dOr (dTest (dOp pyNe (dCall sp__law_has (dCons (dVar 10) dNil)) (dB pySortedSetN (dCons (dOp pyAdd (dVar 5) (dVar 6)) dNil)))) (dTest (dOp pyNe (dOp pyItem (dVar 10) (dC (.int 0))) (dB pyMax2 (dCons (dOp pyItem (dVar 2) (dC (.int 0))) (dCons (dOp pyItem (dVar 3) (dC (.int 0))) dNil)))))) (sRet (dC (.bl false))) sNext) (sSeq (sIf (dOr (dNot (dTest (dCall sp_within (dCons (dVar 9) (dCons (dVar 2) dNil))))) (dOr (dNot (dTest (dCall sp_within (dCons (dVar 9) (dCons (dVar 3) dNil))))) (dNot (dTest (dCall sp_within (dCons (dVar 2) (dCons (dVar 10) dNil))))))) (sRet (dC (.bl false))) sNext) (sSeq (sIf (dTest (dOp pyNe (dCall sp_beyond (dCons (dVar 10) (dCons (dVar 10) dNil))) (dLst dNil))) (sRet (dC (.bl false))) sNext) (sSeq (sIf (dAnd (dTest (dCall sp_within (dCons (dVar 4) (dCons (dVar 2) dNil)))) (dAnd (dTest (dCall sp_within (dCons (dVar 4) (dCons (dVar 3) dNil)))) (dNot (dTest (dCall sp_within (dCons (dVar 4) (dCons (dVar 9) dNil))))))) (sRet (dC (.bl false))) sNext) (sSeq (sIf (dOr (dTest (dOp pyNe (dCall sp_met (dCons (dVar 2) (dCons (dVar 10) dNil))) (dVar 2))) (dTest (dOp pyNe (dCall sp_joined (dCons (dVar 2) (dCons (dVar 9) dNil))) (dVar 2)))) (sRet (dC (.bl false))) sNext) (sSeq (sIf (dTest (dOp pyNe (dCall sp_met (dCons (dVar 2) (dCons (dCall sp_met (dCons (dVar 3) (dCons (dVar 4) dNil))) dNil))) (dCall sp_met (dCons (dVar 9) (dCons (dVar 4) dNil))))) (sRet (dC (.bl false))) sNext) (sSeq (sIf (dNot (dTest (dCall sp__law_rights_refused (dCons (dVar 2) dNil)))) (sRet (dC (.bl false))) sNext) (sSeq (sTg (.t [11, 12]) (dTup (dCons (dTup (dCons (dC (.int 1)) (dCons (dB pyTupS (dCons (dC (.str "abcdef")) dNil)) (dCons (dTup dNil) (dCons (dTup dNil) (dCons (dTup dNil) dNil)))))) (dCons (dTup (dCons (dC (.int 1)) (dCons (dTup (dCons (dC (.str "g")) dNil)) (dCons (dTup dNil) (dCons (dTup dNil) (dCons (dTup dNil) dNil)))))) dNil)))) (sIf (dOr (dTest (dOp pyNe (dTold (dCall sp_joined (dCons (dVar 11) (dCons (dVar 12) dNil)))) (dTup (dCons (dC (.str "refused")) (dCons (dC (.str "BadRights")) dNil))))) (dTest (dOp pyNe (dCall sp_joined (dCons (dVar 11) (dCons (dVar 11) dNil))) (dVar 11)))) (sRet (dC (.bl false))) sNext))))))))))))))))
def v_law_0_2 : DTS := (sSeq (sTg (.t [5, 6]) (dTup (dCons (dCall sp__law_has (dCons (dVar 2) dNil)) (dCons (dCall sp__law_has (dCons (dVar 3) dNil)) dNil)))) (sSeq (sSet 7 (dB pySortedX (dCons (dOp pyAdd (dLc (dIter (dVar 5)) (.n 8) (dTest (dOp pyNotInT (dVar 8) (dVar 6))) (dVar 8) [8]) (dOp pyMul (dLst (dCons (dTup (dCons (dC (.str "room")) (dCons (dOp pyItem (dVar 2) (dC (.int 0))) dNil))) dNil)) (dB pyIntS (dCons (dOp pyGt (dOp pyItem (dVar 2) (dC (.int 0))) (dOp pyItem (dVar 3) (dC (.int 0)))) dNil)))) dNil))) (sSeq (sIf (dOr (dTest (dOp pyNe (dCall sp_beyond (dCons (dVar 2) (dCons (dVar 3) dNil))) (dVar 7))) (dTest (dOp pyNe (dCall sp_within (dCons (dVar 2) (dCons (dVar 3) dNil))) (dOp pyEq (dVar 7) (dLst dNil))))) (sRet (dC (.bl false))) sNext) (sSeq (sIf (dTest (dOp pyIsNot (dCall sp_is_rights (dCons (dVar 2) dNil)) (dC (.bl true)))) (sRet (dC (.bl false))) sNext) (sSeq (sPar [9, 10] (dCons (dCall sp_met (dCons (dVar 2) (dCons (dVar 3) dNil))) (dCons (dCall sp_joined (dCons (dVar 2) (dCons (dVar 3) dNil))) dNil))) (sSeq (sIf (dOr (dTest (dOp pyNe (dCall sp__law_has (dCons (dVar 9) dNil)) (dLc (dIter (dVar 5)) (.n 8) (dTest (dOp pyInT (dVar 8) (dVar 6))) (dVar 8) [8]))) (dTest (dOp pyNe (dOp pyItem (dVar 9) (dC (.int 0))) (dB pyMin2 (dCons (dOp pyItem (dVar 2) (dC (.int 0))) (dCons (dOp pyItem (dVar 3) (dC (.int 0))) dNil)))))) (sRet (dC (.bl false))) sNext) (sSeq (sIf (dOr (dTest (dOp pyNe (dCall sp__law_has (dCons (dVar 10) dNil)) (dB pySortedSetN (dCons (dOp pyAdd (dVar 5) (dVar 6)) dNil)))) (dTest (dOp pyNe (dOp pyItem (dVar 10) (dC (.int 0))) (dB pyMax2 (dCons (dOp pyItem (dVar 2) (dC (.int 0))) (dCons (dOp pyItem (dVar 3) (dC (.int 0))) dNil)))))) (sRet (dC (.bl false))) sNext) (sSeq (sIf (dOr (dNot (dTest (dCall sp_within (dCons (dVar 9) (dCons (dVar 2) dNil))))) (dOr (dNot (dTest (dCall sp_within (dCons (dVar 9) (dCons (dVar 3) dNil))))) (dNot (dTest (dCall sp_within (dCons (dVar 2) (dCons (dVar 10) dNil))))))) (sRet (dC (.bl false))) sNext) (sSeq (sIf (dTest (dOp pyNe (dCall sp_beyond (dCons (dVar 10) (dCons (dVar 10) dNil))) (dLst dNil))) (sRet (dC (.bl false))) sNext) (sSeq (sIf (dAnd (dTest (dCall sp_within (dCons (dVar 4) (dCons (dVar 2) dNil)))) (dAnd (dTest (dCall sp_within (dCons (dVar 4) (dCons (dVar 3) dNil)))) (dNot (dTest (dCall sp_within (dCons (dVar 4) (dCons (dVar 9) dNil))))))) (sRet (dC (.bl false))) sNext) (sSeq (sIf (dOr (dTest (dOp pyNe (dCall sp_met (dCons (dVar 2) (dCons (dVar 10) dNil))) (dVar 2))) (dTest (dOp pyNe (dCall sp_joined (dCons (dVar 2) (dCons (dVar 9) dNil))) (dVar 2)))) (sRet (dC (.bl false))) sNext) (sSeq (sIf (dTest (dOp pyNe (dCall sp_met (dCons (dVar 2) (dCons (dCall sp_met (dCons (dVar 3) (dCons (dVar 4) dNil))) dNil))) (dCall sp_met (dCons (dVar 9) (dCons (dVar 4) dNil))))) (sRet (dC (.bl false))) sNext) (sSeq (sIf (dNot (dTest (dCall sp__law_rights_refused (dCons (dVar 2) dNil)))) (sRet (dC (.bl false))) sNext) (sSeq (sTg (.t [11, 12]) (dTup (dCons (dTup (dCons (dC (.int 1)) (dCons (dB pyTupS (dCons (dC (.str "abcdef")) dNil)) (dCons (dTup dNil) (dCons (dTup dNil) (dCons (dTup dNil) dNil)))))) (dCons (dTup (dCons (dC (.int 1)) (dCons (dTup (dCons (dC (.str "g")) dNil)) (dCons (dTup dNil) (dCons (dTup dNil) (dCons (dTup dNil) dNil)))))) dNil)))) (sIf (dOr (dTest (dOp pyNe (dTold (dCall sp_joined (dCons (dVar 11) (dCons (dVar 12) dNil)))) (dTup (dCons (dC (.str "refused")) (dCons (dC (.str "BadRights")) dNil))))) (dTest (dOp pyNe (dCall sp_joined (dCons (dVar 11) (dCons (dVar 11) dNil))) (dVar 11)))) (sRet (dC (.bl false))) sNext)))))))))))))))
def v_law_0_3 : DTS := (sSeq (sSet 7 (dB pySortedX (dCons (dOp pyAdd (dLc (dIter (dVar 5)) (.n 8) (dTest (dOp pyNotInT (dVar 8) (dVar 6))) (dVar 8) [8]) (dOp pyMul (dLst (dCons (dTup (dCons (dC (.str "room")) (dCons (dOp pyItem (dVar 2) (dC (.int 0))) dNil))) dNil)) (dB pyIntS (dCons (dOp pyGt (dOp pyItem (dVar 2) (dC (.int 0))) (dOp pyItem (dVar 3) (dC (.int 0)))) dNil)))) dNil))) (sSeq (sIf (dOr (dTest (dOp pyNe (dCall sp_beyond (dCons (dVar 2) (dCons (dVar 3) dNil))) (dVar 7))) (dTest (dOp pyNe (dCall sp_within (dCons (dVar 2) (dCons (dVar 3) dNil))) (dOp pyEq (dVar 7) (dLst dNil))))) (sRet (dC (.bl false))) sNext) (sSeq (sIf (dTest (dOp pyIsNot (dCall sp_is_rights (dCons (dVar 2) dNil)) (dC (.bl true)))) (sRet (dC (.bl false))) sNext) (sSeq (sPar [9, 10] (dCons (dCall sp_met (dCons (dVar 2) (dCons (dVar 3) dNil))) (dCons (dCall sp_joined (dCons (dVar 2) (dCons (dVar 3) dNil))) dNil))) (sSeq (sIf (dOr (dTest (dOp pyNe (dCall sp__law_has (dCons (dVar 9) dNil)) (dLc (dIter (dVar 5)) (.n 8) (dTest (dOp pyInT (dVar 8) (dVar 6))) (dVar 8) [8]))) (dTest (dOp pyNe (dOp pyItem (dVar 9) (dC (.int 0))) (dB pyMin2 (dCons (dOp pyItem (dVar 2) (dC (.int 0))) (dCons (dOp pyItem (dVar 3) (dC (.int 0))) dNil)))))) (sRet (dC (.bl false))) sNext) (sSeq (sIf (dOr (dTest (dOp pyNe (dCall sp__law_has (dCons (dVar 10) dNil)) (dB pySortedSetN (dCons (dOp pyAdd (dVar 5) (dVar 6)) dNil)))) (dTest (dOp pyNe (dOp pyItem (dVar 10) (dC (.int 0))) (dB pyMax2 (dCons (dOp pyItem (dVar 2) (dC (.int 0))) (dCons (dOp pyItem (dVar 3) (dC (.int 0))) dNil)))))) (sRet (dC (.bl false))) sNext) (sSeq (sIf (dOr (dNot (dTest (dCall sp_within (dCons (dVar 9) (dCons (dVar 2) dNil))))) (dOr (dNot (dTest (dCall sp_within (dCons (dVar 9) (dCons (dVar 3) dNil))))) (dNot (dTest (dCall sp_within (dCons (dVar 2) (dCons (dVar 10) dNil))))))) (sRet (dC (.bl false))) sNext) (sSeq (sIf (dTest (dOp pyNe (dCall sp_beyond (dCons (dVar 10) (dCons (dVar 10) dNil))) (dLst dNil))) (sRet (dC (.bl false))) sNext) (sSeq (sIf (dAnd (dTest (dCall sp_within (dCons (dVar 4) (dCons (dVar 2) dNil)))) (dAnd (dTest (dCall sp_within (dCons (dVar 4) (dCons (dVar 3) dNil)))) (dNot (dTest (dCall sp_within (dCons (dVar 4) (dCons (dVar 9) dNil))))))) (sRet (dC (.bl false))) sNext) (sSeq (sIf (dOr (dTest (dOp pyNe (dCall sp_met (dCons (dVar 2) (dCons (dVar 10) dNil))) (dVar 2))) (dTest (dOp pyNe (dCall sp_joined (dCons (dVar 2) (dCons (dVar 9) dNil))) (dVar 2)))) (sRet (dC (.bl false))) sNext) (sSeq (sIf (dTest (dOp pyNe (dCall sp_met (dCons (dVar 2) (dCons (dCall sp_met (dCons (dVar 3) (dCons (dVar 4) dNil))) dNil))) (dCall sp_met (dCons (dVar 9) (dCons (dVar 4) dNil))))) (sRet (dC (.bl false))) sNext) (sSeq (sIf (dNot (dTest (dCall sp__law_rights_refused (dCons (dVar 2) dNil)))) (sRet (dC (.bl false))) sNext) (sSeq (sTg (.t [11, 12]) (dTup (dCons (dTup (dCons (dC (.int 1)) (dCons (dB pyTupS (dCons (dC (.str "abcdef")) dNil)) (dCons (dTup dNil) (dCons (dTup dNil) (dCons (dTup dNil) dNil)))))) (dCons (dTup (dCons (dC (.int 1)) (dCons (dTup (dCons (dC (.str "g")) dNil)) (dCons (dTup dNil) (dCons (dTup dNil) (dCons (dTup dNil) dNil)))))) dNil)))) (sIf (dOr (dTest (dOp pyNe (dTold (dCall sp_joined (dCons (dVar 11) (dCons (dVar 12) dNil)))) (dTup (dCons (dC (.str "refused")) (dCons (dC (.str "BadRights")) dNil))))) (dTest (dOp pyNe (dCall sp_joined (dCons (dVar 11) (dCons (dVar 11) dNil))) (dVar 11)))) (sRet (dC (.bl false))) sNext))))))))))))))
def v_law_0_4 : DTS := (sSeq (sIf (dOr (dTest (dOp pyNe (dCall sp_beyond (dCons (dVar 2) (dCons (dVar 3) dNil))) (dVar 7))) (dTest (dOp pyNe (dCall sp_within (dCons (dVar 2) (dCons (dVar 3) dNil))) (dOp pyEq (dVar 7) (dLst dNil))))) (sRet (dC (.bl false))) sNext) (sSeq (sIf (dTest (dOp pyIsNot (dCall sp_is_rights (dCons (dVar 2) dNil)) (dC (.bl true)))) (sRet (dC (.bl false))) sNext) (sSeq (sPar [9, 10] (dCons (dCall sp_met (dCons (dVar 2) (dCons (dVar 3) dNil))) (dCons (dCall sp_joined (dCons (dVar 2) (dCons (dVar 3) dNil))) dNil))) (sSeq (sIf (dOr (dTest (dOp pyNe (dCall sp__law_has (dCons (dVar 9) dNil)) (dLc (dIter (dVar 5)) (.n 8) (dTest (dOp pyInT (dVar 8) (dVar 6))) (dVar 8) [8]))) (dTest (dOp pyNe (dOp pyItem (dVar 9) (dC (.int 0))) (dB pyMin2 (dCons (dOp pyItem (dVar 2) (dC (.int 0))) (dCons (dOp pyItem (dVar 3) (dC (.int 0))) dNil)))))) (sRet (dC (.bl false))) sNext) (sSeq (sIf (dOr (dTest (dOp pyNe (dCall sp__law_has (dCons (dVar 10) dNil)) (dB pySortedSetN (dCons (dOp pyAdd (dVar 5) (dVar 6)) dNil)))) (dTest (dOp pyNe (dOp pyItem (dVar 10) (dC (.int 0))) (dB pyMax2 (dCons (dOp pyItem (dVar 2) (dC (.int 0))) (dCons (dOp pyItem (dVar 3) (dC (.int 0))) dNil)))))) (sRet (dC (.bl false))) sNext) (sSeq (sIf (dOr (dNot (dTest (dCall sp_within (dCons (dVar 9) (dCons (dVar 2) dNil))))) (dOr (dNot (dTest (dCall sp_within (dCons (dVar 9) (dCons (dVar 3) dNil))))) (dNot (dTest (dCall sp_within (dCons (dVar 2) (dCons (dVar 10) dNil))))))) (sRet (dC (.bl false))) sNext) (sSeq (sIf (dTest (dOp pyNe (dCall sp_beyond (dCons (dVar 10) (dCons (dVar 10) dNil))) (dLst dNil))) (sRet (dC (.bl false))) sNext) (sSeq (sIf (dAnd (dTest (dCall sp_within (dCons (dVar 4) (dCons (dVar 2) dNil)))) (dAnd (dTest (dCall sp_within (dCons (dVar 4) (dCons (dVar 3) dNil)))) (dNot (dTest (dCall sp_within (dCons (dVar 4) (dCons (dVar 9) dNil))))))) (sRet (dC (.bl false))) sNext) (sSeq (sIf (dOr (dTest (dOp pyNe (dCall sp_met (dCons (dVar 2) (dCons (dVar 10) dNil))) (dVar 2))) (dTest (dOp pyNe (dCall sp_joined (dCons (dVar 2) (dCons (dVar 9) dNil))) (dVar 2)))) (sRet (dC (.bl false))) sNext) (sSeq (sIf (dTest (dOp pyNe (dCall sp_met (dCons (dVar 2) (dCons (dCall sp_met (dCons (dVar 3) (dCons (dVar 4) dNil))) dNil))) (dCall sp_met (dCons (dVar 9) (dCons (dVar 4) dNil))))) (sRet (dC (.bl false))) sNext) (sSeq (sIf (dNot (dTest (dCall sp__law_rights_refused (dCons (dVar 2) dNil)))) (sRet (dC (.bl false))) sNext) (sSeq (sTg (.t [11, 12]) (dTup (dCons (dTup (dCons (dC (.int 1)) (dCons (dB pyTupS (dCons (dC (.str "abcdef")) dNil)) (dCons (dTup dNil) (dCons (dTup dNil) (dCons (dTup dNil) dNil)))))) (dCons (dTup (dCons (dC (.int 1)) (dCons (dTup (dCons (dC (.str "g")) dNil)) (dCons (dTup dNil) (dCons (dTup dNil) (dCons (dTup dNil) dNil)))))) dNil)))) (sIf (dOr (dTest (dOp pyNe (dTold (dCall sp_joined (dCons (dVar 11) (dCons (dVar 12) dNil)))) (dTup (dCons (dC (.str "refused")) (dCons (dC (.str "BadRights")) dNil))))) (dTest (dOp pyNe (dCall sp_joined (dCons (dVar 11) (dCons (dVar 11) dNil))) (dVar 11)))) (sRet (dC (.bl false))) sNext)))))))))))))
def v_law_0_5 : DTS := (sSeq (sIf (dTest (dOp pyIsNot (dCall sp_is_rights (dCons (dVar 2) dNil)) (dC (.bl true)))) (sRet (dC (.bl false))) sNext) (sSeq (sPar [9, 10] (dCons (dCall sp_met (dCons (dVar 2) (dCons (dVar 3) dNil))) (dCons (dCall sp_joined (dCons (dVar 2) (dCons (dVar 3) dNil))) dNil))) (sSeq (sIf (dOr (dTest (dOp pyNe (dCall sp__law_has (dCons (dVar 9) dNil)) (dLc (dIter (dVar 5)) (.n 8) (dTest (dOp pyInT (dVar 8) (dVar 6))) (dVar 8) [8]))) (dTest (dOp pyNe (dOp pyItem (dVar 9) (dC (.int 0))) (dB pyMin2 (dCons (dOp pyItem (dVar 2) (dC (.int 0))) (dCons (dOp pyItem (dVar 3) (dC (.int 0))) dNil)))))) (sRet (dC (.bl false))) sNext) (sSeq (sIf (dOr (dTest (dOp pyNe (dCall sp__law_has (dCons (dVar 10) dNil)) (dB pySortedSetN (dCons (dOp pyAdd (dVar 5) (dVar 6)) dNil)))) (dTest (dOp pyNe (dOp pyItem (dVar 10) (dC (.int 0))) (dB pyMax2 (dCons (dOp pyItem (dVar 2) (dC (.int 0))) (dCons (dOp pyItem (dVar 3) (dC (.int 0))) dNil)))))) (sRet (dC (.bl false))) sNext) (sSeq (sIf (dOr (dNot (dTest (dCall sp_within (dCons (dVar 9) (dCons (dVar 2) dNil))))) (dOr (dNot (dTest (dCall sp_within (dCons (dVar 9) (dCons (dVar 3) dNil))))) (dNot (dTest (dCall sp_within (dCons (dVar 2) (dCons (dVar 10) dNil))))))) (sRet (dC (.bl false))) sNext) (sSeq (sIf (dTest (dOp pyNe (dCall sp_beyond (dCons (dVar 10) (dCons (dVar 10) dNil))) (dLst dNil))) (sRet (dC (.bl false))) sNext) (sSeq (sIf (dAnd (dTest (dCall sp_within (dCons (dVar 4) (dCons (dVar 2) dNil)))) (dAnd (dTest (dCall sp_within (dCons (dVar 4) (dCons (dVar 3) dNil)))) (dNot (dTest (dCall sp_within (dCons (dVar 4) (dCons (dVar 9) dNil))))))) (sRet (dC (.bl false))) sNext) (sSeq (sIf (dOr (dTest (dOp pyNe (dCall sp_met (dCons (dVar 2) (dCons (dVar 10) dNil))) (dVar 2))) (dTest (dOp pyNe (dCall sp_joined (dCons (dVar 2) (dCons (dVar 9) dNil))) (dVar 2)))) (sRet (dC (.bl false))) sNext) (sSeq (sIf (dTest (dOp pyNe (dCall sp_met (dCons (dVar 2) (dCons (dCall sp_met (dCons (dVar 3) (dCons (dVar 4) dNil))) dNil))) (dCall sp_met (dCons (dVar 9) (dCons (dVar 4) dNil))))) (sRet (dC (.bl false))) sNext) (sSeq (sIf (dNot (dTest (dCall sp__law_rights_refused (dCons (dVar 2) dNil)))) (sRet (dC (.bl false))) sNext) (sSeq (sTg (.t [11, 12]) (dTup (dCons (dTup (dCons (dC (.int 1)) (dCons (dB pyTupS (dCons (dC (.str "abcdef")) dNil)) (dCons (dTup dNil) (dCons (dTup dNil) (dCons (dTup dNil) dNil)))))) (dCons (dTup (dCons (dC (.int 1)) (dCons (dTup (dCons (dC (.str "g")) dNil)) (dCons (dTup dNil) (dCons (dTup dNil) (dCons (dTup dNil) dNil)))))) dNil)))) (sIf (dOr (dTest (dOp pyNe (dTold (dCall sp_joined (dCons (dVar 11) (dCons (dVar 12) dNil)))) (dTup (dCons (dC (.str "refused")) (dCons (dC (.str "BadRights")) dNil))))) (dTest (dOp pyNe (dCall sp_joined (dCons (dVar 11) (dCons (dVar 11) dNil))) (dVar 11)))) (sRet (dC (.bl false))) sNext))))))))))))
def v_law_0_6 : DTS := (sSeq (sPar [9, 10] (dCons (dCall sp_met (dCons (dVar 2) (dCons (dVar 3) dNil))) (dCons (dCall sp_joined (dCons (dVar 2) (dCons (dVar 3) dNil))) dNil))) (sSeq (sIf (dOr (dTest (dOp pyNe (dCall sp__law_has (dCons (dVar 9) dNil)) (dLc (dIter (dVar 5)) (.n 8) (dTest (dOp pyInT (dVar 8) (dVar 6))) (dVar 8) [8]))) (dTest (dOp pyNe (dOp pyItem (dVar 9) (dC (.int 0))) (dB pyMin2 (dCons (dOp pyItem (dVar 2) (dC (.int 0))) (dCons (dOp pyItem (dVar 3) (dC (.int 0))) dNil)))))) (sRet (dC (.bl false))) sNext) (sSeq (sIf (dOr (dTest (dOp pyNe (dCall sp__law_has (dCons (dVar 10) dNil)) (dB pySortedSetN (dCons (dOp pyAdd (dVar 5) (dVar 6)) dNil)))) (dTest (dOp pyNe (dOp pyItem (dVar 10) (dC (.int 0))) (dB pyMax2 (dCons (dOp pyItem (dVar 2) (dC (.int 0))) (dCons (dOp pyItem (dVar 3) (dC (.int 0))) dNil)))))) (sRet (dC (.bl false))) sNext) (sSeq (sIf (dOr (dNot (dTest (dCall sp_within (dCons (dVar 9) (dCons (dVar 2) dNil))))) (dOr (dNot (dTest (dCall sp_within (dCons (dVar 9) (dCons (dVar 3) dNil))))) (dNot (dTest (dCall sp_within (dCons (dVar 2) (dCons (dVar 10) dNil))))))) (sRet (dC (.bl false))) sNext) (sSeq (sIf (dTest (dOp pyNe (dCall sp_beyond (dCons (dVar 10) (dCons (dVar 10) dNil))) (dLst dNil))) (sRet (dC (.bl false))) sNext) (sSeq (sIf (dAnd (dTest (dCall sp_within (dCons (dVar 4) (dCons (dVar 2) dNil)))) (dAnd (dTest (dCall sp_within (dCons (dVar 4) (dCons (dVar 3) dNil)))) (dNot (dTest (dCall sp_within (dCons (dVar 4) (dCons (dVar 9) dNil))))))) (sRet (dC (.bl false))) sNext) (sSeq (sIf (dOr (dTest (dOp pyNe (dCall sp_met (dCons (dVar 2) (dCons (dVar 10) dNil))) (dVar 2))) (dTest (dOp pyNe (dCall sp_joined (dCons (dVar 2) (dCons (dVar 9) dNil))) (dVar 2)))) (sRet (dC (.bl false))) sNext) (sSeq (sIf (dTest (dOp pyNe (dCall sp_met (dCons (dVar 2) (dCons (dCall sp_met (dCons (dVar 3) (dCons (dVar 4) dNil))) dNil))) (dCall sp_met (dCons (dVar 9) (dCons (dVar 4) dNil))))) (sRet (dC (.bl false))) sNext) (sSeq (sIf (dNot (dTest (dCall sp__law_rights_refused (dCons (dVar 2) dNil)))) (sRet (dC (.bl false))) sNext) (sSeq (sTg (.t [11, 12]) (dTup (dCons (dTup (dCons (dC (.int 1)) (dCons (dB pyTupS (dCons (dC (.str "abcdef")) dNil)) (dCons (dTup dNil) (dCons (dTup dNil) (dCons (dTup dNil) dNil)))))) (dCons (dTup (dCons (dC (.int 1)) (dCons (dTup (dCons (dC (.str "g")) dNil)) (dCons (dTup dNil) (dCons (dTup dNil) (dCons (dTup dNil) dNil)))))) dNil)))) (sIf (dOr (dTest (dOp pyNe (dTold (dCall sp_joined (dCons (dVar 11) (dCons (dVar 12) dNil)))) (dTup (dCons (dC (.str "refused")) (dCons (dC (.str "BadRights")) dNil))))) (dTest (dOp pyNe (dCall sp_joined (dCons (dVar 11) (dCons (dVar 11) dNil))) (dVar 11)))) (sRet (dC (.bl false))) sNext)))))))))))
def v_law_0_7 : DTS := (sSeq (sIf (dOr (dTest (dOp pyNe (dCall sp__law_has (dCons (dVar 9) dNil)) (dLc (dIter (dVar 5)) (.n 8) (dTest (dOp pyInT (dVar 8) (dVar 6))) (dVar 8) [8]))) (dTest (dOp pyNe (dOp pyItem (dVar 9) (dC (.int 0))) (dB pyMin2 (dCons (dOp pyItem (dVar 2) (dC (.int 0))) (dCons (dOp pyItem (dVar 3) (dC (.int 0))) dNil)))))) (sRet (dC (.bl false))) sNext) (sSeq (sIf (dOr (dTest (dOp pyNe (dCall sp__law_has (dCons (dVar 10) dNil)) (dB pySortedSetN (dCons (dOp pyAdd (dVar 5) (dVar 6)) dNil)))) (dTest (dOp pyNe (dOp pyItem (dVar 10) (dC (.int 0))) (dB pyMax2 (dCons (dOp pyItem (dVar 2) (dC (.int 0))) (dCons (dOp pyItem (dVar 3) (dC (.int 0))) dNil)))))) (sRet (dC (.bl false))) sNext) (sSeq (sIf (dOr (dNot (dTest (dCall sp_within (dCons (dVar 9) (dCons (dVar 2) dNil))))) (dOr (dNot (dTest (dCall sp_within (dCons (dVar 9) (dCons (dVar 3) dNil))))) (dNot (dTest (dCall sp_within (dCons (dVar 2) (dCons (dVar 10) dNil))))))) (sRet (dC (.bl false))) sNext) (sSeq (sIf (dTest (dOp pyNe (dCall sp_beyond (dCons (dVar 10) (dCons (dVar 10) dNil))) (dLst dNil))) (sRet (dC (.bl false))) sNext) (sSeq (sIf (dAnd (dTest (dCall sp_within (dCons (dVar 4) (dCons (dVar 2) dNil)))) (dAnd (dTest (dCall sp_within (dCons (dVar 4) (dCons (dVar 3) dNil)))) (dNot (dTest (dCall sp_within (dCons (dVar 4) (dCons (dVar 9) dNil))))))) (sRet (dC (.bl false))) sNext) (sSeq (sIf (dOr (dTest (dOp pyNe (dCall sp_met (dCons (dVar 2) (dCons (dVar 10) dNil))) (dVar 2))) (dTest (dOp pyNe (dCall sp_joined (dCons (dVar 2) (dCons (dVar 9) dNil))) (dVar 2)))) (sRet (dC (.bl false))) sNext) (sSeq (sIf (dTest (dOp pyNe (dCall sp_met (dCons (dVar 2) (dCons (dCall sp_met (dCons (dVar 3) (dCons (dVar 4) dNil))) dNil))) (dCall sp_met (dCons (dVar 9) (dCons (dVar 4) dNil))))) (sRet (dC (.bl false))) sNext) (sSeq (sIf (dNot (dTest (dCall sp__law_rights_refused (dCons (dVar 2) dNil)))) (sRet (dC (.bl false))) sNext) (sSeq (sTg (.t [11, 12]) (dTup (dCons (dTup (dCons (dC (.int 1)) (dCons (dB pyTupS (dCons (dC (.str "abcdef")) dNil)) (dCons (dTup dNil) (dCons (dTup dNil) (dCons (dTup dNil) dNil)))))) (dCons (dTup (dCons (dC (.int 1)) (dCons (dTup (dCons (dC (.str "g")) dNil)) (dCons (dTup dNil) (dCons (dTup dNil) (dCons (dTup dNil) dNil)))))) dNil)))) (sIf (dOr (dTest (dOp pyNe (dTold (dCall sp_joined (dCons (dVar 11) (dCons (dVar 12) dNil)))) (dTup (dCons (dC (.str "refused")) (dCons (dC (.str "BadRights")) dNil))))) (dTest (dOp pyNe (dCall sp_joined (dCons (dVar 11) (dCons (dVar 11) dNil))) (dVar 11)))) (sRet (dC (.bl false))) sNext))))))))))
def v_law_0_8 : DTS := (sSeq (sIf (dOr (dTest (dOp pyNe (dCall sp__law_has (dCons (dVar 10) dNil)) (dB pySortedSetN (dCons (dOp pyAdd (dVar 5) (dVar 6)) dNil)))) (dTest (dOp pyNe (dOp pyItem (dVar 10) (dC (.int 0))) (dB pyMax2 (dCons (dOp pyItem (dVar 2) (dC (.int 0))) (dCons (dOp pyItem (dVar 3) (dC (.int 0))) dNil)))))) (sRet (dC (.bl false))) sNext) (sSeq (sIf (dOr (dNot (dTest (dCall sp_within (dCons (dVar 9) (dCons (dVar 2) dNil))))) (dOr (dNot (dTest (dCall sp_within (dCons (dVar 9) (dCons (dVar 3) dNil))))) (dNot (dTest (dCall sp_within (dCons (dVar 2) (dCons (dVar 10) dNil))))))) (sRet (dC (.bl false))) sNext) (sSeq (sIf (dTest (dOp pyNe (dCall sp_beyond (dCons (dVar 10) (dCons (dVar 10) dNil))) (dLst dNil))) (sRet (dC (.bl false))) sNext) (sSeq (sIf (dAnd (dTest (dCall sp_within (dCons (dVar 4) (dCons (dVar 2) dNil)))) (dAnd (dTest (dCall sp_within (dCons (dVar 4) (dCons (dVar 3) dNil)))) (dNot (dTest (dCall sp_within (dCons (dVar 4) (dCons (dVar 9) dNil))))))) (sRet (dC (.bl false))) sNext) (sSeq (sIf (dOr (dTest (dOp pyNe (dCall sp_met (dCons (dVar 2) (dCons (dVar 10) dNil))) (dVar 2))) (dTest (dOp pyNe (dCall sp_joined (dCons (dVar 2) (dCons (dVar 9) dNil))) (dVar 2)))) (sRet (dC (.bl false))) sNext) (sSeq (sIf (dTest (dOp pyNe (dCall sp_met (dCons (dVar 2) (dCons (dCall sp_met (dCons (dVar 3) (dCons (dVar 4) dNil))) dNil))) (dCall sp_met (dCons (dVar 9) (dCons (dVar 4) dNil))))) (sRet (dC (.bl false))) sNext) (sSeq (sIf (dNot (dTest (dCall sp__law_rights_refused (dCons (dVar 2) dNil)))) (sRet (dC (.bl false))) sNext) (sSeq (sTg (.t [11, 12]) (dTup (dCons (dTup (dCons (dC (.int 1)) (dCons (dB pyTupS (dCons (dC (.str "abcdef")) dNil)) (dCons (dTup dNil) (dCons (dTup dNil) (dCons (dTup dNil) dNil)))))) (dCons (dTup (dCons (dC (.int 1)) (dCons (dTup (dCons (dC (.str "g")) dNil)) (dCons (dTup dNil) (dCons (dTup dNil) (dCons (dTup dNil) dNil)))))) dNil)))) (sIf (dOr (dTest (dOp pyNe (dTold (dCall sp_joined (dCons (dVar 11) (dCons (dVar 12) dNil)))) (dTup (dCons (dC (.str "refused")) (dCons (dC (.str "BadRights")) dNil))))) (dTest (dOp pyNe (dCall sp_joined (dCons (dVar 11) (dCons (dVar 11) dNil))) (dVar 11)))) (sRet (dC (.bl false))) sNext)))))))))
def v_law_0_9 : DTS := (sSeq (sIf (dOr (dNot (dTest (dCall sp_within (dCons (dVar 9) (dCons (dVar 2) dNil))))) (dOr (dNot (dTest (dCall sp_within (dCons (dVar 9) (dCons (dVar 3) dNil))))) (dNot (dTest (dCall sp_within (dCons (dVar 2) (dCons (dVar 10) dNil))))))) (sRet (dC (.bl false))) sNext) (sSeq (sIf (dTest (dOp pyNe (dCall sp_beyond (dCons (dVar 10) (dCons (dVar 10) dNil))) (dLst dNil))) (sRet (dC (.bl false))) sNext) (sSeq (sIf (dAnd (dTest (dCall sp_within (dCons (dVar 4) (dCons (dVar 2) dNil)))) (dAnd (dTest (dCall sp_within (dCons (dVar 4) (dCons (dVar 3) dNil)))) (dNot (dTest (dCall sp_within (dCons (dVar 4) (dCons (dVar 9) dNil))))))) (sRet (dC (.bl false))) sNext) (sSeq (sIf (dOr (dTest (dOp pyNe (dCall sp_met (dCons (dVar 2) (dCons (dVar 10) dNil))) (dVar 2))) (dTest (dOp pyNe (dCall sp_joined (dCons (dVar 2) (dCons (dVar 9) dNil))) (dVar 2)))) (sRet (dC (.bl false))) sNext) (sSeq (sIf (dTest (dOp pyNe (dCall sp_met (dCons (dVar 2) (dCons (dCall sp_met (dCons (dVar 3) (dCons (dVar 4) dNil))) dNil))) (dCall sp_met (dCons (dVar 9) (dCons (dVar 4) dNil))))) (sRet (dC (.bl false))) sNext) (sSeq (sIf (dNot (dTest (dCall sp__law_rights_refused (dCons (dVar 2) dNil)))) (sRet (dC (.bl false))) sNext) (sSeq (sTg (.t [11, 12]) (dTup (dCons (dTup (dCons (dC (.int 1)) (dCons (dB pyTupS (dCons (dC (.str "abcdef")) dNil)) (dCons (dTup dNil) (dCons (dTup dNil) (dCons (dTup dNil) dNil)))))) (dCons (dTup (dCons (dC (.int 1)) (dCons (dTup (dCons (dC (.str "g")) dNil)) (dCons (dTup dNil) (dCons (dTup dNil) (dCons (dTup dNil) dNil)))))) dNil)))) (sIf (dOr (dTest (dOp pyNe (dTold (dCall sp_joined (dCons (dVar 11) (dCons (dVar 12) dNil)))) (dTup (dCons (dC (.str "refused")) (dCons (dC (.str "BadRights")) dNil))))) (dTest (dOp pyNe (dCall sp_joined (dCons (dVar 11) (dCons (dVar 11) dNil))) (dVar 11)))) (sRet (dC (.bl false))) sNext))))))))
def v_law_0_10 : DTS := (sSeq (sIf (dTest (dOp pyNe (dCall sp_beyond (dCons (dVar 10) (dCons (dVar 10) dNil))) (dLst dNil))) (sRet (dC (.bl false))) sNext) (sSeq (sIf (dAnd (dTest (dCall sp_within (dCons (dVar 4) (dCons (dVar 2) dNil)))) (dAnd (dTest (dCall sp_within (dCons (dVar 4) (dCons (dVar 3) dNil)))) (dNot (dTest (dCall sp_within (dCons (dVar 4) (dCons (dVar 9) dNil))))))) (sRet (dC (.bl false))) sNext) (sSeq (sIf (dOr (dTest (dOp pyNe (dCall sp_met (dCons (dVar 2) (dCons (dVar 10) dNil))) (dVar 2))) (dTest (dOp pyNe (dCall sp_joined (dCons (dVar 2) (dCons (dVar 9) dNil))) (dVar 2)))) (sRet (dC (.bl false))) sNext) (sSeq (sIf (dTest (dOp pyNe (dCall sp_met (dCons (dVar 2) (dCons (dCall sp_met (dCons (dVar 3) (dCons (dVar 4) dNil))) dNil))) (dCall sp_met (dCons (dVar 9) (dCons (dVar 4) dNil))))) (sRet (dC (.bl false))) sNext) (sSeq (sIf (dNot (dTest (dCall sp__law_rights_refused (dCons (dVar 2) dNil)))) (sRet (dC (.bl false))) sNext) (sSeq (sTg (.t [11, 12]) (dTup (dCons (dTup (dCons (dC (.int 1)) (dCons (dB pyTupS (dCons (dC (.str "abcdef")) dNil)) (dCons (dTup dNil) (dCons (dTup dNil) (dCons (dTup dNil) dNil)))))) (dCons (dTup (dCons (dC (.int 1)) (dCons (dTup (dCons (dC (.str "g")) dNil)) (dCons (dTup dNil) (dCons (dTup dNil) (dCons (dTup dNil) dNil)))))) dNil)))) (sIf (dOr (dTest (dOp pyNe (dTold (dCall sp_joined (dCons (dVar 11) (dCons (dVar 12) dNil)))) (dTup (dCons (dC (.str "refused")) (dCons (dC (.str "BadRights")) dNil))))) (dTest (dOp pyNe (dCall sp_joined (dCons (dVar 11) (dCons (dVar 11) dNil))) (dVar 11)))) (sRet (dC (.bl false))) sNext)))))))
def v_law_0_11 : DTS := (sSeq (sIf (dAnd (dTest (dCall sp_within (dCons (dVar 4) (dCons (dVar 2) dNil)))) (dAnd (dTest (dCall sp_within (dCons (dVar 4) (dCons (dVar 3) dNil)))) (dNot (dTest (dCall sp_within (dCons (dVar 4) (dCons (dVar 9) dNil))))))) (sRet (dC (.bl false))) sNext) (sSeq (sIf (dOr (dTest (dOp pyNe (dCall sp_met (dCons (dVar 2) (dCons (dVar 10) dNil))) (dVar 2))) (dTest (dOp pyNe (dCall sp_joined (dCons (dVar 2) (dCons (dVar 9) dNil))) (dVar 2)))) (sRet (dC (.bl false))) sNext) (sSeq (sIf (dTest (dOp pyNe (dCall sp_met (dCons (dVar 2) (dCons (dCall sp_met (dCons (dVar 3) (dCons (dVar 4) dNil))) dNil))) (dCall sp_met (dCons (dVar 9) (dCons (dVar 4) dNil))))) (sRet (dC (.bl false))) sNext) (sSeq (sIf (dNot (dTest (dCall sp__law_rights_refused (dCons (dVar 2) dNil)))) (sRet (dC (.bl false))) sNext) (sSeq (sTg (.t [11, 12]) (dTup (dCons (dTup (dCons (dC (.int 1)) (dCons (dB pyTupS (dCons (dC (.str "abcdef")) dNil)) (dCons (dTup dNil) (dCons (dTup dNil) (dCons (dTup dNil) dNil)))))) (dCons (dTup (dCons (dC (.int 1)) (dCons (dTup (dCons (dC (.str "g")) dNil)) (dCons (dTup dNil) (dCons (dTup dNil) (dCons (dTup dNil) dNil)))))) dNil)))) (sIf (dOr (dTest (dOp pyNe (dTold (dCall sp_joined (dCons (dVar 11) (dCons (dVar 12) dNil)))) (dTup (dCons (dC (.str "refused")) (dCons (dC (.str "BadRights")) dNil))))) (dTest (dOp pyNe (dCall sp_joined (dCons (dVar 11) (dCons (dVar 11) dNil))) (dVar 11)))) (sRet (dC (.bl false))) sNext))))))
def v_law_0_12 : DTS := (sSeq (sIf (dOr (dTest (dOp pyNe (dCall sp_met (dCons (dVar 2) (dCons (dVar 10) dNil))) (dVar 2))) (dTest (dOp pyNe (dCall sp_joined (dCons (dVar 2) (dCons (dVar 9) dNil))) (dVar 2)))) (sRet (dC (.bl false))) sNext) (sSeq (sIf (dTest (dOp pyNe (dCall sp_met (dCons (dVar 2) (dCons (dCall sp_met (dCons (dVar 3) (dCons (dVar 4) dNil))) dNil))) (dCall sp_met (dCons (dVar 9) (dCons (dVar 4) dNil))))) (sRet (dC (.bl false))) sNext) (sSeq (sIf (dNot (dTest (dCall sp__law_rights_refused (dCons (dVar 2) dNil)))) (sRet (dC (.bl false))) sNext) (sSeq (sTg (.t [11, 12]) (dTup (dCons (dTup (dCons (dC (.int 1)) (dCons (dB pyTupS (dCons (dC (.str "abcdef")) dNil)) (dCons (dTup dNil) (dCons (dTup dNil) (dCons (dTup dNil) dNil)))))) (dCons (dTup (dCons (dC (.int 1)) (dCons (dTup (dCons (dC (.str "g")) dNil)) (dCons (dTup dNil) (dCons (dTup dNil) (dCons (dTup dNil) dNil)))))) dNil)))) (sIf (dOr (dTest (dOp pyNe (dTold (dCall sp_joined (dCons (dVar 11) (dCons (dVar 12) dNil)))) (dTup (dCons (dC (.str "refused")) (dCons (dC (.str "BadRights")) dNil))))) (dTest (dOp pyNe (dCall sp_joined (dCons (dVar 11) (dCons (dVar 11) dNil))) (dVar 11)))) (sRet (dC (.bl false))) sNext)))))
def v_law_0_13 : DTS := (sSeq (sIf (dTest (dOp pyNe (dCall sp_met (dCons (dVar 2) (dCons (dCall sp_met (dCons (dVar 3) (dCons (dVar 4) dNil))) dNil))) (dCall sp_met (dCons (dVar 9) (dCons (dVar 4) dNil))))) (sRet (dC (.bl false))) sNext) (sSeq (sIf (dNot (dTest (dCall sp__law_rights_refused (dCons (dVar 2) dNil)))) (sRet (dC (.bl false))) sNext) (sSeq (sTg (.t [11, 12]) (dTup (dCons (dTup (dCons (dC (.int 1)) (dCons (dB pyTupS (dCons (dC (.str "abcdef")) dNil)) (dCons (dTup dNil) (dCons (dTup dNil) (dCons (dTup dNil) dNil)))))) (dCons (dTup (dCons (dC (.int 1)) (dCons (dTup (dCons (dC (.str "g")) dNil)) (dCons (dTup dNil) (dCons (dTup dNil) (dCons (dTup dNil) dNil)))))) dNil)))) (sIf (dOr (dTest (dOp pyNe (dTold (dCall sp_joined (dCons (dVar 11) (dCons (dVar 12) dNil)))) (dTup (dCons (dC (.str "refused")) (dCons (dC (.str "BadRights")) dNil))))) (dTest (dOp pyNe (dCall sp_joined (dCons (dVar 11) (dCons (dVar 11) dNil))) (dVar 11)))) (sRet (dC (.bl false))) sNext))))
def v_law_0_14 : DTS := (sSeq (sIf (dNot (dTest (dCall sp__law_rights_refused (dCons (dVar 2) dNil)))) (sRet (dC (.bl false))) sNext) (sSeq (sTg (.t [11, 12]) (dTup (dCons (dTup (dCons (dC (.int 1)) (dCons (dB pyTupS (dCons (dC (.str "abcdef")) dNil)) (dCons (dTup dNil) (dCons (dTup dNil) (dCons (dTup dNil) dNil)))))) (dCons (dTup (dCons (dC (.int 1)) (dCons (dTup (dCons (dC (.str "g")) dNil)) (dCons (dTup dNil) (dCons (dTup dNil) (dCons (dTup dNil) dNil)))))) dNil)))) (sIf (dOr (dTest (dOp pyNe (dTold (dCall sp_joined (dCons (dVar 11) (dCons (dVar 12) dNil)))) (dTup (dCons (dC (.str "refused")) (dCons (dC (.str "BadRights")) dNil))))) (dTest (dOp pyNe (dCall sp_joined (dCons (dVar 11) (dCons (dVar 11) dNil))) (dVar 11)))) (sRet (dC (.bl false))) sNext)))
def v_law_0_15 : DTS := (sSeq (sTg (.t [11, 12]) (dTup (dCons (dTup (dCons (dC (.int 1)) (dCons (dB pyTupS (dCons (dC (.str "abcdef")) dNil)) (dCons (dTup dNil) (dCons (dTup dNil) (dCons (dTup dNil) dNil)))))) (dCons (dTup (dCons (dC (.int 1)) (dCons (dTup (dCons (dC (.str "g")) dNil)) (dCons (dTup dNil) (dCons (dTup dNil) (dCons (dTup dNil) dNil)))))) dNil)))) (sIf (dOr (dTest (dOp pyNe (dTold (dCall sp_joined (dCons (dVar 11) (dCons (dVar 12) dNil)))) (dTup (dCons (dC (.str "refused")) (dCons (dC (.str "BadRights")) dNil))))) (dTest (dOp pyNe (dCall sp_joined (dCons (dVar 11) (dCons (dVar 11) dNil))) (dVar 11)))) (sRet (dC (.bl false))) sNext))
/-! ### k03: the law -/
section
open PL
variable {ps : List Addr} {p : Addr} {F L : List Asr} {G : DG} {E : DXK} {DE : DEnds} {r s t : R4} {a0 a2 a3 a4 a5 a6 a7 a8 a9 a10 a11 a12 : Option D}
theorem max_r : pyMax2 G [nD r.room, nD s.room] = some (nD (joinR r s).room) := by
  show some (D.int (if (s.room : Int) > (r.room : Int) then (s.room : Int) else (r.room : Int))) = some (D.int ((max r.room s.room : Nat) : Int))
  congr 2
  split <;> omega
theorem min_r : pyMin2 G [nD r.room, nD s.room] = some (nD (metR r s).room) := by
  show some (D.int (if (s.room : Int) < (r.room : Int) then (s.room : Int) else (r.room : Int))) = some (D.int ((min r.room s.room : Nat) : Int))
  congr 2
  split <;> omega
theorem ne_rt (h : r.room ≤ 60) : pyNe G r.D r.D = some (.bl false) := ne_refl (rights_okD (R4.ok h) 38)
theorem ne_wds {xs : List D} (h : ∀ x ∈ xs, IsW x) : pyNe G (.lst xs) (.lst xs) = some (.bl false) := ne_refl (ok_ws h)
theorem ne_b {b : Bool} : pyNe G (.bl b) (.bl b) = some (.bl false) := ne_refl rfl
theorem ne_n {n : Nat} : pyNe G (nD n) (nD n) = some (.bl false) := ne_refl rfl
abbrev l03 (a0 : Option D) (p : Addr) (r s t : R4) (a8 a9 a10 a11 a12 : Option D) : DSt := [a0, some (.ref p), some r.D, some s.D, some t.D, some (.lst (hasS r)), some (.lst (hasS s)), some (.lst (excS r s)), a8, a9, a10, a11, a12]
abbrev abD : D := .tup [.int 1, .tup [.str "a", .str "b", .str "c", .str "d", .str "e", .str "f"], t0, t0, t0]
abbrev gD : D := .tup [.int 1, .tup [.str "g"], t0, t0, t0]
/-- from the laws of sets on -/
theorem k03_tail (r60 : r.room ≤ 60) (s60 : s.room ≤ 60) (t60 : t.room ≤ 60) (hs : Stars [DiceA ps] G) (k : ∀ a8 a9 a10 a11 a12 G', Stars [DiceA ps] G' → DE.nx (l03 a0 p r s t a8 a9 a10 a11 a12) G') :
    v_law_0_9 E DE (l03 a0 p r s t a8 (some (metR r s).D) (some (joinR r s).D) a11 a12) G := by
  have m60 : (metR r s).room ≤ 60 := by show min _ _ ≤ 60; omega
  have j60 : (joinR r s).room ≤ 60 := by show max _ _ ≤ 60; omega
  have mt60 : (metR s t).room ≤ 60 := by show min _ _ ≤ 60; omega
  -- within
  refine ⟨_, rfl, _, rfl, ?_⟩
  dsimp only [dNil]
  refine x_within (r := metR r s) (s := r) m60 r60 ?_
  rw [met_l]
  refine ⟨_, rfl, ?_⟩
  try refine ifF rfl ?_
  refine ⟨_, rfl, _, rfl, ?_⟩
  dsimp only [dNil]
  refine x_within (r := metR r s) (s := s) m60 s60 ?_
  rw [met_r]
  refine ⟨_, rfl, ?_⟩
  try refine ifF rfl ?_
  refine ⟨_, rfl, _, rfl, ?_⟩
  dsimp only [dNil]
  refine x_within (r := r) (s := joinR r s) r60 j60 ?_
  rw [win_join]
  refine ⟨_, rfl, ifF rfl ?_⟩
  -- beyond
  show v_law_0_10 _ _ _ _
  refine ⟨_, rfl, _, rfl, ?_⟩
  dsimp only [dNil]
  refine x_beyond (r := joinR r s) (s := joinR r s) j60 j60 ?_
  rw [exc_self]
  refine ⟨by decide, _, rfl, _, rfl, ifF rfl ?_⟩
  -- the third
  show v_law_0_11 _ _ _ _
  refine ⟨_, rfl, _, rfl, ?_⟩
  dsimp only [dNil]
  refine x_within (r := t) (s := r) t60 r60 ?_
  have rest : ∀ G', Stars [DiceA ps] G' → v_law_0_12 E DE (l03 a0 p r s t a8 (some (metR r s).D) (some (joinR r s).D) a11 a12) G' := by
    intro G hs
    -- met(one, either) == one
    refine ⟨_, rfl, _, rfl, ?_⟩
    dsimp only [dNil]
    refine x_metR (r := r) (s := joinR r s) r60 j60 ?_
    rw [met_join]
    refine ⟨_, rfl, _, ne_rt r60, _, rfl, ifF rfl ?_⟩
    refine ⟨_, rfl, _, rfl, ?_⟩
    dsimp only [dNil]
    refine x_join (r := r) (s := metR r s) r60 m60 ?_
    rw [join_met]
    refine ⟨_, rfl, _, ne_rt r60, _, rfl, ifF rfl ?_⟩
    -- in any order
    show v_law_0_13 _ _ _ _
    refine ⟨_, rfl, ?_⟩
    refine ⟨_, rfl, _, rfl, ?_⟩
    dsimp only [dNil]
    refine x_metR (r := s) (s := t) s60 t60 ?_
    try dsimp only [dNil]
    refine x_metR (r := r) (s := metR s t) r60 mt60 ?_
    rw [met_assoc]
    refine ⟨_, rfl, _, rfl, ?_⟩
    dsimp only [dNil]
    refine x_metR (r := metR r s) (s := t) m60 t60 ?_
    refine ⟨_, ne_rt (r := metR (metR r s) t) (by show min _ _ ≤ 60; omega), _, rfl, ifF rfl ?_⟩
    show v_law_0_14 _ _ _ _
    refine ⟨_, rfl, ?_⟩
    dsimp only [dNil]
    refine x_refused r60 hs fun G' hs => ?_
    refine ⟨_, rfl, ifF rfl ?_⟩
    -- six and more
    show v_law_0_15 _ _ _ _
    (repeat first | refine Exists.intro _ (And.intro rfl ?_) | (refine PL.le_e ?_ ?_; (focus (simp; done))) | refine And.intro (show _ = some "str" from rfl) ?_ | refine And.intro (And.intro rfl (by decide)) ?_ | refine PL.ifF rfl ?_ | refine PL.ifT rfl ?_ | refine PL.par_e rfl ?_ | refine PL.some_e rfl ?_ | refine PL.asg_e rfl ?_); try dsimp only [dNil]
    refine ev_joined [abD, gD] (.error ("BadRights", none)) (by kernel_rfl) _ _ _ ?_
    refine ⟨_, rfl, by decide, ?_⟩
    refine ⟨(by decide : 2 ≤ 16000000), _, told_eq (by decide), _, rfl, ifF rfl ?_⟩
    refine ⟨_, rfl, _, rfl, ?_⟩
    dsimp only [dNil]
    refine ev_joined [abD, abD] (.ok abD) (by kernel_rfl) _ _ _ ?_
    refine ⟨_, rfl, _, ne_refl (by decide), _, rfl, ifF rfl ?_⟩
    exact k _ _ _ _ _ _ hs
  cases h1 : winB t r
  · refine ⟨_, rfl, ?_⟩
    exact ifF rfl (rest G hs)
  · refine ⟨_, rfl, ?_⟩
    refine ifT rfl ?_
    refine ⟨_, rfl, _, rfl, ?_⟩
    dsimp only [dNil]
    refine x_within (r := t) (s := s) t60 s60 ?_
    cases h2 : winB t s
    · refine ⟨_, rfl, ?_⟩
      exact ifF rfl (rest G hs)
    · refine ⟨_, rfl, ?_⟩
      refine ifT rfl ?_
      refine ⟨_, rfl, _, rfl, ?_⟩
      dsimp only [dNil]
      refine x_within (r := t) (s := metR r s) t60 m60 ?_
      rw [win_met h1 h2]
      refine ⟨_, rfl, ?_⟩
      exact ifF rfl (rest G hs)
theorem no_filter {G : DG} {env : DSt} (h8 : ∀ d : D, ((wipeD env [8]).set 8 (some d))[8]? = some (some d)) (h6 : ∀ d : D, ((wipeD env [8]).set 8 (some d))[6]? = some (some (.lst (hasS s)))) {guard : DG → Prop} (hg : guard G) {P : List D → DG → Prop} (k : P ((allW.filter fun w => r.h w && !s.h w).map Wd.toD) G) :
    dLcL (.n 8) (dTest (dOp pyNotInT (dVar 8) (dVar 6))) (dVar 8) guard (wipeD env [8]) (hasS r) G P := by
  refine lcl_fm (I := fun G' => G' = G) (g := Wd.toD) (f := Wd.toD) (b := fun w => !s.h w) (l := allW.filter r.h) (fun _ e => by subst e; exact hg) rfl (fun x mx G2 K1 K0 e k1 k0 => ?_) fun G2 e => ?_
  · subst e
    simp only [dTg]
    refine ⟨_, h8 _, _, h6 _, _, notin_has (List.mem_filter.mp mx).1, _, rfl, ?_⟩
    cases c : s.h x
    · exact ifT rfl ⟨_, h8 _, k1 (by simp [c]) _ rfl⟩
    · exact ifF rfl (k0 (by simp [c]) _ rfl)
  subst e
  rw [List.filter_filter] 
  have e : (allW.filter fun w => !s.h w && r.h w) = allW.filter fun w => r.h w && !s.h w := List.filter_congr fun w m => Bool.and_comm _ _
  rw [e]
  exact k
theorem in_filter {G : DG} {env : DSt} (h8 : ∀ d : D, ((wipeD env [8]).set 8 (some d))[8]? = some (some d)) (h6 : ∀ d : D, ((wipeD env [8]).set 8 (some d))[6]? = some (some (.lst (hasS s)))) {guard : DG → Prop} (hg : guard G) {P : List D → DG → Prop} (k : P (hasS (metR r s)) G) :
    dLcL (.n 8) (dTest (dOp pyInT (dVar 8) (dVar 6))) (dVar 8) guard (wipeD env [8]) (hasS r) G P := by
  refine lcl_fm (I := fun G' => G' = G) (g := Wd.toD) (f := Wd.toD) (b := fun w => s.h w) (l := allW.filter r.h) (fun _ e => by subst e; exact hg) rfl (fun x mx G2 K1 K0 e k1 k0 => ?_) fun G2 e => ?_
  · subst e
    simp only [dTg]
    refine ⟨_, h8 _, _, h6 _, _, in_has (List.mem_filter.mp mx).1, _, rfl, ?_⟩
    cases c : s.h x
    · exact ifF rfl (k0 (by simp [c]) _ rfl)
    · exact ifT rfl ⟨_, h8 _, k1 (by simp [c]) _ rfl⟩
  subst e
  rw [List.filter_filter]
  have e : (allW.filter fun w => s.h w && r.h w) = allW.filter fun w => r.h w && s.h w := List.filter_congr fun w m => Bool.and_comm _ _
  rw [e]
  exact k
theorem round_body (hp : p ∈ ps) (hs : Stars [DiceA ps] G) (k : ∀ env G', env.length = 13 → Stars [DiceA ps] G' → DE.nx env G') : b_law_0 E DE [a0, some (.ref p), a2, a3, a4, a5, a6, a7, a8, a9, a10, a11, a12] G := by
  show sSeq _ v_law_0_1 _ _ _ _
  refine ⟨_, rfl, ?_⟩
  dsimp only [dNil]
  refine srightsF hp hs fun r G hr hs => ?_
  refine ⟨_, rfl, ?_⟩
  dsimp only [dNil]
  refine srightsF hp hs fun s G hs' hs => ⟨rfl, ?_⟩
  show v_law_0_1 E DE [a0, some (.ref p), some r.D, some s.D, a4, a5, a6, a7, a8, a9, a10, a11, a12] _
  refine ⟨_, rfl, ?_⟩
  dsimp only [dNil]
  refine srightsF hp hs fun t G ht hs => ?_
  have r60 : r.room ≤ 60 := by omega
  have s60 : s.room ≤ 60 := by omega
  have t60 : t.room ≤ 60 := by omega
  have m60 : (metR r s).room ≤ 60 := by show min _ _ ≤ 60; omega
  have j60 : (joinR r s).room ≤ 60 := by show max _ _ ≤ 60; omega
  show v_law_0_2 E DE [a0, some (.ref p), some r.D, some s.D, some t.D, a5, a6, a7, a8, a9, a10, a11, a12] _
  refine ⟨_, rfl, ?_⟩
  dsimp only [dNil]
  refine x_has ?_
  refine ⟨_, rfl, ?_⟩
  dsimp only [dNil]
  refine x_has ?_
  refine ⟨(by show 2 ≤ 16000000; omega), _, rfl, rfl, ?_⟩
  show v_law_0_3 E DE [a0, some (.ref p), some r.D, some s.D, some t.D, some (.lst (hasS r)), some (.lst (hasS s)), a7, a8, a9, a10, a11, a12] _
  have l10 : ∀ r : R4, (hasS r).length ≤ 10 := fun r => by
    unfold hasS
    rw [List.length_map]
    exact List.length_filter_le _ _
  have e10 : ((allW.filter fun w => r.h w && !s.h w).map Wd.toD).length ≤ 10 := by
    rw [List.length_map]
    exact List.length_filter_le _ _
  have after : ∀ G, Stars [DiceA ps] G → v_law_0_4 E DE (l03 a0 p r s t a8 a9 a10 a11 a12) G := by
    intro G hs
    refine ⟨_, rfl, _, rfl, ?_⟩
    dsimp only [dNil]
    refine x_beyond r60 s60 ?_
    refine ⟨_, rfl, _, ne_wds (sort_w excU_w), _, rfl, ifF rfl ?_⟩
    refine ⟨_, rfl, _, rfl, ?_⟩
    dsimp only [dNil]
    refine x_within r60 s60 ?_
    refine ⟨_, rfl, by decide, _, eq_exc, _, ne_b, _, rfl, ifF rfl ?_⟩
    show v_law_0_5 _ _ _ _
    refine ⟨_, rfl, ?_⟩
    dsimp only [dNil]
    refine ev_is_rights [r.D] (.ok (.bl true)) (by rw [show e_is_rights = PL.e_is_rights from rfl, is_rights_eq (n := 38) (rights_okD (R4.ok r60) 38), R4.ok r60]) _ _ _ ?_
    refine ⟨_, rfl, _, rfl, ifF rfl ?_⟩
    show v_law_0_6 _ _ _ _
    refine ⟨_, rfl, _, rfl, ?_⟩
    dsimp only [dNil]
    refine x_metR r60 s60 ?_
    refine ⟨_, rfl, _, rfl, ?_⟩
    dsimp only [dNil]
    refine x_join r60 s60 ⟨rfl, ?_⟩
    show v_law_0_7 E DE (l03 a0 p r s t a8 (some (metR r s).D) (some (joinR r s).D) a11 a12) _
    refine ⟨_, rfl, ?_⟩
    dsimp only [dNil]
    refine x_has (r := metR r s) ?_
    refine ⟨_, rfl, _, rfl, Nat.le_trans (l10 r) (by decide), ?_⟩
    refine in_filter (r := r) (s := s) (fun _ => by rfl) (fun _ => by rfl) (by rfl) ?_
    refine ⟨_, ne_wds hasS_w, _, rfl, ifF rfl ?_⟩
    refine ⟨_, rfl, _, rfl, _, rfl, _, rfl, _, rfl, _, rfl, _, min_r, _, ne_n, _, rfl, ifF rfl ?_⟩
    show v_law_0_8 _ _ _ _
    refine ⟨_, rfl, ?_⟩
    dsimp only [dNil]
    refine x_has (r := joinR r s) ?_
    refine ⟨_, rfl, _, rfl, _, add_l (by have := l10 r; have := l10 s; omega), _, set_has r s, _, ne_wds hasS_w, _, rfl, ifF rfl ?_⟩
    refine ⟨_, rfl, _, rfl, _, rfl, _, rfl, _, rfl, _, rfl, _, max_r, _, ne_n, _, rfl, ifF rfl ?_⟩
    exact k03_tail r60 s60 t60 hs fun a8 a9 a10 a11 a12 G' hs => k _ G' rfl hs
  have es : pySortedX G [.lst (excL r s)] = some (.lst (excS r s)) := by
    show (if mixD (excL r s) = true then some (D.lst (sortD (excL r s))) else none) = _
    rw [if_pos (mix_ws excL_w), excL_s]
  refine ⟨_, rfl, _, rfl, Nat.le_trans (l10 r) (by decide), ?_⟩
  refine no_filter (r := r) (s := s) (fun _ => by rfl) (fun _ => by rfl) (by rfl) ?_
  refine ⟨_, rfl, _, rfl, (by decide : 2 ≤ 16000000), (by decide : 1 ≤ 16000000), ?_⟩
  by_cases c : s.room < r.room
  · have eg : pyGt G (nD r.room) (nD s.room) = some (.bl true) := by
      show some (D.bl (decide ((r.room : Int) > (s.room : Int)))) = _
      rw [decide_eq_true (by omega)]
    have el : excL r s = (allW.filter fun w => r.h w && !s.h w).map Wd.toD ++ [roomD r.room] := by
      unfold excL
      rw [if_pos c]
    rw [el] at es
    refine ⟨_, rfl, _, rfl, _, rfl, _, rfl, _, eg, _, rfl, _, rfl, _, add_l (by show _ + 1 ≤ _; omega), _, es, ?_⟩
    exact after _ hs
  · have eg : pyGt G (nD r.room) (nD s.room) = some (.bl false) := by
      show some (D.bl (decide ((r.room : Int) > (s.room : Int)))) = _
      rw [decide_eq_false (by omega)]
    have el : excL r s = (allW.filter fun w => r.h w && !s.h w).map Wd.toD ++ [] := by
      unfold excL
      rw [if_neg c]
    rw [el] at es
    refine ⟨_, rfl, _, rfl, _, rfl, _, rfl, _, eg, _, rfl, _, rfl, _, add_l (by show _ + 0 ≤ _; omega), _, es, ?_⟩
    exact after _ hs
theorem env13 {env : DSt} (h : env.length = 13) : ∃ a0 a1 a2 a3 a4 a5 a6 a7 a8 a9 a10 a11 a12, env = [a0, a1, a2, a3, a4, a5, a6, a7, a8, a9, a10, a11, a12] := by
  match env, h with
  | [a0, a1, a2, a3, a4, a5, a6, a7, a8, a9, a10, a11, a12], _ => exact ⟨a0, a1, a2, a3, a4, a5, a6, a7, a8, a9, a10, a11, a12, rfl⟩
theorem plain (ns : List Int) (hl : ns.length ≤ 1000000) : sp_law [.scr ns] G0 (fun d _ => d = .bl true) fun _ _ => False := by
  refine ⟨rfl, ?_⟩
  show sSeq (sFor _ _ b_law_0) _ _ _ _ _
  refine ⟨_, rfl, ?_⟩
  refine rounds_ok hl (by decide) (by decide) fun ps G' _ hd _ => ⟨_, rfl, ?_⟩
  have loop : ∀ (E : DXK) (DE : DEnds), (∀ env G, DE.nx env G) → ∀ (qs : List Addr) (env : DSt) (G : DG), env.length = 13 → (∀ q ∈ qs, q ∈ ps) → Stars [DiceA ps] G → dLoop E (.n 1) b_law_0 DE (fun G' => iterD G' (.lst (ps.map .ref)) = some (ps.map .ref)) (qs.map .ref) env G := by
    intro E DE hn qs
    induction qs with
    | nil => intro env G _ _ _; exact ⟨rfl, hn _ _⟩
    | cons p qs ih =>
      intro env G he hq hs
      refine ⟨rfl, ?_⟩
      obtain ⟨a0, a1, a2, a3, a4, a5, a6, a7, a8, a9, a10, a11, a12, rfl⟩ := env13 he
      exact round_body (hq p List.mem_cons_self) hs fun env' G2 hl' hd2 => ih env' G2 hl' (fun q hq' => hq q (List.mem_cons_of_mem _ hq')) hd2
  exact loop _ _ (fun _ _ => rfl) ps _ G' rfl (fun q hq => hq) ⟨G', fun _ => none, fun _ => .inr rfl, Ext.refl _, fun _ h => absurd rfl h, hd, trivial⟩
end
end K03

namespace K03
open PySem PySem.Spec PyProof.Rows L2 LamX HotX L2H DL
theorem facts {P : Program} {w : World} {K : PySem.W.Frag} {h base : Heap} {mg : Str → Option Value} (X : K.In h) (G : h.Ns mainGlobals mg) (c : He.SaysX fa fn ts tf ex w h K) (hT : ∀ p ∈ ([He.cT K ("law", none), He.cT K ("_law_rights_refused", none)] : List (Addr × Addr)), LamX.TabB base mg p.1 p.2) : Fx P w K [((He.cT K ("law", none)).2, Str.ofString "law.<locals>.<lambda>"), ((He.cT K ("_law_rights_refused", none)).2, Str.ofString "_law_rights_refused.<locals>.<lambda>")] mg base := by
  have d := c.t.d
  have m := c.more
  simp only [ex, Bool.and_eq_true] at m
  exact {
    free := fun x hx => by
      simp only [List.mem_cons, List.not_mem_nil, or_false] at hx
      rcases hx with rfl | rfl | rfl | rfl | rfl | rfl | rfl | rfl | rfl | rfl | rfl | rfl | rfl | rfl | rfl | rfl
      · exact He.free_ok X G (d.fact 38)
      · exact He.free_ok X G (d.fact 39)
      · exact He.free_ok X G (d.fact 40)
      · exact He.free_ok X G (d.fact 41)
      · exact He.free_ok X G (d.fact 42)
      · exact He.free_ok X G (d.fact 43)
      · exact He.free_ok X G (d.fact 44)
      · exact He.free_ok X G (d.fact 45)
      · exact He.free_ok X G (d.fact 46)
      · exact He.free_ok X G (d.fact 47)
      · exact He.free_ok X G (d.fact 48)
      · exact He.free_ok X G (d.fact 49)
      · exact He.free_ok X G (d.fact 50)
      · exact He.free_ok X G (d.fact 51)
      · exact He.free_ok X G (d.fact 52)
      · exact He.free_ok X G (d.fact 53)
    gi_MOST_ROOM := He.int_ok X G (d.fact 54)
    gs_SIGNS := He.str_ok X G (d.fact 55)
    gs_SMALL := He.str_ok X G (d.fact 56)
    tu_SORTS := tupG_of (He.glo_ok X G (d.fact 37)) m.1.2
    xc_BadRights := ⟨d.fact 57, He.glo_ok X G (d.fact 58)⟩
    cl_Cage := He.cls_ok (d.fact 26)
    cl_Shared := He.cls_ok (d.fact 27)
    mk_Cage := He.mkr_ok (d.fact 28)
    mg_Cage := He.glo_ok X G (d.fact 29)
    mk_Shared := He.mkr_ok (d.fact 30)
    mg_Shared := He.glo_ok X G (d.fact 31)
    fl_boxes := fun c hc => by
      rw [List.mem_singleton] at hc
      subst hc
      exact ⟨He.cls_ok (d.fact 27), He.noat_ok (d.fact 32)⟩
    fl_given := fun c hc => by
      rw [List.mem_singleton] at hc
      subst hc
      exact ⟨He.cls_ok (d.fact 26), He.noat_ok (d.fact 33)⟩
    fl_sheets := fun c hc => by
      rw [List.mem_singleton] at hc
      subst hc
      exact ⟨He.cls_ok (d.fact 27), He.noat_ok (d.fact 34)⟩
    fl_table := fun c hc => by
      rw [List.mem_singleton] at hc
      subst hc
      exact ⟨He.cls_ok (d.fact 26), He.noat_ok (d.fact 35)⟩
    fl_world := fun c hc => by
      rw [List.mem_singleton] at hc
      subst hc
      exact ⟨He.cls_ok (d.fact 26), He.noat_ok (d.fact 36)⟩
    fd__law_door_pool := d.def_ 0
    mg__law_door_pool := He.glo_ok X G (d.fact 0)
    fd__law_page_pool := d.def_ 1
    mg__law_page_pool := He.glo_ok X G (d.fact 1)
    fd__law_drawn := d.def_ 2
    mg__law_drawn := He.glo_ok X G (d.fact 2)
    fd__law_roll := d.def_ 3
    mg__law_roll := He.glo_ok X G (d.fact 3)
    fd__law_some_of := d.def_ 4
    mg__law_some_of := He.glo_ok X G (d.fact 4)
    fd__law_any_rights := d.def_ 5
    mg__law_any_rights := He.glo_ok X G (d.fact 5)
    fd__law_has := d.def_ 6
    mg__law_has := He.glo_ok X G (d.fact 6)
    fd_Shared___init__ := d.def_ 7
    fd_is_word := d.def_ 8
    mg_is_word := He.glo_ok X G (d.fact 7)
    fd_is_row := d.def_ 9
    mg_is_row := He.glo_ok X G (d.fact 8)
    fd_is_whole := d.def_ 10
    mg_is_whole := He.glo_ok X G (d.fact 9)
    fd_is_rights := d.def_ 11
    mg_is_rights := He.glo_ok X G (d.fact 10)
    fd_need_rights := d.def_ 12
    mg_need_rights := He.glo_ok X G (d.fact 11)
    fd_Cage___init__ := d.def_ 13
    fd__law_term := d.def_ 14
    mg__law_term := He.glo_ok X G (d.fact 12)
    fd__law_told := d.def_ 15
    mg__law_told := He.glo_ok X G (d.fact 13)
    fd_excess_of := d.def_ 16
    mg_excess_of := He.glo_ok X G (d.fact 14)
    fd_need_both := d.def_ 17
    mg_need_both := He.glo_ok X G (d.fact 15)
    fd_beyond := d.def_ 18
    mg_beyond := He.glo_ok X G (d.fact 16)
    fd_joined := d.def_ 19
    mg_joined := He.glo_ok X G (d.fact 17)
    fd_met_of := d.def_ 20
    mg_met_of := He.glo_ok X G (d.fact 18)
    fd_met := d.def_ 21
    mg_met := He.glo_ok X G (d.fact 19)
    fd_rights_text := d.def_ 22
    mg_rights_text := He.glo_ok X G (d.fact 20)
    fd_within := d.def_ 23
    mg_within := He.glo_ok X G (d.fact 21)
    fd__law_rights_refused := d.def_ 24
    mg__law_rights_refused := He.glo_ok X G (d.fact 22)
    fd__law_cell := d.def_ 25
    mg__law_cell := He.glo_ok X G (d.fact 23)
    fd__law_rounds := d.def_ 26
    mg__law_rounds := He.glo_ok X G (d.fact 24)
    fd_law := d.def_ 27
    mg_law := He.glo_ok X G (d.fact 25)
    told := toldB_ok m.1.1
    mgC := fun x hx => by
      simp only [kinds13, List.cons_append, List.nil_append, List.mem_cons, List.not_mem_nil, or_false] at hx
      rcases hx with rfl | rfl | rfl | rfl | rfl | rfl | rfl | rfl | rfl | rfl | rfl | rfl | rfl | rfl
      · exact He.glo_ok X G (d.fact 59)
      · exact He.glo_ok X G (d.fact 58)
      · exact He.glo_ok X G (d.fact 60)
      · exact He.glo_ok X G (d.fact 61)
      · exact He.glo_ok X G (d.fact 62)
      · exact He.glo_ok X G (d.fact 63)
      · exact He.glo_ok X G (d.fact 64)
      · exact He.glo_ok X G (d.fact 65)
      · exact He.glo_ok X G (d.fact 66)
      · exact He.glo_ok X G (d.fact 67)
      · exact He.glo_ok X G (d.fact 68)
      · exact He.glo_ok X G (d.fact 69)
      · exact He.glo_ok X G (d.fact 70)
      · exact He.glo_ok X G (d.fact 71)
    lamt_law := ⟨(He.cT K ("law", none)).2, hT (He.cT K ("law", none)) (by simp), by simp, fun p hp e => by
      simp only [List.mem_cons, List.not_mem_nil, or_false] at hp
      rcases hp with rfl | rfl
      · exact rfl
      · exact absurd e (of_decide_eq_true m.2)⟩
    lamt__law_rights_refused := ⟨(He.cT K ("_law_rights_refused", none)).2, hT (He.cT K ("_law_rights_refused", none)) (by simp), by simp, fun p hp e => by
      simp only [List.mem_cons, List.not_mem_nil, or_false] at hp
      rcases hp with rfl | rfl
      · exact absurd e (Ne.symm (of_decide_eq_true m.2))
      · exact rfl⟩ }
theorem cx_none {P : Program} {w : World} {o : List Env} {H : Hp} {s : Shared} {e : Value} {t : Shared} (z : LN.CX P w o H s (fun _ _ _ => False) e t) : False := by
  obtain ⟨_, _, _, _, _, _, _, _, _, _, _, _, _, _, z⟩ := z
  exact z
theorem lawAt {w : World} {K : PySem.W.Frag} {h : Heap} {mg : Str → Option Value} {fa : Addr} (X : K.In h) (G : h.Ns mainGlobals mg) (hmg : mg ("law" : Str) = some (.ref fa)) (c : He.SaysX K03.fa fn ts tf ex w h K) : LawAtS PySem.Challenge.rw_cageworks_k03_whole_rights w K (LN.CX (PySem.Challenge.rw_cageworks_k03_whole_rights).prog w) 11 63 "script" mg fa h := by
  obtain ⟨fd, F⟩ := c.t.d.def_ 27
  have e := hmg.symm.trans (He.glo_ok X G (c.t.d.fact 25 (f := .glo "law") rfl))
  cases e
  have b := FunD.bindsA (ps := ["script"]) F fun _ _ _ _ _ _ us hl => match us, hl with | [_], _ => rfl
  refine ⟨fd, [He.cT K ("law", none), He.cT K ("_law_rights_refused", none)], liftSp K [((He.cT K ("law", none)).2, Str.ofString "law.<locals>.<lambda>"), ((He.cT K ("_law_rights_refused", none)).2, Str.ofString "_law_rights_refused.<locals>.<lambda>")] sp_law, ?_, ?_, ?_, fun s v => b s [v] rfl, fun H a ns hl _ hH hS => law_sp (fun p hp => by
      simp only [List.mem_cons, List.not_mem_nil, or_false] at hp
      rcases hp with rfl | rfl
      · exact TabS.nil (hH (He.cT K ("law", none)) (by simp))
      · exact TabS.nil (hH (He.cT K ("_law_rights_refused", none)) (by simp))) hS (plain ns (Nat.le_trans hl (by decide))), fun base _ _ hT => law_fn (facts X G c hT) F⟩
  · intro p hp
    exact by
        simp only [List.mem_cons, List.not_mem_nil, or_false] at hp
        rcases hp with rfl | rfl
        · exact c.empty ("law", none) (by simp [tf])
        · exact c.empty ("_law_rights_refused", none) (by simp [tf])
  · intro p hp
    exact by
        simp only [List.mem_cons, List.not_mem_nil, or_false] at hp
        rcases hp with rfl | rfl
        · exact c.out ("law", none) (by simp [tf])
        · exact c.out ("_law_rights_refused", none) (by simp [tf])
  · intro p hp
    exact by
        simp only [List.mem_cons, List.not_mem_nil, or_false] at hp
        rcases hp with rfl | rfl
        · exact PySem.W.codeHd_of_K X (c.hd ("law", none) (by simp [tf]))
        · exact PySem.W.codeHd_of_K X (c.hd ("_law_rights_refused", none) (by simp [tf]))
end K03
open PySem PySem.W PySem.Calls PyProof.Rows DL in
theorem K03.holds : PySem.Challenge.rw_cageworks_k03_whole_rights.Holds := by
  w_on; o_law
  refine HandSHeadRun.head_any (r := OpenLaw.row PySem.Challenge.rw_cageworks_k03_whole_rights) (q := view (OpenLaw.row PySem.Challenge.rw_cageworks_k03_whole_rights).prog [55]) (H := K03.hk) (ob := K03.ob) (M := 20000) (loose := K03.nms) (d := HandSHeadRun.topDef (OpenLaw.row PySem.Challenge.rw_cageworks_k03_whole_rights).prog 55) (kwd := []) K03.ob_eq
    (by kernel_rfl) (fun s => by kernel_rfl) K03.run (by kernel_rfl) (by kernel_rfl) (by kernel_rfl) (by rfl) (by first | assumption | decide +kernel) (by decide +kernel) ⟨rfl, rfl, rfl, rfl, rfl, by decide +kernel⟩ ?hw ?hc
  case hw => w_witness2
  case hc =>
    refine LamX.walk_ofTsE (l := PySem.Challenge.rw_cageworks_k03_whole_rights) (n := 63) (k := 11) (x := "script") (CX := fun w => LN.CX (PySem.Challenge.rw_cageworks_k03_whole_rights).prog w) rfl (by decide) (by kernel_rfl) ⟨rfl, by decide, by decide⟩ ?F (fun _ _ _ _ _ z => K03.cx_none z)
    intro w mg fa h Y G hmg0
    obtain ⟨K, KX, c⟩ := Y
    have hmg : mg ("law" : PySem.Str) = some (.ref fa) := by
      have e : (HandSHeadRun.topDef (OpenLaw.row PySem.Challenge.rw_cageworks_k03_whole_rights).prog 55).name = ("law" : PySem.Str) := by kernel_rfl
      rw [← e]
      exact hmg0
    exact ⟨K, KX, K03.lawAt KX G hmg c⟩

theorem PySem.Challenge.cw_cageworks_k03_whole_rights_holds : PySem.Challenge.rw_cageworks_k03_whole_rights.Holds := by
  exact K03.holds
